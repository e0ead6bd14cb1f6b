import PyProof.Rows.All
import Wide.All
import OpenK.AllK
import Wide.FinOn
import HandS.ForMost
import HandS.Defaults
import HandS.IsInst
import HandS.Property
import HandS.MakeKwOnly
import HandS.Exc
import HandS.ExcInit
import HandS.Walk
import KE.KStateDown
import HandS.Head0
import HandS.Head1
import HandS.Head2
import HandS.HeadEnd
import HandS.HeadHook1
import HandS.HeadHook2
import HandS.HeadHook3
import KE.GoesMore
import KE.GoesEnum
import PyProof.EnumMake
import PyProof.Draws
import OpenK.KOps
import OpenK.KMeth
import KE.KCallOwn
import HandS.Comp
import HandS.DictComp
import HandS.SetBool
import HandS.TupSets
import PyProof.DictMoreH
import HandS.Conv
import HandS.TupLen
import KE.SortData
import KE.LtData
import HandS.TupLe
import PyProof.ReprRoads
import HandS.Ends
import HandS.Codes
import HandS.FStr
import HandS.Strs
import HandS.SortInts
import HandS.More
import PyProof.ListRange
import PyProof.AssignAttr
import PyProof.Rows.GenSrcRange
import HandS.Style
import HandS.NoneIn
import PySem.Challenge.RW_thirdback_k85_whole_chains_and_facts
set_option Elab.async false
set_option linter.all false
set_option maxRecDepth 100000
set_option maxHeartbeats 0
/-! K85Math: the closure Got, no clash NC, and how both are carried over a bi-unique relation. Plain Lean. -/
namespace K85
abbrev T3 (α : Type) := α × α × α
section
variable {α β : Type}
def pick (t : T3 α) : Nat → α
  | 0 => t.1
  | 1 => t.2.1
  | _ => t.2.2
def oth (t : T3 α) : Nat → α × α
  | 0 => (t.2.1, t.2.2)
  | 1 => (t.1, t.2.2)
  | _ => (t.1, t.2.1)
def img (u : T3 Nat) (t : T3 α) : T3 α := (pick t u.1, pick t u.2.1, pick t u.2.2)
/-- what is got from B by the triples T -/
inductive Got (T : List (T3 α)) (B : List α) : α → Prop
  | base {x : α} : x ∈ B → Got T B x
  | step {t : T3 α} {p : Nat} : t ∈ T → p < 3 → Got T B (oth t p).1 → Got T B (oth t p).2 → Got T B (pick t p)
def Clo (T : List (T3 α)) (S : α → Prop) : Prop := ∀ t ∈ T, ∀ p, p < 3 → S (oth t p).1 → S (oth t p).2 → S (pick t p)
theorem Got.least {T : List (T3 α)} {B : List α} {S : α → Prop} (hB : ∀ x ∈ B, S x) (hC : Clo T S) {x : α} (h : Got T B x) : S x := by
  induction h with
  | base h => exact hB _ h
  | step ht hp _ _ i1 i2 => exact hC _ ht _ hp i1 i2
def R3 (R : α → β → Prop) (t : T3 α) (u : T3 β) : Prop := R t.1 u.1 ∧ R t.2.1 u.2.1 ∧ R t.2.2 u.2.2
theorem R3.pick {R : α → β → Prop} {t : T3 α} {u : T3 β} (h : R3 R t u) (n : Nat) : R (pick t n) (pick u n) := by
  obtain ⟨h1, h2, h3⟩ := h
  match n with
  | 0 => exact h1
  | 1 => exact h2
  | _ + 2 => exact h3
theorem R3.img {R : α → β → Prop} {t : T3 α} {u : T3 β} (h : R3 R t u) (w : T3 Nat) : R3 R (img w t) (img w u) := ⟨h.pick _, h.pick _, h.pick _⟩
theorem R3.oth1 {R : α → β → Prop} {t : T3 α} {u : T3 β} (h : R3 R t u) (p : Nat) : R (oth t p).1 (oth u p).1 := by
  obtain ⟨h1, h2, h3⟩ := h
  match p with
  | 0 => exact h2
  | 1 => exact h1
  | _ + 2 => exact h1
theorem R3.oth2 {R : α → β → Prop} {t : T3 α} {u : T3 β} (h : R3 R t u) (p : Nat) : R (oth t p).2 (oth u p).2 := by
  obtain ⟨h1, h2, h3⟩ := h
  match p with
  | 0 => exact h3
  | 1 => exact h3
  | _ + 2 => exact h2
theorem Got.rel {R : α → β → Prop} {T : List (T3 α)} {U : List (T3 β)} {B : List α} {C : List β} (hf : ∀ x y y', R x y → R x y' → y = y') (hT : ∀ t ∈ T, ∃ u ∈ U, R3 R t u) (hB : ∀ x ∈ B, ∃ y ∈ C, R x y) {x : α} (h : Got T B x) :
    ∀ y, R x y → Got U C y := by
  induction h with
  | base h =>
    intro y r
    obtain ⟨y', hy, r'⟩ := hB _ h
    rw [hf _ _ _ r r']
    exact .base hy
  | step ht hp _ _ i1 i2 =>
    intro y r
    obtain ⟨u, hu, ru⟩ := hT _ ht
    rw [hf _ _ _ r (ru.pick _)]
    exact .step hu hp (i1 _ (ru.oth1 _)) (i2 _ (ru.oth2 _))
/-- no clash: two images that agree at two places agree at the third; calm: equal things at two places are the thing at the third -/
structure NC (lot : List (T3 Nat)) (calm : Bool) (T : List (T3 α)) : Prop where
  one : ∀ t ∈ T, ∀ a ∈ lot, ∀ t' ∈ T, ∀ a' ∈ lot, ∀ p, p < 3 → oth (img a t) p = oth (img a' t') p → pick (img a t) p = pick (img a' t') p
  self : calm = true → ∀ t ∈ T, ∀ a ∈ lot, ∀ p, p < 3 → (oth (img a t) p).1 = (oth (img a t) p).2 → pick (img a t) p = (oth (img a t) p).1
theorem NC.rel {R : α → β → Prop} {lot : List (T3 Nat)} {calm : Bool} {T : List (T3 α)} {U : List (T3 β)} (h : NC lot calm U) (hf : ∀ x y y', R x y → R x y' → y = y') (hi : ∀ x x' y, R x y → R x' y → x = x')
    (hT : ∀ t ∈ T, ∃ u ∈ U, R3 R t u) : NC lot calm T := by
  refine ⟨fun t ht a ha t' ht' a' ha' p hp e => ?_, fun hc t ht a ha p hp e => ?_⟩
  · obtain ⟨u, hu, r⟩ := hT t ht
    obtain ⟨u', hu', r'⟩ := hT t' ht'
    have q1 := (r.img a).oth1 p
    have q2 := (r.img a).oth2 p
    have q1' := (r'.img a').oth1 p
    have q2' := (r'.img a').oth2 p
    rw [e] at q1 q2
    have e2 : oth (img a u) p = oth (img a' u') p := Prod.ext (hf _ _ _ q1 q1') (hf _ _ _ q2 q2')
    have e3 := h.one u hu a ha u' hu' a' ha' p hp e2
    have z := (r.img a).pick p
    rw [e3] at z
    exact hi _ _ _ z ((r'.img a').pick p)
  · obtain ⟨u, hu, r⟩ := hT t ht
    have q1 := (r.img a).oth1 p
    have q2 := (r.img a).oth2 p
    rw [← e] at q2
    have e2 := h.self hc u hu a ha p hp (hf _ _ _ q1 q2)
    have z := (r.img a).pick p
    rw [e2] at z
    exact hi _ _ _ z q1
/-- NC asks only which triples there are -/
theorem NC.sub {lot : List (T3 Nat)} {calm : Bool} {T U : List (T3 α)} (h : NC lot calm U) (hs : ∀ t ∈ T, t ∈ U) : NC lot calm T :=
  ⟨fun t ht a ha t' ht' a' ha' => h.one t (hs t ht) a ha t' (hs t' ht') a' ha', fun hc t ht => h.self hc t (hs t ht)⟩
end
end K85
namespace K85
open PySem PySem.Spec PyProof.Rows L2
/-! ### the text by places -/
def top (i : Nat) : Stmt := PySem.Challenge.pw_thirdback_k85_whole_chains_and_facts.main.body.getD i (.Pass ⟨0, 0, 0, 0⟩)
abbrev met (i j : Nat) : Stmt := inClass (top i) j
/-- a def of the text as it stands behind the top, at f -/
abbrev TF (K : PySem.W.Frag) (x q : Str) (st : Stmt) (dvs : List V) (kws : List (Str × V)) (f : Addr) (fd : FuncData) : Prop := FunD K x q (defArgs st) (defBody st) (defScope st) dvs kws f fd
/-- .. a module's def -/
def GTxt (K : PySem.W.Frag) (mg : Str → Option Value) (x : Str) (st : Stmt) (dvs : List V) (kws : List (Str × V)) : Prop := ∃ f fd, TF K x x st dvs kws f fd ∧ mg x = some (.ref f)
/-- .. a method of the class at C -/
def MTxt (K : PySem.W.Frag) (C : Addr) (c m : Str) (q : Str) (st : Stmt) (dvs : List V) (kws : List (Str × V)) : Prop := ∃ f fd, TF K m q st dvs kws f fd ∧ Meth K C m f

section
variable (P : Program) (w : World) (K : PySem.W.Frag) (mg : Str → Option Value) (base : Heap)
/-- the module's def x keeps sp -/
def GDef (CX : CXT) (k : Nat) (x : Str) (ps : List Str) (dvs : List V) (sp : Sp) : Prop :=
  ∃ f fd ds, FnOk P w K mg base CX k f fd ps sp ∧ Binds K fd ps ds ∧ Vals dvs ds ∧ mg x = some (.ref f) ∧ PySem.W.keepIn K (.ref f) = true
/-- the method m of C keeps sp -/
def MDef (CX : CXT) (k : Nat) (C : Addr) (m : Str) (ps : List Str) (dvs : List V) (sp : Sp) : Prop :=
  ∃ f fd ds, FnOk P w K mg base CX k f fd ps sp ∧ Binds K fd ps ds ∧ Vals dvs ds ∧ Meth K C m f
/-- the class x (at C) is made by an __init__ that keeps sp -/
def CDef (CX : CXT) (k : Nat) (C : Addr) (x : Str) (ps : List Str) (dvs : List V) (sp : Sp) : Prop :=
  ∃ f fd ds, FnOk P w K mg base CX k f fd ps sp ∧ Binds K fd ps ds ∧ Vals dvs ds ∧ Mk K C f ∧ mg x = some (.ref C)
/-- the property m of C keeps sp -/
def PDef (CX : CXT) (k : Nat) (C : Addr) (m : Str) (sp : Sp) : Prop :=
  ∃ p g fd, FnOk P w K mg base CX k g fd ["self"] sp ∧ Binds K fd ["self"] [] ∧ PropOf K C m p g
end
section
variable {X : Cx} {CX : CXT} {k : Nat} {C : Addr} {x m : Str} {ps : List Str} {dvs : List V} {sp : Sp} {E : XK} {p pos apos : Pos} {e o : Expr} {es : List Expr} {t : TA} {ta : TE}
theorem pe_g (G : GDef X.prog X.w X.K X.mg X.base CX k x ps dvs sp) (hr : Room k X.A) (hx : Passes CX X E) (ha : PA X (e :: es) t) (hg : Gl X x := by rfl) (hdb : (x == ("__debug__" : Str)) = false := by decide)
    (he : starEach (e :: es) X.env = (false, eval e X.env) :: starEach es X.env := by rfl) (hpl : (backTo pos (starEach es X.env)).any (·.1) = false := by rfl) : PE X (.Call (.Name x p) (e :: es) [] pos) (tCall sp dvs E t) := by
  obtain ⟨f, fd, ds, F, hb, hd, hm, hk⟩ := G
  exact pe_call F hr hg hm hk hb hd hx ha hdb he hpl
theorem pe_m {pl : Sem Bool} (G : MDef X.prog X.w X.K X.mg X.base CX k C m ps dvs sp) (c : Cls X.K C) (hr : Room k X.A) (hx : Passes CX X E) (he : PE X o ta) (ha : PA X (e :: es) t)
    (hst : starEach (e :: es) X.env = (false, eval e X.env) :: starEach es X.env := by rfl) (hpl : (backTo pos (starEach es X.env)).any (·.1) = false := by rfl)
    (ht : eval (.Call (.Attribute o m apos) (e :: es) [] pos) X.env = (do
      let ov ← eval o X.env
      standAt apos.atName
      let (f, first) ← holding [ov] (getMethod ov m pl)
      callWith pos f first (backTo pos (starEach (e :: es) X.env)) (backToKw pos (keywordEach [] X.env))) := by rfl) : PE X (.Call (.Attribute o m apos) (e :: es) [] pos) (tMeth C m sp dvs E ta t) := by
  obtain ⟨f, fd, ds, F, hb, hd, hm⟩ := G
  exact pe_meth he c hm F hr hb hd hx ha hst hpl ht
theorem pe_m0 {pl : Sem Bool} (G : MDef X.prog X.w X.K X.mg X.base CX k C m ps dvs sp) (c : Cls X.K C) (hr : Room k X.A) (hx : Passes CX X E) (he : PE X o ta)
    (ht : eval (.Call (.Attribute o m apos) [] [] pos) X.env = (do
      let ov ← eval o X.env
      standAt apos.atName
      let (f, first) ← holding [ov] (getMethod ov m pl)
      callWith pos f first (backTo pos (starEach [] X.env)) (backToKw pos (keywordEach [] X.env))) := by rfl) : PE X (.Call (.Attribute o m apos) [] [] pos) (tMeth C m sp dvs E ta tNil) := by
  obtain ⟨f, fd, ds, F, hb, hd, hm⟩ := G
  exact pe_meth0 he c hm F hr hb hd hx ht
theorem pe_c1 (G : CDef X.prog X.w X.K X.mg X.base CX k C x ps dvs sp) (hr : Room (k + 1) X.A) (hx : Passes CX X E) (ha : PA X (e :: es) t) (hg : Gl X x := by rfl) (hdb : (x == ("__debug__" : Str)) = false := by decide)
    (he : starEach (e :: es) X.env = (false, eval e X.env) :: starEach es X.env := by rfl) (hpl : (backTo pos (starEach es X.env)).any (·.1) = false := by rfl) : PE X (.Call (.Name x p) (e :: es) [] pos) (tMake C sp dvs E t) := by
  obtain ⟨f, fd, ds, F, hb, hd, M, hm⟩ := G
  exact pe_make M F hr hg hm hb hd hx ha hdb he hpl
theorem pe_pr (G : PDef X.prog X.w X.K X.mg X.base CX k C m sp) (c : Cls X.K C) (hr : Room (k + 1) X.A) (hx : Passes CX X.nox E) (he : PE X e ta) (hab : attributeBase e m X.env (eval e X.env) = eval e X.env := by rfl) : PE X (.Attribute e m pos) (tProp C sp [] E ta) := by
  obtain ⟨p, g, fd, F, hb, hp⟩ := G
  exact pe_prop he c hp F hr hb .nil hx hab
/-- a built-in function, a built-in type, by its name -/
theorem pe_b {id : String} {r : List V → Hp → VK → Prop} (hc : CallR X (.builtin id) r) (hm : X.mg x = none) (hv : bootBuiltins x = some (.builtin id)) (ha : PA X (e :: es) t) (hg : Gl X x := by rfl) (hn : x ≠ "__name__" := by decide) (hdb : (x == ("__debug__" : Str)) = false := by decide)
    (he : starEach (e :: es) X.env = (false, eval e X.env) :: starEach es X.env := by rfl) (hpl : (backTo pos (starEach es X.env)).any (·.1) = false := by rfl) : PE X (.Call (.Name x p) (e :: es) [] pos) (tCB r t) :=
  pe_callB hc hg hm hv ha hn hdb he hpl
end
end K85
/-! K85HeadA: what the head looks at. -/
namespace K85
open PySem PySem.Spec PyProof.Rows L2 He
/-- the lots of turns, as K85K has them -/
def lotsH : List (Str × List (T3 Nat)) := [("plain", [(0, 1, 2)]), ("sides", [(0, 1, 2), (1, 0, 2)]), ("front", [(0, 1, 2), (2, 1, 0)]), ("back", [(0, 1, 2), (0, 2, 1)]), ("round", [(0, 1, 2), (1, 2, 0), (2, 0, 1)]),
  ("all", [(0, 1, 2), (0, 2, 1), (1, 0, 2), (1, 2, 0), (2, 0, 1), (2, 1, 0)])]
def litsH : Str := "abcdefghijklmnopqrstuvwxyz"
def signsH : Str := "abcdefghijklmnopqrstuvwxyz0123456789"
def fdOf (o : Obj) : Option FuncData := match o.data with
  | .func fd => some fd
  | _ => none
/-- the function at an address -/
def gtr (K : PySem.W.Frag) (a : Addr) : Option FuncData := (K.lookup a).bind fdOf
abbrev GtV : Type := Option ((Str × Str × Arguments × FuncBody) × (Scope × Addr × List (Str × Addr)) × Addr × Value)
def gtS (K : PySem.W.Frag) (a : Addr) : GtV := (gtr K a).map fun z => ((z.name, z.qualname, z.params, z.body), (z.scope, z.globals, z.closure), z.builtins, z.defaults)
def gtW (m q : Str) (st : Stmt) : GtV := some ((m, q, defArgs st, .stmts (defBody st)), (defScope st, mainGlobals, []), builtinsNs, .none)
def gtC (K : PySem.W.Frag) (a : Addr) (q : Str) : Bool := (gtr K a).any fun z => PySem.W.codeIn K z.code q
def tupA (K : PySem.W.Frag) (a : Addr) (vs : List V) : Bool := (K.lookup a).any fun o => decide (o.cls = .type "tuple") && match o.data with
  | .seq its _ => decide (its.size ≤ sizeLine) && relAll vs its.toList
  | _ => false
def oexB (K : PySem.W.Frag) (C : Addr) : Bool := match K.lookup C with
  | some ⟨.type t, _, .cls cd, sl⟩ => decide (t = "type") && (match cd.mro, sl.toList with
    | .ref C' :: bm, [_, _, _, _, some (.builtin n), _] => decide (C' = C) && (decide (n = "ValueError.__new__") && (!cd.hasDel && (cd.hasDict && PySem.HandSPX.refsVE bm)))
    | _, _ => false)
  | _ => false
def oexA (K : PySem.W.Frag) (C : Addr) : Bool := oexB K C && (eqO (PySem.W.findIn K (.ref C) "__setattr__") (some (some (.builtin "object.__setattr__"))) && (decide (PySem.W.subIn K (.ref C) (.type "BaseException") = some true) && (decide (PySem.W.typeIn K (.ref C) = some (.type "type")) && PySem.W.keepIn K (.ref C))))
def insB (K : PySem.W.Frag) (C : Addr) : Bool := eqO (PySem.W.findIn K (.ref C) "__class__") (some (some (.builtin "object.__class__"))) && (eqO (PySem.W.specialIn K (.builtin "object.__class__") "__get__") (some (some (.builtin "getset_descriptor.__get__"))) &&
  (decide (PySem.W.takesIn K (.builtin "object.__class__") = some true) && (decide (PySem.W.mroIn K C (.type "object") = some true) && decide (PySem.W.kitOne K (.ref C) (.ref C) = some true))))
/-- a property's getter -/
def prG (K : PySem.W.Frag) (p : Addr) : Addr := match PySem.W.recIn K p "property" with
  | some (.ref g :: _) => g
  | _ => 0
def propB (K : PySem.W.Frag) (C : Addr) (m : Str) : Bool := eqO (PySem.W.findIn K (.ref C) m) (some (some (.ref (ma K C m)))) && (eqO (PySem.W.specialIn K (.ref (ma K C m)) "__get__") (some (some (.builtin "property.__get__"))) && (decide (PySem.W.takesIn K (.ref (ma K C m)) = some true) &&
  (match PySem.W.recIn K (ma K C m) "property" with
    | some (.ref _ :: _) => true
    | _ => false)))
def rowsB (K : PySem.W.Frag) : List Value → List (T3 Nat) → Bool
  | [], [] => true
  | .ref b :: us, t :: ts => tupA K b [.int t.1, .int t.2.1, .int t.2.2] && rowsB K us ts
  | _, _ => false
def lotB (K : PySem.W.Frag) (d : Addr) (q : Str × List (T3 Nat)) : Bool := match PySem.W.nsIn K d q.1 with
  | some (some (.ref a)) => (match K.lookup a with
    | some ⟨.type c, _, .seq its _, _⟩ => decide (c = "tuple") && (decide (its.size ≤ sizeLine) && rowsB K its.toList q.2)
    | _ => false)
  | _ => false
/-- the default `()` of check_names -/
def eAd (K : PySem.W.Frag) : Addr := dflAt ("check_names", none) 1 K
/-- the default `()` of Cell's begin -/
def bAd (K : PySem.W.Frag) : Addr := match K.lookup (ma K (ga K "Cell") "__init__") with
  | some ⟨_, _, .func fd, _⟩ => (match fd.kwdefaults with
    | .ref D => (match PySem.W.nsIn K D "begin" with
      | some (some (.ref a)) => a
      | _ => 0)
    | _ => 0)
  | _ => 0
def hfa0 : List Fa := [.free "isinstance", .free "len", .free "all", .free "tuple", .free "list", .free "sorted", .free "enumerate", .free "range", .free "max", .free "min", .free "str", .free "int", .free "bool", .free "abs", .free "divmod", .free "repr", .str "LETTERS" litsH, .str "SIGNS" signsH, .int "LONGEST_NAME" 8, .int "MOST_OPERATIONS" 8, .int "MOST_FACTS" 4, .int "MOST_FORMULAS" 6, .int "MOST_SIDE" 3, .int "MOST_INNER" 6]
def hfa1 : List Fa := [.int "MOST_TRIPLES" 8, .int "MOST_STORED" 6, .int "MOST_CELLS" 200, .glo "Formula", .glo "Kind", .glo "Cell", .glo "Closing", .glo "Table", .glo "Kept", .glo "Clash", .glo "LOTS", .glo "PLACES", .glo "is_integer", .glo "is_within", .glo "is_name", .glo "is_row", .glo "check_names", .glo "letter", .glo "operation_of", .glo "written_parts", .glo "check_operations", .glo "check_formula", .glo "check_formulas", .glo "check_facts"]
def hfa2 : List Fa := [.glo "check_kind", .glo "keys_of", .glo "table_of", .glo "got_things", .glo "check_sides", .glo "check_cell_triples", .glo "check_cell", .glo "thing_of", .glo "copies_of", .glo "chain_triples", .glo "check_clash", .glo "kept_things", .glo "check_count", .glo "check_lost", .glo "untold", .glo "turned", .glo "triple_of", .glo "kept_for", .glo "tells", .glo "_law_purse", .glo "_law_pick", .glo "_law_kind", .glo "_law_cell", .glo "_law_letter"]
def hfa3 : List Fa := [.glo "_law_right", .glo "law", .cls "Formula", .cls "Kind", .cls "Cell", .cls "Closing", .cls "Table", .cls "Kept", .noat "Formula" "name", .noat "Formula" "sign", .noat "Formula" "left", .noat "Formula" "right", .noat "Formula" "signs", .noat "Formula" "text", .noat "Kind" "turns", .noat "Kind" "calm", .noat "Cell" "kind", .noat "Cell" "ins", .noat "Cell" "inner", .noat "Cell" "outs", .noat "Cell" "triples", .noat "Cell" "stored", .noat "Cell" "wanted", .noat "Cell" "begin"]
def hfa4 : List Fa := [.noat "Cell" "end", .noat "Closing" "kind", .noat "Closing" "size", .noat "Closing" "operations", .noat "Closing" "above", .noat "Closing" "trail", .noat "Table" "numbers", .noat "Table" "letter_names", .noat "Table" "closing", .noat "Kept" "table", .noat "Kept" "known", .noat "Kept" "steps", .noat "Clash" "index", .mkr "Formula", .mkr "Kind", .mkr "Cell", .mkr "Closing", .mkr "Table", .mkr "Kept", .meth "Kind" "images", .meth "Closing" "root", .meth "Closing" "merge", .meth "Closing" "close", .meth "Closing" "entered"]
def hfa5 : List Fa := [.meth "Closing" "got", .meth "Table" "number", .meth "Kept" "root", .meth "Kept" "has", .meth "Formula" "__mul__", .meth "Formula" "__len__", .meth "Formula" "__str__", .meth "Clash" "__init__", .exm "Clash" "Clash" true]
def hfa : List Fa := hfa0 ++ (hfa1 ++ (hfa2 ++ (hfa3 ++ (hfa4 ++ (hfa5)))))
def hds0 : List DefD := [⟨("is_integer", none), "is_integer", "is_integer", defArgs (top 33), defBody (top 33), defScope (top 33), [], []⟩, ⟨("is_within", none), "is_within", "is_within", defArgs (top 34), defBody (top 34), defScope (top 34), [], []⟩, ⟨("is_name", none), "is_name", "is_name", defArgs (top 35), defBody (top 35), defScope (top 35), [], []⟩, ⟨("is_row", none), "is_row", "is_row", defArgs (top 36), defBody (top 36), defScope (top 36), [], []⟩, ⟨("check_names", none), "check_names", "check_names", defArgs (top 37), defBody (top 37), defScope (top 37), [.non, .adr eAd], []⟩, ⟨("letter", none), "letter", "letter", defArgs (top 41), defBody (top 41), defScope (top 41), [], []⟩, ⟨("operation_of", none), "operation_of", "operation_of", defArgs (top 42), defBody (top 42), defScope (top 42), [], []⟩, ⟨("written_parts", none), "written_parts", "written_parts", defArgs (top 43), defBody (top 43), defScope (top 43), [], []⟩, ⟨("check_operations", none), "check_operations", "check_operations", defArgs (top 47), defBody (top 47), defScope (top 47), [], []⟩, ⟨("check_formula", none), "check_formula", "check_formula", defArgs (top 48), defBody (top 48), defScope (top 48), [], []⟩, ⟨("check_formulas", none), "check_formulas", "check_formulas", defArgs (top 49), defBody (top 49), defScope (top 49), [.int 0], []⟩, ⟨("check_facts", none), "check_facts", "check_facts", defArgs (top 50), defBody (top 50), defScope (top 50), [], []⟩]
def hds1 : List DefD := [⟨("check_kind", none), "check_kind", "check_kind", defArgs (top 54), defBody (top 54), defScope (top 54), [], []⟩, ⟨("keys_of", none), "keys_of", "keys_of", defArgs (top 56), defBody (top 56), defScope (top 56), [], []⟩, ⟨("table_of", none), "table_of", "table_of", defArgs (top 57), defBody (top 57), defScope (top 57), [], []⟩, ⟨("got_things", none), "got_things", "got_things", defArgs (top 59), defBody (top 59), defScope (top 59), [], []⟩, ⟨("check_sides", none), "check_sides", "check_sides", defArgs (top 61), defBody (top 61), defScope (top 61), [], []⟩, ⟨("check_cell_triples", none), "check_cell_triples", "check_cell_triples", defArgs (top 62), defBody (top 62), defScope (top 62), [], []⟩, ⟨("check_cell", none), "check_cell", "check_cell", defArgs (top 64), defBody (top 64), defScope (top 64), [], []⟩, ⟨("thing_of", none), "thing_of", "thing_of", defArgs (top 65), defBody (top 65), defScope (top 65), [], []⟩, ⟨("copies_of", none), "copies_of", "copies_of", defArgs (top 66), defBody (top 66), defScope (top 66), [], []⟩, ⟨("chain_triples", none), "chain_triples", "chain_triples", defArgs (top 67), defBody (top 67), defScope (top 67), [], []⟩, ⟨("check_clash", none), "check_clash", "check_clash", defArgs (top 68), defBody (top 68), defScope (top 68), [], []⟩, ⟨("kept_things", none), "kept_things", "kept_things", defArgs (top 69), defBody (top 69), defScope (top 69), [], []⟩]
def hds2 : List DefD := [⟨("check_count", none), "check_count", "check_count", defArgs (top 70), defBody (top 70), defScope (top 70), [], []⟩, ⟨("check_lost", none), "check_lost", "check_lost", defArgs (top 71), defBody (top 71), defScope (top 71), [], []⟩, ⟨("untold", none), "untold", "untold", defArgs (top 72), defBody (top 72), defScope (top 72), [], []⟩, ⟨("turned", none), "turned", "turned", defArgs (top 75), defBody (top 75), defScope (top 75), [], []⟩, ⟨("triple_of", none), "triple_of", "triple_of", defArgs (top 77), defBody (top 77), defScope (top 77), [], []⟩, ⟨("kept_for", none), "kept_for", "kept_for", defArgs (top 81), defBody (top 81), defScope (top 81), [], []⟩, ⟨("tells", none), "tells", "tells", defArgs (top 82), defBody (top 82), defScope (top 82), [], []⟩, ⟨("_law_purse", none), "_law_purse", "_law_purse", defArgs (top 84), defBody (top 84), defScope (top 84), [], []⟩, ⟨("_law_pick", none), "_law_pick", "_law_pick", defArgs (top 85), defBody (top 85), defScope (top 85), [], []⟩, ⟨("_law_kind", none), "_law_kind", "_law_kind", defArgs (top 86), defBody (top 86), defScope (top 86), [], []⟩, ⟨("_law_cell", none), "_law_cell", "_law_cell", defArgs (top 87), defBody (top 87), defScope (top 87), [], []⟩, ⟨("_law_letter", none), "_law_letter", "_law_letter", defArgs (top 88), defBody (top 88), defScope (top 88), [], []⟩]
def hds3 : List DefD := [⟨("_law_right", none), "_law_right", "_law_right", defArgs (top 89), defBody (top 89), defScope (top 89), [], []⟩, ⟨("law", none), "law", "law", defArgs (top 90), defBody (top 90), defScope (top 90), [], []⟩, ⟨("Formula", some "__init__"), "__init__", "Formula.__init__", defArgs (met 40 0), defBody (met 40 0), defScope (met 40 0), [.str "", .non, .non], []⟩, ⟨("Kind", some "__init__"), "__init__", "Kind.__init__", defArgs (met 53 0), defBody (met 53 0), defScope (met 53 0), [], [("calm", .bl false)]⟩, ⟨("Cell", some "__init__"), "__init__", "Cell.__init__", defArgs (met 63 0), defBody (met 63 0), defScope (met 63 0), [], [("begin", .adr bAd)]⟩, ⟨("Closing", some "__init__"), "__init__", "Closing.__init__", defArgs (met 76 0), defBody (met 76 0), defScope (met 76 0), [], []⟩, ⟨("Table", some "__init__"), "__init__", "Table.__init__", defArgs (met 78 0), defBody (met 78 0), defScope (met 78 0), [], []⟩, ⟨("Kept", some "__init__"), "__init__", "Kept.__init__", defArgs (met 80 0), defBody (met 80 0), defScope (met 80 0), [], []⟩, ⟨("Clash", some "__init__"), "__init__", "Clash.__init__", defArgs (met 18 0), defBody (met 18 0), defScope (met 18 0), [], []⟩, ⟨("Kind", some "images"), "images", "Kind.images", defArgs (met 53 3), defBody (met 53 3), defScope (met 53 3), [], []⟩, ⟨("Closing", some "root"), "root", "Closing.root", defArgs (met 76 1), defBody (met 76 1), defScope (met 76 1), [], []⟩, ⟨("Closing", some "merge"), "merge", "Closing.merge", defArgs (met 76 3), defBody (met 76 3), defScope (met 76 3), [], []⟩]
def hds4 : List DefD := [⟨("Closing", some "close"), "close", "Closing.close", defArgs (met 76 4), defBody (met 76 4), defScope (met 76 4), [], []⟩, ⟨("Closing", some "entered"), "entered", "Closing.entered", defArgs (met 76 5), defBody (met 76 5), defScope (met 76 5), [], []⟩, ⟨("Closing", some "got"), "got", "Closing.got", defArgs (met 76 6), defBody (met 76 6), defScope (met 76 6), [], []⟩, ⟨("Table", some "number"), "number", "Table.number", defArgs (met 78 1), defBody (met 78 1), defScope (met 78 1), [], []⟩, ⟨("Kept", some "root"), "root", "Kept.root", defArgs (met 80 1), defBody (met 80 1), defScope (met 80 1), [], []⟩, ⟨("Kept", some "has"), "has", "Kept.has", defArgs (met 80 2), defBody (met 80 2), defScope (met 80 2), [], []⟩, ⟨("Formula", some "__mul__"), "__mul__", "Formula.__mul__", defArgs (met 40 5), defBody (met 40 5), defScope (met 40 5), [], []⟩, ⟨("Formula", some "__len__"), "__len__", "Formula.__len__", defArgs (met 40 10), defBody (met 40 10), defScope (met 40 10), [], []⟩, ⟨("Formula", some "__str__"), "__str__", "Formula.__str__", defArgs (met 40 12), defBody (met 40 12), defScope (met 40 12), [], []⟩]
def hds : List DefD := hds0 ++ (hds1 ++ (hds2 ++ (hds3 ++ (hds4))))
def exB (K : PySem.W.Frag) : List Bool := [tupA K (eAd K) [], insB K (ga K "Formula"), insB K (ga K "Kind"), insB K (ga K "Cell"), oexA K (ga K "Clash"), propB K (ga K "Formula") "parts", propB K (ga K "Kind") "lot", lotsH.all fun q => lotB K (ga K "LOTS") q, tupA K (ga K "PLACES") [.int 0, .int 1, .int 2], PySem.W.selfFirst K (ga K "Formula"), gtC K (prG K (ma K (ga K "Formula") "parts")) "Formula.parts", gtC K (prG K (ma K (ga K "Kind") "lot")) "Kind.lot"]
abbrev AlH : Type := (List Bool × List Bool × List Bool) × (List FnW × GtV × GtV) × Option (List (Option (Str × Int)))
def g1A (K : PySem.W.Frag) : Addr := prG K (ma K (ga K "Formula") "parts")
def g2A (K : PySem.W.Frag) : Addr := prG K (ma K (ga K "Kind") "lot")
def lotKeys : List Str := ["plain", "sides", "front", "back", "round", "all"]
def obsH (K : PySem.W.Frag) : AlH := ((hfa.map fun f => f.ok K, hds.map fun d => d.ok K, exB K), (hds.map fun d => fnW K d.at_, gtS K (g1A K), gtS K (g2A K)), dicW K (ga K "LOTS"))
def valH (w : World) : AlH := ((List.replicate hfa.length true, List.replicate hds.length true, List.replicate 12 true), (hds.map DefD.val, gtW "parts" "Formula.parts" (met 40 3), gtW "lot" "Kind.lot" (met 53 2)), some (keysIn w.params lotKeys))
def Says (w : World) (K : PySem.W.Frag) : Prop := obsH K = valH w
/-- what an object names, as far as it is looked at -/
def refsH (o : Obj) : List Addr := match o.data with
  | .cls cd => [cd.ns]
  | .func z => refsO o ++ refV z.kwdefaults
  | .fields vs => (match decide (o.cls = .type "property") with
    | true => refsO o
    | false => [])
  | _ => refsO o
def lvl (g : Addr → Option Obj) (as : List Addr) : List Addr := as.flatMap fun a => match g a with
  | some o => refsH o
  | none => []
/-- all but the exceptions' classes that nothing asks for -/
def keepH (g : Addr → Option Obj) (a : Addr) : Bool := match g a with
  | some ⟨_, _, .cls cd, _⟩ => (decide (cd.name = "Clash") || decide (cd.name = "WrongValue")) || !(cd.mro.contains (.type "BaseException"))
  | some _ => true
  | none => false
def lv1 (g : Addr → Option Obj) : List Addr := (lvl g [mainGlobals]).filter (keepH g)
def lv2 (g : Addr → Option Obj) : List Addr := lvl g (lv1 g)
def lv3 (g : Addr → Option Obj) : List Addr := lvl g (lv2 g)
def lv4 (g : Addr → Option Obj) : List Addr := lvl g (lv3 g)
def lv5 (g : Addr → Option Obj) : List Addr := lvl g (lv4 g)
def asH (g : Addr → Option Obj) : List Addr := [mainGlobals] ++ (lv1 g ++ (lv2 g ++ (lv3 g ++ (lv4 g ++ lv5 g))))
def obsHG (g : Addr → Option Obj) : AlH := obsH (frG g (asH g))
def hookH : PySem.W.Hook where
  α := AlH
  obs := fun s => obsHG s.heap.get?
  val := fun w => valH w
  says := fun w h => ∃ K : PySem.W.Frag, K.In h ∧ Says w K
  of := fun _ _ e => ⟨_, frG_in, e⟩
  keeps := fun _ _ _ ⟨K, hK, c⟩ k => ⟨K, PySem.W.Frag.In.keeps hK k, c⟩
theorem obsHG_eq {g : Addr → Option Obj} {s : Shared} (h : ∀ a, g a = s.heap.get? a) : obsHG g = hookH.obs s := by
  have e : g = s.heap.get? := funext h
  rw [e] <;> rfl
end K85
/-! K85Run: the top, run in the kernel. -/
namespace K85
open PySem PySem.Spec PyProof.Rows L2 He
abbrev RW : PySem.W.OpenRow := PySem.W.OpenLaw.row PySem.Challenge.rw_thirdback_k85_whole_chains_and_facts
def nm1 : List Str := ["_wall", "WrongValue", "InvalidName", "InvalidText", "InvalidFlag", "InvalidNumber", "InvalidTurns", "InvalidTriple", "NotAKind", "NotAFormula", "NotACell", "InvalidFacts", "InvalidFormulas", "InvalidTriples", "InvalidNames", "InvalidRows", "InvalidLost", "Clash", "NoAnswer", "TooMany", "MOST_OPERATIONS", "MOST_FACTS", "MOST_FORMULAS", "MOST_SIDE", "MOST_INNER", "MOST_TRIPLES", "MOST_STORED", "MOST_CELLS"]
def nm2 : List Str := ["LETTERS", "SIGNS", "LONGEST_NAME", "is_integer", "is_within", "is_name", "is_row", "check_names", "MARKS", "Formula", "letter", "operation_of", "written_parts", "replaced", "sign_at", "formula_at", "check_operations", "check_formula", "check_formulas", "check_facts", "LOTS", "Kind", "check_kind", "keys_of", "table_of", "got_things", "check_sides", "check_cell_triples"]
def nm3 : List Str := ["Cell", "check_cell", "thing_of", "copies_of", "chain_triples", "check_clash", "kept_things", "check_count", "check_lost", "untold", "PLACES", "turned", "Closing", "triple_of", "Table", "Kept", "kept_for", "tells", "_law_purse", "_law_pick", "_law_kind", "_law_cell", "_law_letter", "_law_right"]
def names : List Str := nm1 ++ nm2 ++ nm3
def ob (s : PySem.W.SharedT) : AlH := obsHG (HandSHeadRun.getT s)
theorem ob_eq (s : PySem.W.SharedT) : ob s = hookH.obs s.abs := obsHG_eq (HandSHeadRun.getT_eq s)
theorem runf (w : World) : HandSHeadRun.RunEq RW (PySem.W.view RW.prog [90]) hookH ob 9500 names (w.withFollow "special-get-raises" false) := by
  intro os
  kernel_rfl
theorem runt (w : World) : HandSHeadRun.RunEq RW (PySem.W.view RW.prog [90]) hookH ob 9500 names (w.withFollow "special-get-raises" true) := by
  intro os
  kernel_rfl
end K85
/-! K85R1: enumerate over a tuple in a for. -/
namespace PySem
open AutoSeq1 (wpAny_loadPart')
theorem k85_enum_newT (l : Addr) (items : Array Value) :
    Meets (Builtin.«enumerate.__new__» ⟨[.type "enumerate", .ref l], []⟩) (fun _ R s => s.heap.IsTuple l items ∧
      R (.ok (.ret (.ref (s.heap.push { cls := .type "tuple_iterator", data := .fields #[.ref l, .int 0 0] }).objs.size)))
        { s with heap := (s.heap.push { cls := .type "tuple_iterator", data := .fields #[.ref l, .int 0 0] }).push { cls := .type "enumerate", data := .fields #[.none, .bool false, .ref s.heap.objs.size, rawInt 0, .none, .none] } }) :=
  .of_wp fun prog w A R s h => by
    obtain ⟨hp, g, d, tk, os⟩ := s; obtain ⟨hl, h⟩ := h
    have hsub := sub_enumerate
    have hL : Heap.IsTuple (Shared.heap ⟨hp, g, d, tk, os⟩) l items := hl
    obtain ⟨o, ho, hc, n, hd⟩ := id hL
    wp_walk using wpAny_loadPart' ho
    refine wpAny_stack_any fun st => wpAny_pure ?_
    split
    · rename_i c _ _ _ _ _
      cases (c == Value.type "enumerate")
      · wp_walk using wpAny_loadPart' ho, wpAny_pyIter_tuple hL
        exact ⟨_, rfl, h⟩
      · wp_walk using wpAny_loadPart' ho, wpAny_pyIter_tuple hL
        exact ⟨_, rfl, h⟩
    · wp_walk using wpAny_loadPart' ho, wpAny_pyIter_tuple hL
      exact ⟨_, rfl, h⟩
section
variable {prog : Program} {w : World} {A : Around} {E : Value → Shared → Prop} {s : Shared}
theorem k85_call_enum_tup {l : Addr} {items : Array Value} {Q : Value → Shared → Prop} (hL : s.heap.IsTuple l items)
    (h : ∀ h', IsEnum h' (s.heap.objs.size + 1) s.heap.objs.size 0 .none → h'.IsTupleIter s.heap.objs.size l 0 → h'.objs.size = s.heap.objs.size + 2 →
      (∀ b o, s.heap.get? b = some o → h'.get? b = some o) → Q (.ref (s.heap.objs.size + 1)) { s with heap := h' }) :
    wpAny (model prog w) A (call (.type "enumerate") [.ref l]) Q E s := by
  refine callType_new F.called_enumerate (by decide) (F.typeCall_enumerate_1 _) (F.newCall_enumerate_1 _) (fun obj => F.args_object_init_2 obj _) F.entry_enumerate_new
    (k85_enum_newT l items) ⟨hL, ?_⟩
  have hz : (s.heap.push { cls := .type "tuple_iterator", data := .fields #[.ref l, .int 0 0] }).objs.size = s.heap.objs.size + 1 := Heap.size_push ..
  show _ ∧ _
  rw [hz]
  have he : IsEnum ((s.heap.push { cls := .type "tuple_iterator", data := .fields #[.ref l, .int 0 0] }).push
      { cls := .type "enumerate", data := .fields #[.none, .bool false, .ref s.heap.objs.size, rawInt 0, .none, .none] }) (s.heap.objs.size + 1) s.heap.objs.size 0 .none := by
    have := Heap.get?_push_size (s.heap.push { cls := .type "tuple_iterator", data := .fields #[.ref l, .int 0 0] })
      (o := { cls := .type "enumerate", data := .fields #[.none, .bool false, .ref s.heap.objs.size, rawInt 0, .none, .none] }) rfl
    rw [hz] at this; exact this
  refine ⟨⟨_, he, rfl⟩, h _ he ⟨_, Heap.get?_push_of_some _ (Heap.get?_push_size _ rfl), rfl, rfl⟩ (by rw [Heap.size_push, hz]) fun b o x => Heap.get?_push_of_some _ (Heap.get?_push_of_some _ x)⟩
end
end PySem
namespace K85
open PySem PySem.Spec PyProof.Rows L2
/-- the tuple at a, each item in a new pair with its index -/
def Iet (K : PySem.W.Frag) (a : Addr) : It :=
  ⟨fun i H => ∃ (xs : List V) (x : V), SqT K H a xs ∧ xs[i]? = some x, fun i H v H' => ∃ T x, v = .ref T ∧ H T = none ∧ H' = upd H T (.tup [.int (i : Nat), x]) ∧ ∀ xs, SqT K H a xs → xs[i]? = some x, fun i H => ∃ xs : List V, SqT K H a xs ∧ xs.length ≤ i⟩
theorem turn_enumT {P : Program} {w : World} {K : PySem.W.Frag} {elts : List Expr} {kk : Nat} {tpos : Pos} (a e it : Addr) :
    Turn P w K (.Tuple elts kk tpos) (Iet K a) [e, it] e (fun i h => (∃ old, IsEnum h e it ((i : Nat) : Int) old) ∧ h.IsTupleIter it a i ∧ e ≠ it ∧ a ≠ e ∧ a ≠ it) where
  mem := by simp
  obj := fun i h st b hb => by
    obtain ⟨⟨old, he⟩, ⟨o, ho, hc, hd⟩, _⟩ := st
    have e' : b = e ∨ b = it := by simpa using hb
    rcases e' with z | z
    · rw [z]; exact ⟨_, he, fun v q => nomatch q⟩
    · rw [z]; exact ⟨o, ho, fun v q => by rw [hd] at q; cases q⟩
  keep := fun i h h' st k => let ⟨⟨old, he⟩, hi, hne⟩ := st; ⟨⟨old, k e (by simp) _ he⟩, hi.at fun o q => k it (by simp) o q, hne⟩
  item := by
    intro X hP hw hK hc i pins s σ H E I hf st hg
    subst hP hw hK
    obtain ⟨⟨old, he⟩, hit, hne, hae, hai⟩ := st
    obtain ⟨xs, x, hq, hx⟩ := hg
    obtain ⟨its, rv, p, hz⟩ := I.tuple hq
    obtain ⟨u, hu, ru⟩ := rv.get hx
    have hel : e < s.heap.objs.size := Heap.lt_size he
    have hil : it < s.heap.objs.size := by obtain ⟨_, q, _⟩ := hit; exact Heap.lt_size q
    have hlen : i < its.toArray.size := by
      have z := (List.getElem?_eq_some_iff.mp hu).1
      simpa using z
    have D : Draws X.prog X.w X.A.in1 it [it, a] its.toArray.size (fun i v => its.toArray[i]? = some v) (fun i h => h.IsTupleIter it a i ∧ h.IsTuple a its.toArray) := Draws.tuple (show X.A.in1.handled = none from I.ok.hd hc) it a hai its.toArray
    refine wpAny_pyNext_enum_itemD D he ⟨hit, p⟩ hlen hne (by simp [hne, Ne.symm hae]) fun x' h' tk hP ho hs' hT hsz hk => ?_
    have ex : x' = u := by
      have z : its.toArray[i]? = some u := by simpa using hu
      rw [z] at hP
      exact (Option.some.inj hP).symm
    subst ex
    refine ⟨_, rfl, wpAny_letOwnedTupleGo_enum (s := { s with heap := h', toks := tk + 1 }) ho fun h'' he' sb => ?_⟩
    have hT2 : h''.get? s.heap.objs.size = some { cls := .type "tuple", data := .seq #[.int i tk, x'] } := (sb.2 _ (Nat.ne_of_gt hel)).trans hT
    have new : ObjOk X.prog X.w (upd H s.heap.objs.size (.tup [.int (i : Nat), x])) h'' s.heap.objs.size (.tup [.int (i : Nat), x]) :=
      ⟨by show 2 ≤ sizeLine; decide, [.int i tk, x'], .cons ⟨_, rfl⟩ (.cons ru .nil), ⟨_, hT2, rfl, _, rfl⟩⟩
    have I1 : Inv X pins σ (upd H s.heap.objs.size (.tup [.int (i : Nat), x])) { s with heap := h'', toks := tk + 1 } :=
      I.turnedNew (ch := [e, it]) (fun b ob hb q => (sb.2 b (fun z => hb (by simp [z]))).trans (hk b ob (fun z => hb (by simp [z])) (fun z => hb (by simp [z])) q)) hf (Nat.le_refl _) new
    refine ⟨.ref s.heap.objs.size, _, I1, rfl, ⟨_, x, rfl, I.hok.fresh (Nat.le_refl _), rfl, fun ys hy => by rw [I.tuple_inj hy hq]; exact hx⟩, ⟨⟨x', ?_⟩, hs'.1.at fun o q => (sb.2 it (Ne.symm hne)).trans q, hne, hae, hai⟩, fun b hb => ?_⟩
    · have e1 : ((i + 1 : Nat) : Int) = (i : Int) + 1 := by omega
      rw [e1]; exact he'
    · have hb' : b < s.heap.objs.size := by
        have e' : b = e ∨ b = it := by simpa using hb
        rcases e' with z | z
        · rw [z]; exact hel
        · rw [z]; exact hil
      rw [upd_ne (Nat.ne_of_lt hb')]
      exact (hf b hb).1
  done := by
    intro X hP hw hK hc i pins s σ H E I hf st hg
    subst hP hw hK
    obtain ⟨⟨old, he⟩, hit, hne, hae, hai⟩ := st
    obtain ⟨xs, hq, hx⟩ := hg
    obtain ⟨its, rv, p, hz⟩ := I.tuple hq
    obtain ⟨f0, f1, f2, f3, f4, f5⟩ := hf it (by simp)
    have hl := rv.length
    have hle : its.toArray.size ≤ i := by simp; omega
    have hT : s.TypeIs (.ref e) "enumerate" := ⟨_, he, rfl⟩
    unfold pyNext
    refine wpAny_bind (wpAny_attempt (wpAny_callSpecial?_slot (name := Str.ofString "__next__") hT F.slot_enumerate_next
      (wpAny_call_entry F.slot_enumerate_next hT F.entry_enumerate_next ?_ (F.args_enumerate_next_1 _))))
    show wpAny _ _ (field (.ref e) 2 >>= _) _ _ _
    refine wpAny_bind (wpAny_field he rfl (x := .ref it) rfl ?_)
    refine wpAny_bind (wpAny_nextOf_tuple_end (show X.A.in1.handled = none from I.ok.hd hc) hit p (by simp; omega) fun h' x he' hx' => ?_)
    obtain ⟨o, ho, hc'⟩ := hx'
    refine wpAny_bind (wpAny_isInstance (T := "StopIteration") (b := true) ⟨o, ho, hc'⟩ isSubtype_stop ?_)
    exact wpAny_pure ⟨rfl, I.turned (t' := s.toks) (fun b o hb q => he' b o hb q) f0 f1 f3 f4 f5⟩
  self := fun A i s Q E st h => let ⟨⟨_, he⟩, _⟩ := st; wpAny_pyIter_enum he h
def iEnumT (K : PySem.W.Frag) (ta : TA) : TI := fun σ H R => ta σ H fun vs H1 => ∃ a xs, vs = [.ref a] ∧ SqT K H1 a xs ∧ R (Iet K a) H1
theorem pi_enumT {X : Cx} {e : Expr} {ta : TA} {p pos tpos : Pos} {elts : List Expr} {kk : Nat} (hm : X.mg "enumerate" = none) (ha : PA X [e] ta) (hg : Gl X "enumerate" := by rfl) (hs : starEach [e] X.env = [(false, eval e X.env)] := by rfl) :
    PI X (.Tuple elts kk tpos) (.Call (.Name "enumerate" p) [e] [] pos) (iEnumT X.K ta) := by
  refine ⟨fun pins s σ H R I h => ?_⟩
  refine Call_ (ld_blt I hg hm boot_enumerate (PyProof.Rows.callWith_type1 (thn (ha.run pos pins s σ H _ I h) fun us s1 ⟨vs, H1, I1, r1, q1⟩ => ?_) hs rfl))
  obtain ⟨a, xs, ex, hq, q⟩ := q1
  subst ex
  cases r1 with
  | cons r rr =>
    cases rr
    cases r
    obtain ⟨its, rv, p', hz⟩ := I1.tuple hq
    have hal : a < s1.heap.objs.size := p'.lt
    refine k85_call_enum_tup p' fun h' he hit hsz hk => wpAny_pyIter_enum he ?_
    have I2 : Inv X pins σ H1 { s1 with heap := h' } := I1.kept (t' := s1.toks) hk
    refine ⟨s1.heap.objs.size + 1, [s1.heap.objs.size + 1, s1.heap.objs.size], _, _, H1, rfl, I2, turn_enumT a (s1.heap.objs.size + 1) s1.heap.objs.size, ⟨⟨.none, he⟩, hit, Nat.succ_ne_self _, Nat.ne_of_lt (Nat.lt_succ_of_lt hal), Nat.ne_of_lt hal⟩, fun b hb => ?_, q⟩
    have e' : b = s1.heap.objs.size + 1 ∨ b = s1.heap.objs.size := by simpa using hb
    have hle : s1.heap.objs.size ≤ b := by
      rcases e' with z | z
      · rw [z]; exact Nat.le_add_right _ _
      · rw [z]; exact Nat.le_refl _
    exact I1.fpOk hle (I1.hok.fresh hle)
theorem walk_enumT {K : PySem.W.Frag} {a : Addr} {xs : List V} : Walk (Iet K a) xs.length (fun H => SqT K H a xs) (YPair (fun i => some (.int (i : Nat))) (fun i => xs[i]?)) := by
  refine ⟨fun i _ hi q => ⟨xs, xs[i], q, by simp [hi]⟩, fun _ q => ⟨xs, q, Nat.le_refl _⟩, fun i H v H' _ q y => ?_⟩
  obtain ⟨T, x, h1, h2, h3, h4⟩ := y
  exact ⟨T, .int (i : Nat), x, h1, h2, h3, rfl, h4 xs q⟩
end K85
/-! K85R2: x * y, len(x), str(x) by an own class's __mul__, __len__, __str__. -/
namespace K85
open PySem PySem.Spec PyProof.Rows L2
section
variable {X : Cx} {CX : CXT} {k : Nat} {C f : Addr} {m : Str} {fd : FuncData} {ps : List Str} {sp : Sp} {E : XK}
/-- a def that lets nothing out runs at another height -/
theorem run_at {A' : Around} {E' : Value → Shared → Prop} {pins : List (Addr × Obj)} {σ : L2.St} {H : Hp} {s : Shared} {Q : VK} {us : List Value} {vs : List V} (F : FnOk X.prog X.w X.K X.mg X.base CX k f fd ps sp) (hr : Room k A')
    (e0 : Env0 X.prog X.w X.K X.mg X.base A' X.stack s H) (hb : Binds X.K fd ps []) (hx : Passes CX X.nox E) (I : Inv X pins σ H s) (r : Vals vs us) (h : sp vs H Q E) :
    wpAny (model X.prog X.w) A' (call (.ref f) us) (EP X pins σ Q) E' s := by
  have hl : (us ++ []).length = ps.length := by rw [List.append_nil, ← r.length]; exact F.len _ _ _ _ h
  have b := hb s us I.kIn hl
  rw [List.append_nil] at b
  refine wpAny_call (codeAny_mono (F.run A' X.stack s H ⟨us, []⟩ us vs Q E hr e0 b r h) fun r s' hq => ?_)
  cases r with
  | error e => exact (hx pins σ H s e s' (I.wish _) hq).elim
  | ok fl =>
    cases fl with
    | ret u => exact I.after hq
    | next => exact False.elim hq
    | brk => exact False.elim hq
    | cont => exact False.elim hq
/-- the class facts that an own operator asks -/
structure OwnM (K : PySem.W.Frag) (C : Addr) (m : Str) (f : Addr) : Prop where
  at_ : PySem.W.findIn K (.ref C) m = some (some (.ref f))
  fn : PySem.W.isFn K (.ref f) = true
/-- x * y of two instances of C -/
def rMulO (C : Addr) (sp : Sp) (E : XK) : R2 := fun x y H Q => ∃ a b dx fs dy gs, x = .ref a ∧ y = .ref b ∧ H a = some (.ins C dx fs) ∧ H b = some (.ins C dy gs) ∧ sp [.ref a, .ref b] H Q E
theorem op_mulO (c : Cls X.K C) (hc : PySem.W.selfFirst X.K C = true) (M : OwnM X.K C "__mul__" f) (F : FnOk X.prog X.w X.K X.mg X.base CX k f fd ps sp) (hr : Room k X.A) (hb : Binds X.K fd ps []) (hx : Passes CX X.nox E) :
    OpR X (binaryOp .Mult) (rMulO C sp E) := by
  intro pins s σ H x y v u Q I rx ry h
  obtain ⟨a, b, dx, fs, dy, gs, rfl, rfl, ha, hb', q⟩ := h
  obtain rfl : v = Value.ref a := rx
  obtain rfl : u = Value.ref b := ry
  obtain ⟨mA, O, _⟩ := ins_get I.hok ha
  obtain ⟨od, J, _⟩ := O.look
  obtain ⟨mB, O2, _⟩ := ins_get I.hok hb'
  obtain ⟨od2, J2, _⟩ := O2.look
  obtain ⟨mm, fr⟩ := I.fr
  refine PySem.W.binop_K (op := .Mult) fr I.ok.mod.kin J J2.type hc M.at_ M.fn ?_
  refine wpAny_mono (run_at F hr I.env0 hb hx I (show Vals [V.ref a, V.ref b] [Value.ref a, Value.ref b] from .cons rfl (.cons rfl .nil)) q) (fun z s' hz => ?_) fun _ _ z => z
  obtain ⟨vv, H', I', rv, q'⟩ := hz
  have g : EP X pins σ Q z s' := ⟨vv, H', I', rv, q'⟩
  cases vv with
  | non => cases rv; exact g
  | bl _ => cases rv; exact g
  | int _ => obtain ⟨t, rfl⟩ := rv; exact g
  | str _ => obtain ⟨t, rfl⟩ := rv; exact g
  | byt _ => obtain ⟨t, rfl⟩ := rv; exact g
  | flt _ => obtain ⟨t, rfl⟩ := rv; exact g
  | ref _ => cases rv; exact g
  | ty _ => cases rv; exact g
/-- len(x) -/
def rLenO (C : Addr) (sp : Sp) (E : XK) : List V → Hp → VK → Prop := fun xs H Q => ∃ a dx fs, xs = [.ref a] ∧ H a = some (.ins C dx fs) ∧ sp [.ref a] H (fun v H' => ∃ n : Int, v = .int n ∧ (0 ≤ n ∧ n < 2 ^ 63) ∧ Q (.int n) H') E
theorem call_lenO (c : Cls X.K C) (M : OwnM X.K C "__len__" f) (F : FnOk X.prog X.w X.K X.mg X.base CX k f fd ps sp) (hr : Room (k + 1) X.A) (hb : Binds X.K fd ps []) (hx : Passes CX X.nox E) : CallR X (.builtin "len") (rLenO C sp E) := by
  intro pins s σ H xs us Q I r h
  obtain ⟨a, dx, fs, rfl, ha, q⟩ := h
  obtain ⟨u, rfl, ru⟩ := vals1 r
  obtain rfl : u = Value.ref a := ru
  obtain ⟨mA, O, _⟩ := ins_get I.hok ha
  obtain ⟨od, J, _⟩ := O.look
  obtain ⟨mm, fr⟩ := I.fr
  refine PySem.W.len_K fr I.ok.mod.kin J M.at_ M.fn ?_
  refine wpAny_mono (run_at (E' := X.xe) F hr.in1 I.env0.in1 hb hx I (show Vals [V.ref a] [Value.ref a] from .cons rfl .nil) q) (fun z s' hz => ?_) fun _ _ z => z
  obtain ⟨vv, H', I', rv, n, rfl, hn, q'⟩ := hz
  obtain ⟨t, rfl⟩ := rv
  exact ⟨hn, .int n, H', I'.tok _, ⟨_, rfl⟩, q'⟩
/-- str(x) -/
def rStrO (C : Addr) (sp : Sp) (E : XK) : List V → Hp → VK → Prop := fun xs H Q => ∃ a dx fs, xs = [.ref a] ∧ H a = some (.ins C dx fs) ∧ sp [.ref a] H (fun v H' => ∃ z : Str, v = .str z ∧ Q (.str z) H') E
theorem call_strO (c : Cls X.K C) (M : OwnM X.K C "__str__" f) (F : FnOk X.prog X.w X.K X.mg X.base CX k f fd ps sp) (hr : Room (k + 2) X.A) (hb : Binds X.K fd ps []) (hx : Passes CX X.nox E) : CallR X (.type "str") (rStrO C sp E) := by
  intro pins s σ H xs us Q I r h
  obtain ⟨a, dx, fs, rfl, ha, q⟩ := h
  obtain ⟨u, rfl, ru⟩ := vals1 r
  obtain rfl : u = Value.ref a := ru
  obtain ⟨mA, O, _⟩ := ins_get I.hok ha
  obtain ⟨od, J, _⟩ := O.look
  have hr2 : Room k X.A.in1.in1 := Room.in1 (Room.in1 hr)
  refine PySem.W.kso_call (hr2.units0) I.kIn J M.at_ M.fn ?_
  refine wpAny_mono (run_at (E' := X.xe) F hr2 I.env0.in1.in1 hb hx I (show Vals [V.ref a] [Value.ref a] from .cons rfl .nil) q) (fun z s' hz => ?_) fun _ _ z => z
  obtain ⟨vv, H', I', rv, x, rfl, q'⟩ := hz
  obtain ⟨t, rfl⟩ := rv
  exact ⟨.str x, H', I', ⟨_, rfl⟩, q'⟩
end
end K85
/-! K85R3: one core for comprehensions that put what they make into a new container; from it dict comprehensions with tuple keys, set comprehensions of tuples of ints. -/
namespace K85
open PySem PySem.Spec PyProof.Rows L2
/-- the turn's end as a state's word: what is reckoned and put at D -/
abbrev BDT := Addr → Env → (Shared → Prop) → Shared → Prop
/-- reading: D new, holding U D; rd puts one thing more into D -/
def tCC (U : Addr → HO) (wi : TI) (g : TG) (tt : TT) (rd : L2.St → Hp → Addr → (Hp → Prop) → Prop) (vs : List Nat) : TE := fun σ H Q => wi σ H fun J H1 => ∀ D, H1 D = none → ∃ W : Nat → Nat → Hp → Prop, (∃ m, W 0 m (upd H1 D (U D))) ∧ ∀ i m H, W i m H →
  (J.stop i H ∧ Q (.ref D) H) ∨ (J.go i H ∧ ∃ Nx : Hp → Prop, (∀ H', Nx H' → ∃ m', m' < m ∧ W (i + 1) m' H') ∧ ∀ x H', J.yld i H x H' → g x (wipe σ vs) H' fun σ2 H2 => wipe σ2 vs = wipe σ vs ∧ tt σ2 H2 fun b H3 =>
    if b = true then rd σ2 H3 D Nx else Nx H3)
section
variable {X : Cx}
theorem cc_core {pins : List (Addr × Obj)} {s : Shared} {σ : L2.St} {H : Hp} {Q : VK} {comp tg iter : Expr} {ifs : List Expr} {scope : Scope} {own : List (Str × Nat)} {pos' : Pos} {wi : TI} {g : TG} {tt : TT} {U : Addr → HO} {o0 : Obj} {newAcc : Sem Value}
    {rd : L2.St → Hp → Addr → (Hp → Prop) → Prop} {BD : BDT} {Qf : Value → Shared → Prop}
    (hcl : clausesOf comp = [⟨tg, iter, ifs, 0⟩])
    (hnew : ∀ (s : Shared) (Q : Value → Shared → Prop) (E : Value → Shared → Prop), Q (.ref s.heap.objs.size) { s with heap := s.heap.push o0 } → wpAny (model X.prog X.w) X.A newAcc Q E s)
    (hfr : ∀ (H : Hp) (h : Heap), sysModules < h.objs.size → ObjOk X.prog X.w (upd H h.objs.size (U h.objs.size)) (h.push o0) h.objs.size (U h.objs.size))
    (hloop : ∀ (it D : Addr) (env : Env) (R : Result → Shared → Prop) (Iv : Nat → Shared → Prop), (∀ n s, Iv n s → wpAny (model X.prog X.w) X.A (pyNext (.ref it)) (fun r s₁ => match r with
        | none => R (.ok .next) s₁
        | some v => wpAny (model X.prog X.w) X.A (letOwnedTupleGo tg (.ref it) v) (fun _ s₂ => wpAny (model X.prog X.w) X.A (assign tg env v) (fun _ s₃ =>
            wpAny (model X.prog X.w) X.A (forIn ifs true fun c r => if r = true then do let ok ← isTrue c env (eval c env); pure (ForInStep.yield ok) else pure (ForInStep.yield r)) (fun ok s₄ =>
              if ok = true then BD D env (fun s₅ => ∃ m, m < n ∧ Iv m s₅) s₄ else ∃ m, m < n ∧ Iv m s₄) (notedBy (model X.prog X.w) X.A env fun e s' => R (.error e) s') s₃) (notedBy (model X.prog X.w) X.A env fun e s' => R (.error e) s') s₂)
            (notedBy (model X.prog X.w) X.A env fun e s' => R (.error e) s') s₁) (notedBy (model X.prog X.w) X.A env fun e s' => R (.error e) s') s) → ∀ n s, Iv n s → codeAny (model X.prog X.w) X.A (.compLoop comp 0 (.ref it) (.ref D) env) R s)
    (hstart : ∀ (it D : Addr) (env : Env) (R : Result → Shared → Prop) (s : Shared), codeAny (model X.prog X.w) X.A (.compLoop comp 0 (.ref it) (.ref D) env) R s →
      wpAny (model X.prog X.w) X.A (pyIter (.ref it)) (fun v s' => codeAny (model X.prog X.w) X.A (.compLoop comp 0 v (.ref D) env) R s') (notedBy (model X.prog X.w) X.A env fun e s' => R (.error e) s') s →
      codeAny (model X.prog X.w) X.A (.compStart comp 0 (.ref it) (.ref D) env) R s)
    (hstep : ∀ (s : Shared) (H : Hp) (C : Addr) (cl : List (Str × Addr)) (fp : List Addr) (pins : List (Addr × Obj)) (σ : L2.St) (H' : Hp) (s' : Shared) (D : Addr) (post : Shared → Prop) (N : Hp → Prop), Inv (X.blk s H scope (compEnvC scope cl C X.env) fp) pins σ H' s' → rd σ H' D N →
      (∀ s'' H'', Inv (X.blk s H scope (compEnvC scope cl C X.env) fp) pins σ H'' s'' → N H'' → post s'') → BD D (compEnvC scope cl C X.env) post s')
    (hc : X.calm = true) (hN : X.N.Nodup) (I : Inv X pins σ H s) (hi : PI X tg iter wi) (ok : BlkOk X.N X.env.scope scope own)
    (hg : ∀ (s : Shared) (H : Hp) (C : Addr) (cl : List (Str × Addr)) (fp : List Addr), PG (X.blk s H scope (compEnvC scope cl C X.env) fp) tg g) (ht : ∀ (s : Shared) (H : Hp) (C : Addr) (cl : List (Str × Addr)) (fp : List Addr), PTs (X.blk s H scope (compEnvC scope cl C X.env) fp) ifs tt)
    (hs : ∀ x, foldedSetIterable iter X.env x = pure x) (h : tCC U wi g tt rd (own.map (·.2)) σ H Q)
    (hEnd : ∀ D s' H', Inv X pins σ H' s' → Q (.ref D) H' → Qf (.ref D) s') :
    wpAny (model X.prog X.w) X.A (comprehension comp scope X.env pos' newAcc false (eval iter X.env)) Qf X.xe s := by
  have hfree : ∀ y ∈ scope.names, y.2 = .free → ∃ c, X.env.cells.lookup y.1 = some c := fun y hy e => (ok.free y hy e).elim (fun k => I.ok.has _ (.inl k)) fun k => I.ok.has _ (.inr k)
  refine wpAny_comprehension_free (use := none) hcl hs (closure_ok hfree) ok.kind (fun y hy e => by rw [ok.uniq y hy, e]) (thn (hi.run pins s σ H _ I h) fun _ _ hx => thn hx fun _ s2 h2 => ?_)
  obtain ⟨it, fp, tn, J, H2, rfl, I2, T, st2, f2, q⟩ := h2
  refine hnew _ _ _ (newEnv_comp ?_)
  obtain ⟨D, hD⟩ : ∃ D, s2.heap.objs.size = D := ⟨_, rfl⟩
  rw [hD]
  obtain ⟨W, ⟨m0, w0⟩, turn⟩ := q D (I2.hok.fresh (Nat.le_of_eq hD))
  obtain ⟨s3, hs3⟩ : ∃ s3 : Shared, { s2 with heap := s2.heap.push o0 } = s3 := ⟨_, rfl⟩
  have I3 : Inv X pins σ (upd H2 D (U D)) s3 := by
    rw [← hs3]
    exact I2.laid (t' := s2.toks) (fun b o e => Heap.get?_push_of_some _ e) (Nat.le_of_eq hD) (by rw [← hD]; exact hfr H2 s2.heap I2.big)
  have h3 : s3.heap = s2.heap.push o0 := by rw [← hs3]
  have f3 : ∀ b ∈ fp, FpOk X pins (upd H2 D (U D)) b ∧ b < s3.heap.objs.size := fun b hb => by
    obtain ⟨o, e, _⟩ := T.obj _ _ st2 b hb
    have lt := Heap.lt_size e
    exact ⟨⟨by rw [upd_ne (by rw [← hD]; exact Nat.ne_of_lt lt)]; exact (f2 b hb).1, (f2 b hb).2⟩, by rw [h3, Heap.size_push]; exact Nat.lt_succ_of_lt lt⟩
  have st3 : tn 0 s3.heap := T.keep _ _ _ st2 fun b _ o e => by rw [h3]; exact Heap.get?_push_of_some _ e
  have I4 := block_start I3 ok hN f3
  rw [hs3]
  obtain ⟨C, hC⟩ : ∃ C, s3.heap.objs.size = C := ⟨_, rfl⟩
  obtain ⟨cl, hcl2⟩ : ∃ cl, cellsFrom (s3.heap.objs.size + 1) scope.names (cloFrom X.env.cells scope.names []) = cl := ⟨_, rfl⟩
  obtain ⟨H3, hH3⟩ : ∃ H3, upd H2 D (U D) = H3 := ⟨_, rfl⟩
  obtain ⟨s4, hs4⟩ : ∃ s4 : Shared, { s3 with heap := pushCells (s3.heap.push { cls := .type "dict", data := .dict #[] }) scope.names } = s4 := ⟨_, rfl⟩
  have st4 : tn 0 s4.heap := T.keep _ _ _ st3 fun b _ o e => by rw [← hs4]; exact pushCells_keeps _ _ _ _ (Heap.get?_push_of_some _ e)
  rw [hcl2, hC, hH3, hs4] at I4
  rw [hH3] at w0 I3 f3
  have pg := hg s3 H3 C cl fp
  have pt := ht s3 H3 C cl fp
  have stp := hstep s3 H3 C cl fp
  show codeAny (model X.prog X.w) X.A (.compStart comp 0 (.ref it) (.ref D) (compEnvC scope (cellsFrom (s3.heap.objs.size + 1) scope.names (cloFrom X.env.cells scope.names [])) s3.heap.objs.size X.env)) (compPost (model X.prog X.w) X.A X.xe none Qf (.ref D) s3.heap.objs.size) { s3 with heap := pushCells (s3.heap.push { cls := .type "dict", data := .dict #[] }) scope.names }
  rw [hcl2, hC, hs4]
  have cL : (compEnvC scope cl C X.env).locals = C := rfl
  obtain ⟨ce, hce⟩ : ∃ ce, compEnvC scope cl C X.env = ce := ⟨_, rfl⟩
  rw [hce] at I4 pg pt stp cL ⊢
  have stat : ∀ {σ' : L2.St} {H' : Hp} {s' : Shared}, Inv (X.blk s3 H3 scope ce fp) [] σ' H' s' → (∀ b ∈ fp, H' b = none) → ∀ b ∈ fp, FpOk (X.blk s3 H3 scope ce fp) [] H' b := fun {σ' H' s'} I' hn b hb =>
    ⟨hn b hb, (I'.ok.exf b hb).1, I'.ok.exfs b hb, .inl hb, fun x c e => (I'.ok.exf b hb).2 x c e, fun p hp => by cases (show p ∈ ([] : List (Addr × Obj)) ++ [] from hp)⟩
  have loop : codeAny (model X.prog X.w) X.A (.compLoop comp 0 (.ref it) (.ref D) ce) (compPost (model X.prog X.w) X.A X.xe none Qf (.ref D) C) s4 := by
    refine hloop it D ce _ (fun n s' => ∃ i H', Inv (X.blk s3 H3 scope ce fp) [] (wipe σ (own.map (·.2))) H' s' ∧ tn i s'.heap ∧ (∀ b ∈ fp, H' b = none) ∧ W i n H') (fun n s5 hI => ?_) m0 s4 ⟨0, H3, I4, st4, fun b hb => (f3 b hb).1.1, w0⟩
    obtain ⟨i, H5, I5, st5, n5, w5⟩ := hI
    rcases turn i n H5 w5 with ⟨stop, qq⟩ | ⟨go, Nx, hNx, step⟩
    · refine thnF (T.done (X.blk s3 H3 scope ce fp) rfl rfl rfl hc i [] s5 _ H5 (fun _ _ => False) I5 (stat I5 n5) st5 stop) fun r s6 hr6 => ?_
      obtain ⟨rfl, I6⟩ := hr6
      have I7 : Inv X pins σ H5 s6 := I3.call' (ch := fp) I6.os I6.base I6.hok I6.bare fun b hb => let z := (f3 b hb).1; ⟨z.2.2.2.1, z.2.1, z.2.2.2.2.1, z.2.2.2.2.2⟩
      have nC : H5 C = none := by
        have z : H5 ce.locals = none := I6.free
        rwa [cL] at z
      obtain ⟨m, hn, _⟩ := I6.loc
      have hn2 : s6.heap.Ns ce.locals m := hn
      rw [cL] at hn2
      obtain ⟨f0, f1, f2', f3', f4, f5⟩ := I3.fpOk (Nat.le_of_eq hC) nC
      exact ⟨m, hn2, fun h'' sb => hEnd D _ H5 (I7.turned (t' := s6.toks) (fun b o hb e => (sb.2 b hb).trans e) f0 f1 f3' f4 f5) qq⟩
    · refine thnF (T.item (X.blk s3 H3 scope ce fp) rfl rfl rfl hc i [] s5 _ H5 (fun _ _ => False) I5 (stat I5 n5) st5 go) fun r s6 hr6 => ?_
      obtain ⟨u, rfl, h6⟩ := hr6
      refine thnF h6 fun _ s7 ⟨x, H7, I7, r7, y7, st7, n7⟩ => ?_
      refine thnF (pg.run _ s7 _ H7 x u _ (I7.pinned (stat I7 n7) (T.obj _ _ st7)) r7 (step x H7 y7)) fun _ s8 ⟨σ8, H8, I8, hw8, q8⟩ => ?_
      refine thnF (pt.run _ s8 σ8 H8 _ I8 q8) fun b s9 ⟨H9, I9, q9⟩ => ?_
      have fin : ∀ (s' : Shared) (H' : Hp), Inv (X.blk s3 H3 scope ce fp) ([] ++ pinsAt fp s7.heap) σ8 H' s' → Nx H' → ∃ m, m < n ∧ ∃ i H', Inv (X.blk s3 H3 scope ce fp) [] (wipe σ (own.map (·.2))) H' s' ∧ tn i s'.heap ∧ (∀ b ∈ fp, H' b = none) ∧ W i m H' := fun s' H' I' nx => by
        obtain ⟨m', hm, w'⟩ := hNx H' nx
        have pin' : ∀ b ∈ fp, ∀ o, s7.heap.get? b = some o → s'.heap.get? b = some o ∧ H' b = none := fun b hb o e => by
          obtain ⟨z1, z2, _⟩ := I'.pin (b, o) (List.mem_append_right _ (List.mem_append_right _ (mem_pinsAt hb e)))
          exact ⟨z1, z2⟩
        refine ⟨m', hm, i + 1, H', (I'.unpinned (pins := [])).weak (by rw [← hw8, wipe_length]) (fun j v e => ?_), T.keep _ _ _ st7 fun b hb o e => (pin' b hb o e).1, fun b hb => ?_, w'⟩
        · rw [← hw8] at e; exact (wipe_some e).1
        · obtain ⟨o, e, _⟩ := T.obj _ _ st7 b hb; exact (pin' b hb o e).2
      cases b with
      | false =>
        rw [if_neg Bool.false_ne_true] at q9 ⊢
        exact fin _ _ I9 q9
      | true =>
        rw [if_pos rfl] at q9 ⊢
        exact stp _ σ8 H9 s9 D _ Nx I9 q9 fin
  exact hstart it D ce _ s4 loop (T.self X.A 0 _ _ _ st4 loop)
end
/-! ### dicts whose keys are tuples -/
section
variable {X : Cx} {A : Around}
/-- the dict at D takes z at the key k -/
theorem dictSet_T {pins : List (Addr × Obj)} {σ : L2.St} {H : Hp} {s : Shared} {E : Value → Shared → Prop} {D b : Addr} {kvs : List (List Key × V)} {k : List Key} {v : V} {u r : Value} {Q : Unit → Shared → Prop} (hu : A.units < cLine) (I : Inv X pins σ H s)
    (hD : H D = some (.dT kvs)) (hb : H b = some (.tup (k.map kV))) (hz : kvs.length < sizeLine) (ru : u = .ref b) (rv : RelV v r) (h : ∀ s', Inv X pins σ (upd H D (.dT (putK kvs k v))) s' → Q () s') : wpAny (model X.prog X.w) A (dictSet D u r) Q E s := by
  subst ru
  obtain ⟨z, hd, xs, rel, dd⟩ := dt_of I.hok hD
  have hzx : xs.length ≤ sizeLine := by rw [← Paired.length rel]; exact z
  have hl : (putK kvs k v).length ≤ sizeLine := by have := length_putK kvs k v; omega
  refine wpAny_dictSet_heap (hsz := hzx) (show (tupleKind (mixKind X.prog X.w)).room A from hu) (key_of I.hok hb) dd fun h' dd' hs => h _ ?_
  obtain ⟨q, es, ep, hq, h2, h3, h4, _, h5⟩ := dd'
  refine d_write I (by rw [hD]; trivial) hs ⟨q, hq⟩ ⟨hl, hd, _, (rel.put k hb rv).keeps fun c ys ec => ?_, q, es, ep, hq, h2, h3, h4, h5⟩
  rwa [upd_ne (ne_of ec hD (fun z => nomatch z))]
/-- {k: v for target in iter if ..}, k tuples of ints and texts -/
def tDcT (wi : TI) (g : TG) (tt : TT) (tk tv : TE) (vs : List Nat) : TE := tCC (fun _ => .dT []) wi g tt (fun σ H D N => tk σ H fun y H4 => tv σ H4 fun z H5 => ∃ (kvs : List (List Key × V)) (k : List Key) (b : Addr), y = .ref b ∧ H5 b = some (.tup (k.map kV)) ∧ H5 D = some (.dT kvs) ∧ kvs.length < sizeLine ∧ N (upd H5 D (.dT (putK kvs k z)))) vs
theorem pe_dcT {kx vx tg iter : Expr} {ifs : List Expr} {scope : Scope} {own : List (Str × Nat)} {pos : Pos} {wi : TI} {g : TG} {tt : TT} {tk tv : TE} (hu : X.A.units < cLine) (hc : X.calm = true) (hN : X.N.Nodup) (hi : PI X tg iter wi) (ok : BlkOk X.N X.env.scope scope own)
    (hg : ∀ (s : Shared) (H : Hp) (C : Addr) (cl : List (Str × Addr)) (fp : List Addr), PG (X.blk s H scope (compEnvC scope cl C X.env) fp) tg g) (ht : ∀ (s : Shared) (H : Hp) (C : Addr) (cl : List (Str × Addr)) (fp : List Addr), PTs (X.blk s H scope (compEnvC scope cl C X.env) fp) ifs tt)
    (hk : ∀ (s : Shared) (H : Hp) (C : Addr) (cl : List (Str × Addr)) (fp : List Addr), PE (X.blk s H scope (compEnvC scope cl C X.env) fp) kx tk)
    (he : ∀ (s : Shared) (H : Hp) (C : Addr) (cl : List (Str × Addr)) (fp : List Addr), PE (X.blk s H scope (compEnvC scope cl C X.env) fp) vx tv) (hs : ∀ x, foldedSetIterable iter X.env x = pure x := by intro _; rfl) :
    PE X (.DictComp kx vx [⟨tg, iter, ifs, 0⟩] scope pos) (tDcT wi g tt tk tv (own.map (·.2))) := by
  refine ⟨fun pins s σ H Q I h => ?_⟩
  rw [arm_eval_DictComp]
  refine cc_core (o0 := { cls := .type "dict", data := .dict #[] }) (BD := fun D env post s => ∀ E : Value → Shared → Prop, wpAny (model X.prog X.w) X.A (eval kx env) (fun kv s₁ => wpAny (model X.prog X.w) X.A (eval vx env) (fun vv s₂ => wpAny (model X.prog X.w) X.A (dictSet D kv vv) (fun _ s₃ => post s₃) E s₂) E s₁) E s)
    rfl (fun s Q E q => wpAny_newObj_type q) (fun H h big => ?_) (fun it D env R Iv turn n s hI => compLoop_anyD Iv (fun n s hn => wpAny_mono (turn n s hn) (fun r s₁ h₁ => ?_) fun _ _ z => z) n hI) (fun it D env R s h0 h1 => codeAny_compStart_dict h0 h1)
    (fun sb Hb C cl fp pins σ H' s' D post N J hr fin E => ?_) hc hN I hi ok hg ht hs h (fun D s' H' J q => ⟨.ref D, H', J, rfl, q⟩)
  · obtain ⟨z, y, vs, rel, dd⟩ := dk_empty (P := X.prog) (w := X.w) (H := upd H h.objs.size (.dT [])) h big
    exact ⟨Nat.zero_le _, y, [], .nil, _, #[], 0, Heap.get?_push_size _ rfl, ⟨rfl, rfl, rfl⟩, rfl, rfl, List.nodup_nil⟩
  · cases r with
    | none => exact h₁
    | some v =>
      refine wpAny_mono h₁ (fun _ s₂ h₂ => wpAny_mono h₂ (fun _ s₃ h₃ => wpAny_mono h₃ (fun ok' s₄ h₄ => ?_) fun _ _ z => z) fun _ _ z => z) fun _ _ z => z
      cases ok' with
      | false => exact h₄
      | true => exact h₄ _
  · refine thnF ((hk sb Hb C cl fp).run pins s' σ H' _ J hr) fun u s₁ ⟨y, H4, J4, ry, q4⟩ => ?_
    refine thnF ((he sb Hb C cl fp).run pins s₁ σ H4 _ J4 q4) fun r s₂ ⟨z, H5, J5, rz, kvs, k, b, ey, eb, eD, hl, nx⟩ => ?_
    subst ey
    exact dictSet_T (X := X.blk sb Hb scope (compEnvC scope cl C X.env) fp) hu J5 eD eb hl ry rz fun s₃ J6 => fin s₃ _ J6 nx
end
/-! ### sets of tuples of ints -/
section
variable {X : Cx}
/-- {elt for target in iter if ..}, elt a tuple of ints: the set D holds the tuples L, each once -/
def tScT (K : PySem.W.Frag) (P : Program) (w : World) (wi : TI) (g : TG) (tt : TT) (te : TE) (vs : List Nat) : TE := tCC (fun D => SetTO P w D []) wi g tt (fun σ H D N => te σ H fun y H4 => ∃ (L : List (Addr × List Int)) (a : Addr) (k : List Int), y = .ref a ∧ SqT K H4 a (k.map V.int) ∧
  H4 D = some (SetTO P w D L) ∧ (∀ p ∈ L, SqT K H4 p.1 (p.2.map V.int)) ∧ L.length + 1 < 64 ∧ (k ∈ L.map (·.2) → N H4) ∧ (k ∉ L.map (·.2) → ∀ L', L'.Perm ((a, k) :: L) → N (upd H4 D (SetTO P w D L')))) vs
theorem setAdd_T {A : Around} {pins : List (Addr × Obj)} {σ : L2.St} {H : Hp} {s : Shared} {E : Value → Shared → Prop} {D a : Addr} {L : List (Addr × List Int)} {k : List Int} {u : Value} {N : Hp → Prop} {Q : Value → Shared → Prop} (hu : A.units + 1 < cLine) (I : Inv X pins σ H s)
    (hD : H D = some (SetTO X.prog X.w D L)) (hk : SqT X.K H a (k.map V.int)) (hL : ∀ p ∈ L, SqT X.K H p.1 (p.2.map V.int)) (hz : L.length + 1 < 64) (ru : u = .ref a) (h1 : k ∈ L.map (·.2) → N H) (h2 : k ∉ L.map (·.2) → ∀ L', L'.Perm ((a, k) :: L) → N (upd H D (SetTO X.prog X.w D L')))
    (fin : ∀ s' H', Inv X pins σ H' s' → N H' → Q .none s') : wpAny (model X.prog X.w) A (call (.builtin "set.add") [.ref D, u]) Q E s := by
  subst ru
  have R0 : SetT0 X.prog X.w s.heap D L := (I.hok D _ hD).1
  obtain ⟨es, ep, t, R⟩ := R0.full fun p hp => I.isT (hL p hp)
  have hx := I.isT hk
  obtain ⟨o, ho, hex, hd⟩ := R.ob
  have hT : s.TypeIs (.ref D) "set" := ⟨o, ho, hex.1⟩
  refine wpAny_call_entry F.slot_set_add hT F.entry_set_add ?_ (F.args_set_add_2 _ _)
  unfold Builtin.«set.add» Builtin.Frozenset.oneOther
  simp only [List.isEmpty_nil, bind_assoc]
  unfold Builtin.Frozenset.addrOf setAdd
  refine wpAny_bind (wpAny_pure ?_)
  try dsimp only
  refine wpAny_bind (wpAny_pure ?_)
  try dsimp only
  refine wpAny_bind (wpAny_holding (wpAny_bind (wpAny_pyHash_tuple (show A.in1.units < cLine from hu) hx ?_)))
  refine add_at (s := { s with toks := s.toks + (k.length + 1) }) R hx (show A.in1.units < cLine from hu) hz fun b h' L' es' ep' t' hsb hS c1 c2 => ?_
  have J : Inv X pins σ (upd H D (SetTO X.prog X.w D L')) { s with heap := h', toks := s.toks + (k.length + 1) } :=
    I.write (x := D) (e := D) (t' := s.toks + (k.length + 1)) (by rw [hD]; trivial) (.inl rfl) (fun c q hc z => (hsb.2 c hc).trans z) (let ⟨o, ho, _⟩ := hS.ob; ⟨o, ho⟩) (setTO_new hS.t0)
  show wpAny _ _ (ret Value.none) _ _ _
  refine wpAny_pure ⟨_, rfl, ?_⟩
  rcases Classical.em (k ∈ L.map (·.2)) with m | m
  · refine fin _ _ J ?_
    have e : upd H D (SetTO X.prog X.w D L') = H := by
      rw [c1 m]
      funext c
      by_cases hc : c = D
      · rw [hc, upd_same, hD]
      · rw [upd_ne hc]
    rw [e]
    exact h1 m
  · exact fin _ _ J (h2 m L' (c2 m))
theorem pe_scT {elt tg iter : Expr} {ifs : List Expr} {scope : Scope} {own : List (Str × Nat)} {pos : Pos} {wi : TI} {g : TG} {tt : TT} {te : TE} (hu : X.A.units + 1 < cLine) (hc : X.calm = true) (hN : X.N.Nodup) (hi : PI X tg iter wi) (ok : BlkOk X.N X.env.scope scope own)
    (hg : ∀ (s : Shared) (H : Hp) (C : Addr) (cl : List (Str × Addr)) (fp : List Addr), PG (X.blk s H scope (compEnvC scope cl C X.env) fp) tg g) (ht : ∀ (s : Shared) (H : Hp) (C : Addr) (cl : List (Str × Addr)) (fp : List Addr), PTs (X.blk s H scope (compEnvC scope cl C X.env) fp) ifs tt)
    (he : ∀ (s : Shared) (H : Hp) (C : Addr) (cl : List (Str × Addr)) (fp : List Addr), PE (X.blk s H scope (compEnvC scope cl C X.env) fp) elt te) (hs : ∀ x, foldedSetIterable iter X.env x = pure x := by intro _; rfl) :
    PE X (.SetComp elt [⟨tg, iter, ifs, 0⟩] scope pos) (tScT X.K X.prog X.w wi g tt te (own.map (·.2))) := by
  refine ⟨fun pins s σ H Q I h => ?_⟩
  rw [PpSet.eval_SetComp]
  refine cc_core (o0 := { cls := .type "set", dict := none, data := .set #[] 0 (.fresh 0 0 (!X.w.params.followText "set-order")) }) (BD := fun D env post s => ∀ E : Value → Shared → Prop, wpAny (model X.prog X.w) X.A (eval elt env) (fun v s₁ => wpAny (model X.prog X.w) X.A (call (.builtin "set.add") [.ref D, v]) (fun _ s₃ => post s₃) E s₁) E s)
    rfl (fun s Q E q => PpSet.newSet_ok q) (fun H h big => ?_) (fun it D env R Iv turn n s hI => PpSet.compLoopS_any Iv (fun n s hn => wpAny_mono (turn n s hn) (fun r s₁ h₁ => ?_) fun _ _ z => z) n hI) (fun it D env R s h0 h1 => PpSet.codeAny_compStart_set h0 h1)
    (fun sb Hb C cl fp pins σ H' s' D post N J hr fin E => ?_) hc hN I hi ok hg ht hs h (fun D s' H' J q => ⟨.ref D, H', J, rfl, q⟩)
  · exact setTO_new (setTR_fresh (w := X.w) (P := X.prog) (Heap.get?_push_size _ rfl)).t0
  · cases r with
    | none => exact h₁
    | some v =>
      refine wpAny_mono h₁ (fun _ s₂ h₂ => wpAny_mono h₂ (fun _ s₃ h₃ => wpAny_mono h₃ (fun ok' s₄ h₄ => ?_) fun _ _ z => z) fun _ _ z => z) fun _ _ z => z
      cases ok' with
      | false => exact h₄
      | true => exact h₄ _
  · refine thnF ((he sb Hb C cl fp).run pins s' σ H' _ J hr) fun u s₁ ⟨y, H4, J4, ry, L, a, k, ey, hk, eD, hL, hz, n1, n2⟩ => ?_
    subst ey
    exact setAdd_T (X := X.blk sb Hb scope (compEnvC scope cl C X.env) fp) hu J4 eD hk hL hz ry n1 n2 fun s₃ H6 J6 n => fin s₃ H6 J6 n
end
end K85
/-! K85R4: setdefault with tuple keys; sorted, >= and repr of data; attributes as targets. -/
namespace K85
open PySem PySem.Spec PyProof.Rows L2
section
variable {X : Cx} {o e f : Expr} {td ty tx : TE} {apos cpos : Pos}
/-- d.setdefault(k, z), k a tuple -/
def tDSetT (td ty tx : TE) : TE := fun σ H Q => td σ H fun x H1 => ∃ a, x = .ref a ∧ IsD H1 a ∧ ty σ H1 fun y H2 => tx σ H2 fun z H3 => ∃ (kvs : List (List Key × V)) (k : List Key) (b : Addr), H3 a = some (.dT kvs) ∧ y = .ref b ∧ H3 b = some (.tup (k.map kV)) ∧ kvs.length < sizeLine ∧
  (∀ v, valV kvs k = some v → Q v H3) ∧ (valV kvs k = none → Q z (upd H3 a (.dT (putK kvs k z))))
theorem pe_dsetT (hu : X.A.units + 1 < cLine) (ho : PE X o td) (he : PE X e ty) (hf : PE X f tx) (m : M2 X o "setdefault" apos e f cpos) : PE X (.Call (.Attribute o "setdefault" apos) [e, f] [] cpos) (tDSetT td ty tx) := by
  refine ⟨fun pins s σ H Q I h => ?_⟩
  refine wpAny_Call_method m.base m.few m.line PySem.F.plainAttrs_dict PySem.F.slot_dict_setdefault PySem.F.type_dict_setdefault (thn (ho.run pins s σ H _ I h) fun u s1 hu1 => ?_)
  obtain ⟨x, H1, I1, rx, a, ex, d, q1⟩ := hu1
  subst ex
  obtain rfl : u = Value.ref a := rx
  obtain ⟨t1, t2, _⟩ := isD_at I1 d
  refine ⟨t1, t2, ?_⟩
  rw [m.trees]
  refine Calls.callWith_builtin rfl (Calls.evalArgs_plain (Calls.spliced_cons (thn (he.run pins s1 σ H1 _ I1 q1) fun iv s2 h2 => ?_)))
  obtain ⟨y, H2, I2, ry, q2⟩ := h2
  refine Calls.spliced_cons (thn (hf.run pins s2 σ H2 _ I2 q2) fun fv s3 h3 => Calls.spliced_nil ?_)
  obtain ⟨z, H3, I3, rz, kvs, k, b, ea, ey, eb, hl, q3, q4⟩ := h3
  subst ey
  obtain rfl : iv = Value.ref b := ry
  obtain ⟨hz, hd, xs, rel, dd⟩ := dt_of I3.hok ea
  have hzx : xs.length ≤ sizeLine := by rw [← Paired.length rel]; exact hz
  refine call_setdefault_heap (hsz := hzx) (show (tupleKind (mixKind X.prog X.w)).room X.A.in1 from hu) (key_of I3.hok eb) hd dd (fun p hp => ?_) fun hn h' dd' hs => ?_
  · have r := rel.val k
    rw [hp] at r
    cases q0 : valV kvs k with
    | none => rw [q0] at r; exact (show False from r).elim
    | some v0 =>
      rw [q0] at r
      exact ⟨v0, H3, I3.tok _, r, q3 v0 q0⟩
  · have r := rel.val k
    rw [hn] at r
    cases q0 : valV kvs k with
    | some v0 => rw [q0] at r; exact (show False from r).elim
    | none =>
      have hl2 : (putK kvs k z).length ≤ sizeLine := by have := length_putK kvs k z; omega
      obtain ⟨q, es, ep, hq, h2, h3, h4, _, h5⟩ := dd'
      have new : ObjOk X.prog X.w (upd H3 a (.dT (putK kvs k z))) h' a (.dT (putK kvs k z)) := ⟨hl2, hd, _, (rel.put k eb rz).keeps fun c ys ec => by rwa [upd_ne (ne_of ec ea (fun z => nomatch z))], q, es, ep, hq, h2, h3, h4, h5⟩
      exact ⟨z, _, d_write I3 (by rw [ea]; trivial) hs ⟨q, hq⟩ new, rz, q4 q0⟩
end
/-! ### pairs of an int and a text -/
/-- x is a tuple (i, s) -/
def PairAt (K : PySem.W.Frag) (H : Hp) (x : V) (b : Int × Str) : Prop := ∃ t, x = .ref t ∧ SqT K H t [.int b.1, .str b.2]
abbrev PairsAt (K : PySem.W.Frag) (H : Hp) : List V → List (Int × Str) → Prop := Paired (PairAt K H)
def encP (b : Int × Str) : PyData := .tuple [.int b.1, .str b.2]
def leP : Int × Str → Int × Str → Bool := PySem.W.dataLe false encP
theorem alike_P (b b' : Int × Str) : PySem.W.alike (encP b) (encP b') = true := rfl
theorem leP_eq (b b' : Int × Str) : leP b b' = (!(if b'.1 = b.1 then (if b'.2 = b.2 then false else decide (b'.2.cps.toList < b.2.cps.toList)) else decide (b'.1 < b.1))) := by
  show (!PySem.W.dataLt (encP b') (encP b)) = _
  unfold encP
  rw [PySem.W.dataLt_pair (x := .int b'.1) (x' := .int b.1) (y := .str b'.2) (y' := .str b.2) rfl rfl]
  have e1 : PyData.eqv (.int b'.1) (.int b.1) = decide (b'.1 = b.1) := by
    show (b'.1 == b.1) = _
    exact Bool.beq_eq_decide_eq ..
  have e2 : PyData.eqv (.str b'.2) (.str b.2) = decide (b'.2 = b.2) := by
    show (b'.2 == b.2) = _
    exact Bool.beq_eq_decide_eq ..
  rw [e1, e2]
  by_cases h1 : b'.1 = b.1
  · rw [if_pos (decide_eq_true h1), if_pos h1]
    by_cases h2 : b'.2 = b.2
    · rw [if_pos (decide_eq_true h2), if_pos h2]
    · rw [if_neg (by simp [h2]), if_neg h2, PySem.W.not_lt_str]
      exact congrFun (congrFun (PySem.W.dataLe_str (fun z : Str => z)) b.2) b'.2
  · rw [if_neg (by simp [h1]), if_neg h1, PySem.W.not_lt_int]
    exact congrFun (congrFun (PySem.W.dataLe_int (fun z : Int => z)) b.1) b'.1
section
variable {X : Cx} {pins : List (Addr × Obj)} {σ : L2.St} {H : Hp} {s : Shared}
theorem pair_data {K : PySem.W.Frag} {H : Hp} {x : V} {b : Int × Str} (h : PairAt K H x b) : Dp K H x (encP b) := by
  obtain ⟨t, rfl, q⟩ := h
  exact .tup q (.cons (.int _) (.cons (.str _) .nil))
theorem pairs_data {K : PySem.W.Frag} {H : Hp} : ∀ {xs : List V} {bs : List (Int × Str)}, PairsAt K H xs bs → DpAll K H xs (bs.map encP)
  | _, _, .nil => .nil
  | _, _, .cons h t => .cons (pair_data h) (pairs_data t)
theorem each_pairs {R : Value → Int × Str → Prop} (hR : ∀ (x : V) (u : Value) (b : Int × Str), PairAt X.K H x b → RelV x u → R u b) : ∀ {xs : List V} {us : List Value} {bs : List (Int × Str)}, PairsAt X.K H xs bs → Vals xs us → PySem.W.EachIs R us bs
  | _, _, _, .nil, .nil => .nil
  | _, _, _, .cons h t, .cons r rs => .cons (hR _ _ _ h r) (each_pairs hR t rs)
theorem pairs_back {K : PySem.W.Frag} : ∀ {us : List Value} {bs : List (Int × Str)}, PySem.W.EachIs (fun u b => ∃ t, u = Value.ref t ∧ SqT K H t [.int b.1, .str b.2]) us bs → ∃ ys : List V, Vals ys us ∧ PairsAt K H ys bs
  | _, _, .nil => ⟨[], .nil, .nil⟩
  | _, _, .cons h t => by
    obtain ⟨a, rfl, q⟩ := h
    obtain ⟨ys, r, p⟩ := pairs_back t
    exact ⟨.ref a :: ys, .cons rfl r, .cons ⟨a, rfl, q⟩ p⟩
def rSortP (K : PySem.W.Frag) : List V → Hp → VK → Prop := fun vs H Q => ∃ (a : Addr) (xs : List V) (bs : List (Int × Str)), vs = [.ref a] ∧ SqL K H a xs ∧ PairsAt K H xs bs ∧
  ∀ (ys : List V) (p : Addr), PairsAt K H ys (bs.mergeSort leP) → H p = none → Q (.ref p) (upd H p (.lst ys))
theorem cr_sortP {k : Nat} (hr : Room k X.A) : CallR X (.builtin "sorted") (rSortP X.K) := by
  intro pins s σ H vs us Q I r h
  obtain ⟨a, xs, bs, rfl, hs, hp, q⟩ := h
  obtain ⟨its, rv, hl, hz⟩ := I.list hs
  obtain ⟨u, rfl, ru⟩ := vals1 r
  obtain rfl : u = Value.ref a := ru
  have hlen : bs.length ≤ sizeLine := by rw [← Paired.length hp]; exact hz
  refine PySem.W.sorted_data (enc := encP) (bs := bs) hl.isList (each_pairs (R := fun u b => ∃ t, u = Value.ref t ∧ SqT X.K H t [.int b.1, .str b.2]) (fun x u b h r => ?_) hp rv) (each_pairs (R := fun v b => ∃ as, Reads s.heap v (encP b) as) (fun x u b h r => Dp.reads I _ _ _ (pair_data h) r) hp rv)
    (PySem.W.AllAlike.of fun b b' => alike_P b b') (PySem.W.Sortable.tuples fun b => ⟨_, _, rfl⟩) hlen (fun b _ => ?_) fun out ho he => ?_
  · obtain ⟨t, rfl, q⟩ := h
    exact ⟨t, r, q⟩
  · have e : (encP b).depth = 1 := rfl
    rw [e]
    have := hr.units
    omega
  · obtain ⟨ys, r2, p2⟩ := pairs_back he
    obtain ⟨n, hn⟩ := sortedAll_at s.heap its (List.toArray out)
    have hd : s.heap.objs.size ≤ s.heap.objs.size + 1 := Nat.le_succ _
    refine ⟨.ref _, upd H (s.heap.objs.size + 1) (.lst ys), I.laid (t' := s.toks) (fun b o e => sortedAll_old e) hd ⟨?_, out, n, r2, hn⟩, rfl, q ys _ p2 (I.hok.fresh hd)⟩
    rw [Paired.length r2, ho]
    exact hlen
/-- x >= y of two such tuples -/
def rGeP (K : PySem.W.Frag) : R2 := fun x y H Q => ∃ b b' : Int × Str, PairAt K H x b ∧ PairAt K H y b' ∧ Q (.bl (if b.1 = b'.1 then (if b.2 = b'.2 then true else !decide (b.2.cps.toList < b'.2.cps.toList)) else decide (b'.1 ≤ b.1))) H
theorem op_geP {k : Nat} (hr : Room k X.A) : OpR X (compareOp .GtE) (rGeP X.K) := by
  intro pins s σ H x y v u Q I rx ry h
  obtain ⟨b, b', ⟨t, rfl, h1⟩, ⟨t', rfl, h2⟩, q⟩ := h
  cases rx
  cases ry
  obtain ⟨its, r1, p1, _⟩ := I.tuple h1
  obtain ⟨its2, r2, p2, _⟩ := I.tuple h2
  obtain ⟨v1, v2, rfl, ⟨k1, rfl⟩, ⟨k2, rfl⟩⟩ := vals2 r1
  obtain ⟨w1, w2, rfl, ⟨j1, rfl⟩, ⟨j2, rfl⟩⟩ := vals2 r2
  have R := _root_.Ob.RcOp.tuples_ge (A := X.A) (s := s) (e := fun j => if j = 0 then (b.1 == b'.1) else (b.2 == b'.2)) (r := fun j => if j = 0 then decide (b'.1 ≤ b.1) else !decide (b.2.cps.toList < b'.2.cps.toList)) p1 p2 hr.units0
    (fun j h1 h2 => ?_) (fun j h1 h2 _ => ?_)
  · have z : wpAny (model X.prog X.w) X.A (compareOp .GtE (.ref t) (.ref t')) (EP X pins σ Q) X.xe s := R X.prog X.w X.xe (EP X pins σ Q) (fin_bl I q (by
      show _ = (if (b.1 == b'.1) = true then (if (b.2 == b'.2) = true then true else !decide (b.2.cps.toList < b'.2.cps.toList)) else decide (b'.1 ≤ b.1))
      simp only [beq_iff_eq]))
    exact z
  · match j, h1, h2 with
    | 0, _, _ => exact SeqAt.EqAt.int_int _ _ _ _
    | 1, _, _ => exact SeqAt.EqAt.str_str _ _ _ _
    | j + 2, h, _ => exact absurd h (by simp)
  · match j, h1, h2 with
    | 0, _, _ => exact _root_.Ob.RcOp.ge_int _ _ _ _
    | 1, _, _ => exact fun _ _ _ _ h => PySem.P.ge_str h
    | j + 2, h, _ => exact absurd h (by simp)
end
end K85
/-! K85R5: defs that are run where no repr is under way; repr of a tuple of pairs; the law's end for such a def. -/
namespace K85
open PySem PySem.Spec PyProof.Rows L2
/-- a def that keeps sp wherever no guard is laid -/
structure FnG (P : Program) (w : World) (K : PySem.W.Frag) (mg : Str → Option Value) (base : Heap) (k : Nat) (f : Addr) (fd : FuncData) (ps : List Str) (sp : Sp) : Prop where
  len : ∀ vs H Q E, sp vs H Q E → vs.length = ps.length
  run : ∀ (A : Around) (outer : List Env) (s : Shared) (H : Hp) (args : Args) (us : List Value) (vs : List V) (Q : VK) (E : XK), A.guards = some [] → Room k A → Env0 P w K mg base A outer s H → BindsTo s fd args (ps.zip us) → Vals vs us → sp vs H Q E →
    codeAny (model P w) A (.call (.ref f) args) (CR CX0 outer P w H s Q E) s
section
variable {P : Program} {w : World} {K : PySem.W.Frag} {mg : Str → Option Value} {base : Heap} {k : Nat} {f : Addr} {fd : FuncData} {ps : List Str} {sp : Sp}
theorem fnG_of {x qual : Str} {params : Arguments} {body : List Stmt} {scope : Scope} {dvs : List V} {kws : List (Str × V)} {N : List Str} (F : FunD K x qual params body scope dvs kws f fd) (S : FnScope N ps scope) (len : ∀ vs H Q E, sp vs H Q E → vs.length = ps.length)
    (hbody : ∀ (cdv : Value) (A : Around) (outer : List Env) (s : Shared) (H : Hp) (vs : List V) (Q : VK) (E : XK), A.guards = some [] → Room k (A.deeper (envOfC qual scope s.heap.objs.size f cdv)) → sp vs H Q E →
      ∃ t, PSs (cxOf CX0 P w K mg base N qual scope f cdv A outer s H E) body t ∧ t { nx := fun _ H' => Q .non H', rt := Q } (start N vs) H) : FnG P w K mg base (k + 1) f fd ps sp := by
  obtain ⟨oc, od, dV, kV, doc, pm, an, cdv, ct, osl, rfl, lk, hcd, _, _⟩ := F.ex
  refine ⟨len, fun A outer s H args us vs Q E hg hr e0 hb r hsp => ?_⟩
  have KX : K.In s.heap := e0.mod.kin.keeps fun b o e => (e0.bs b o e).1
  have lim : s.heap.NoLimit := e0.mod.nolimit.keeps fun b o e => (e0.bs b o e).1
  refine codeAny_call_function hr.depth (KX _ _ lk) rfl S.co S.gen rfl (PySem.W.codeRec_of KX hcd) (hb _ _ _ _ (wpAny_newFunctionEnv_cells S.kind (fun y hy => ?_) fun env he s1 x => ?_))
  · rcases S.par y.1 (List.of_mem_zip hy).1 with q | q
    · exact .inl q
    · exact .inr ⟨q, PySem.W.cellsFrom_some _ _ _ (.inl q)⟩
  · subst he
    obtain ⟨t, ht, hq⟩ := hbody cdv A outer s H vs Q E hg (hr.deeper _) hsp
    have I : Inv (cxOf CX0 P w K mg base N qual scope f cdv A outer s H E) [] (start N vs) H s1 := inv_start S hr.hd e0 (len _ _ _ _ hsp) r x
    refine ⟨lim.keeps x.toInCall.keep, codeAny_func (wpAny_mono (ht.run [] s1 (start N vs) H _ I hq) (fun fl s' hs => ?_) fun _ _ z => z)⟩
    cases fl with
    | ret u => obtain ⟨v, σ', H', J, rv, q⟩ := hs; exact ⟨v, H', J.os, J.bare, J.base, J.hok, rv, q⟩
    | next => obtain ⟨σ', H', J, q⟩ := hs; exact ⟨.non, H', J.os, J.bare, J.base, J.hok, rfl, q⟩
    | brk => obtain ⟨_, _, _, q⟩ := hs; exact q.elim
    | cont => obtain ⟨_, _, _, q⟩ := hs; exact q.elim
end
section
variable {X : Cx} {k : Nat} {f : Addr} {fd : FuncData} {x : Str} {ps : List Str} {sp : Sp} {p pos : Pos} {e : Expr} {es : List Expr} {t : TA}
theorem pe_gG (F : FnG X.prog X.w X.K X.mg X.base k f fd ps sp) (hG : X.A.guards = some []) (hm : X.mg x = some (.ref f)) (hk : PySem.W.keepIn X.K (.ref f) = true) (hb : Binds X.K fd ps []) (hr : Room k X.A) (ha : PA X (e :: es) t) (hg : Gl X x := by rfl) (hdb : (x == ("__debug__" : Str)) = false := by decide)
    (he : starEach (e :: es) X.env = (false, eval e X.env) :: starEach es X.env := by rfl) (hpl : (backTo pos (starEach es X.env)).any (·.1) = false := by rfl) : PE X (.Call (.Name x p) (e :: es) [] pos) (tCall sp [] E0 t) := by
  refine ⟨fun pins s σ H Q I h => wpAny_Call_Name_kw (ld_glob I hg hm ?_ hdb)⟩
  refine PySem.W.callWith_K (h₀ := X.base) I.ok.mod.kin hk (thn (ha.run pos pins s σ H _ I h) fun us s1 ⟨vs, H1, I1, r, q⟩ => ⟨I1.kIn, ?_⟩) he hpl
  have q : sp vs H1 Q E0 := by
    have z : sp (vs ++ []) H1 Q E0 := q
    rwa [List.append_nil] at z
  have hl : (us ++ []).length = ps.length := by rw [List.append_nil, ← r.length]; exact F.len _ _ _ _ q
  have b := hb s1 us I1.kIn hl
  rw [List.append_nil] at b
  refine wpAny_call (codeAny_mono (F.run X.A X.stack s1 H1 ⟨us, []⟩ us vs Q E0 hG hr I1.env0 b r q) fun r s' hq => ?_)
  cases r with
  | error e => exact False.elim hq
  | ok fl =>
    cases fl with
    | ret u => exact I1.after hq
    | next => exact False.elim hq
    | brk => exact False.elim hq
    | cont => exact False.elim hq
/-! ### repr -/
def shownP (bs : List (Int × Str)) : Str := (PyData.tuple (bs.map encP)).shown
theorem showable_P : ∀ bs : List (Int × Str), (∀ b ∈ bs, b.1 = 0 ∨ b.1 = 1) → PyData.showableAll (bs.map encP) = true
  | [], _ => rfl
  | b :: r, h => by
    have h1 : (PyData.int b.1).showable = true := by
      rcases h b List.mem_cons_self with e | e <;> (rw [e]; decide)
    have h2 := showable_P r fun c hc => h c (List.mem_cons_of_mem _ hc)
    show (((PyData.int b.1).showable && (true && true)) && PyData.showableAll (r.map encP)) = true
    rw [h1, h2]
    rfl
theorem hasDict_P : ∀ bs : List (Int × Str), PyData.hasDictAll (bs.map encP) = false
  | [] => rfl
  | _ :: r => by
    show (false || PyData.hasDictAll (r.map encP)) = false
    rw [hasDict_P r]
    rfl
theorem depth_P : ∀ bs : List (Int × Str), PyData.depthAll (bs.map encP) ≤ 1
  | [] => Nat.zero_le _
  | _ :: r => by
    show max 1 (PyData.depthAll (r.map encP)) ≤ 1
    have := depth_P r
    omega
def rReprP (K : PySem.W.Frag) : List V → Hp → VK → Prop := fun vs H Q => ∃ (a : Addr) (xs : List V) (bs : List (Int × Str)), vs = [.ref a] ∧ SqT K H a xs ∧ PairsAt K H xs bs ∧ (∀ b ∈ bs, b.1 = 0 ∨ b.1 = 1) ∧ (shownP bs).length ≤ sizeLine ∧ Q (.str (shownP bs)) H
theorem call_reprP (hG : X.A.guards = some []) (hr : Room k X.A) : CallR X (.builtin "repr") (rReprP X.K) := by
  intro pins s σ H xs us Q I r h
  obtain ⟨a, ys, bs, rfl, hs, hp, h01, hz, q⟩ := h
  obtain ⟨u, rfl, ru⟩ := vals1 r
  obtain rfl : u = Value.ref a := ru
  have D : Dp X.K H (.ref a) (.tuple (bs.map encP)) := .tup hs (pairs_data hp)
  obtain ⟨as, rd⟩ := Dp.reads I _ _ _ D rfl
  have hd : (PyData.tuple (bs.map encP)).hasDict = false := hasDict_P bs
  refine repr_of_reads' rd (showable_P bs h01) (PySem.PyData.noDict_hsm hd) hG ?_ (fun _ _ e => e) (fun h' u tk kp => ?_) hz
  · have e : (PyData.tuple (bs.map encP)).depth = PyData.depthAll (bs.map encP) + 1 ∨ (PyData.tuple (bs.map encP)).depth = 1 + PyData.depthAll (bs.map encP) := by first | exact .inl rfl | exact .inr rfl
    have h1 := depth_P bs
    have h2 := hr.units
    omega
  · exact ⟨.str _, H, I.kept (t' := tk) kp, ⟨u, rfl⟩, q⟩
end
/-! ### the law's end -/
/-- the law's own def, called where nothing is under way (as law_call, for such a def) -/
theorem law_callG {P : Program} {w : World} {K : PySem.W.Frag} {mg mb : Str → Option Value} {k : Nat} {fa a : Addr} {fd : FuncData} {x : Str} {sp : Sp} {s₁ : Shared} {vs : List Value} {ns : List Int} (KX : K.In s₁.heap) (hns : s₁.heap.Ns mainGlobals mg) (hb : s₁.heap.Ns builtinsNs mb)
    (hbb : ∀ x : Str, x ≠ "__name__" → mb x = bootBuiltins x) (hlim : s₁.heap.NoLimit) (hg : s₁.gens = #[]) (ha : s₁.heap.get? a = some { cls := .type "list", data := .seq vs.toArray }) (hi : IntsAre vs ns) (hl : ns.length ≤ sizeLine) (hr : Room k callerA)
    (F : ∀ base : Heap, K.In base → base.Ns mainGlobals mg → FnG P w K mg base k fa fd [x] sp) (hbind : ∀ (s : Shared) (u : Value), BindsTo s fd ⟨[u], []⟩ [(x, u)]) (hsp : ∀ H : Hp, SqL K H a (ns.map V.int) → sp [.ref a] H (fun v _ => v = .bl true) E0) :
    codeAny (model P w) callerA (.call (.ref fa) ⟨[.ref a], []⟩) (fun r s' => r = .ok (.ret (.bool true)) ∧ PySem.OldK s₁.heap s'.heap ∧ s'.os = s₁.os ∧ AllBare s'.gens) s₁ := by
  have rv := vals_ints hi
  have lenV := hi.length
  have key : ∀ H : Hp, (∀ b o, H b = some o → b = a ∧ o = .frz { cls := .type "list", data := .seq vs.toArray } (.lst (ns.map V.int)) ∧ K.lookup a = none) → SqL K H a (ns.map V.int) →
      codeAny (model P w) callerA (.call (.ref fa) ⟨[.ref a], []⟩) (fun r s' => r = .ok (.ret (.bool true)) ∧ PySem.OldK s₁.heap s'.heap ∧ s'.os = s₁.os ∧ AllBare s'.gens) s₁ := fun H hH hS => by
    have non : ∀ b, b ≠ a → H b = none := fun b hb => by
      cases q : H b with
      | none => rfl
      | some o => exact absurd (hH b o q).1 hb
    have ofK : ∀ b o, K.lookup b = some o → H b = none := fun b o e => by
      cases q : H b with
      | none => rfl
      | some u => obtain ⟨rfl, _, z⟩ := hH b u q; rw [z] at e; cases e
    have nsK : ∀ {b : Addr} {m : Str → Option Value}, s₁.heap.Ns b m → (hidT s₁.heap H).Ns b m := fun {b m} hn => by
      obtain ⟨o, es, ep, e, d, r⟩ := hn
      refine ⟨o, es, ep, hidT_get e ?_, d, r⟩
      by_cases hb : b = a
      · subst hb; rw [ha] at e; cases e; cases (show Data.seq vs.toArray _ = Data.dict es ep from d)
      · exact non b hb
    have hok : HOk P w H s₁.heap := fun b o e => by
      obtain ⟨rfl, rfl, _⟩ := hH b o e
      exact ⟨ha, by rw [List.length_map]; exact hl, vs, _, rv, ha⟩
    have hKb : K.In (hidT s₁.heap H) := fun b o e => hidT_get (KX b o e) (ofK b o e)
    have hM : Mod K mg (hidT s₁.heap H) := ⟨hKb, nsK hns, ⟨mb, nsK hb, hbb⟩, let ⟨mc, h1, h2⟩ := hlim; ⟨mc, nsK h1, h2⟩⟩
    have e0 : Env0 P w K mg (hidT s₁.heap H) callerA [] s₁ H := ⟨rfl, hM, fun b o e => of_hidT e, Nat.le_of_eq (hidT_size _ _), trivial, (fun b hb => by cases (show b ∈ ([] : List Addr) from hb)), hok, .of_eq hg⟩
    refine codeAny_mono ((F _ hKb (nsK hns)).run callerA [] s₁ H ⟨[.ref a], []⟩ [.ref a] [.ref a] _ _ rfl hr e0 (hbind s₁ (.ref a)) (.cons rfl .nil) (hsp H hS)) fun r s' h => ?_
    cases r with
    | error e => exact False.elim h
    | ok fl =>
      cases fl with
      | next => exact False.elim h
      | brk => exact False.elim h
      | cont => exact False.elim h
      | ret u =>
        obtain ⟨v, H', os, bare, un, hok', r', q⟩ := h
        obtain rfl : v = .bl true := q
        obtain rfl : u = Value.bool true := r'
        refine ⟨rfl, PySem.OldK.of_keep fun b o e => ?_, os, bare⟩
        cases q : H b with
        | none => exact un.keep b o e q (by intro z; cases (show b ∈ ([] : List Addr) from z)) (by intro z; cases z)
        | some u =>
          obtain ⟨rfl, rfl, _⟩ := hH b u q
          obtain ⟨e2, _⟩ := hok' b _ (un.frzs b _ _ q)
          rw [ha] at e
          cases e
          exact e2
  cases hk : K.lookup a with
  | some o =>
    have e := KX a o hk
    rw [ha] at e
    cases e
    exact key (fun _ => none) (fun b o z => by cases (show (none : Option HO) = some o from z)) (.inr ⟨_, vs.toArray, _, hk, rfl, rfl, rfl, by rw [List.size_toArray, lenV]; exact hl, by simpa using rv⟩)
  | none =>
    refine key (fun b => if b = a then some (.frz { cls := .type "list", data := .seq vs.toArray } (.lst (ns.map V.int))) else none) (fun b o z => ?_) (.inl (.inr ⟨{ cls := .type "list", data := .seq vs.toArray }, if_pos rfl⟩))
    by_cases hb : b = a
    · have z' := (if_pos hb).symm.trans z
      cases z'
      exact ⟨hb, rfl, hk⟩
    · have z' := (if_neg hb).symm.trans z
      cases z'
theorem walk_ofG {l : PySem.W.OpenLaw} {n k : Nat} {q : Program} {loose : List Str} {XP : (Str → Option Value) → Heap → Prop} {YP : World → Heap → Prop} {d : DefRec} {x : Str} (hn : l.most = some n) (hn2 : n ≤ sizeLine) (hdf : d.params.defaults = []) (hr : Room k callerA)
    (F : ∀ (w : World) (mg : Str → Option Value) (fa : Addr) (h : Heap), YP w h → h.Ns mainGlobals mg → mg d.name = some (.ref fa) → ∃ (K : PySem.W.Frag) (fd : FuncData) (sp : Sp), K.In h ∧ (∀ (s : Shared) (u : Value), BindsTo s fd ⟨[u], []⟩ [(x, u)]) ∧
      (∀ (H : Hp) (a : Addr) (ns : List Int), ns.length ≤ n → SqL K H a (ns.map V.int) → sp [.ref a] H (fun v _ => v = .bl true) E0) ∧ ∀ base : Heap, K.In base → base.Ns mainGlobals mg → FnG l.prog w K mg base k fa fd [x] sp) :
    PySem.W.WalkO q loose XP YP l.row.toRowW d [] (fun f vs => PySem.call f vs) := by
  refine Att.attach_call hn hdf fun w s₀ s₁ mg mb fa o pm cd doc a vs ns G Y ho hd hcd hmg hobj hints hlen hg => ?_
  obtain ⟨K, fd, sp, KX, hb, hsp, hF⟩ := F w mg fa _ Y G.T.g hmg
  exact law_callG KX G.T.g G.T.b G.T.builtins G.T.nolimit hg hobj hints (Nat.le_trans hlen hn2) hr hF hb fun H hS => hsp H a ns hlen hS
end K85
/-! K85T: what the walks ask of the top, and short words for the rules. -/
namespace K85
open PySem PySem.Spec PyProof.Rows L2
def lits : Str := "abcdefghijklmnopqrstuvwxyz"
def signs : Str := "abcdefghijklmnopqrstuvwxyz0123456789"
/-- the classes' places: Formula, Kind, Cell, Closing, Table, Kept -/
structure Cs where
  F : Addr
  K : Addr
  C : Addr
  L : Addr
  T : Addr
  P : Addr
  E : Addr
/-- a module's name with a value -/
abbrev GV (mg : Str → Option Value) (x : Str) (v : V) : Prop := ∃ u, mg x = some u ∧ RelV v u
structure Txt (K : PySem.W.Frag) (mg : Str → Option Value) (Z : Cs) : Prop where
  isi : mg "isinstance" = none
  len : mg "len" = none
  all : mg "all" = none
  tup : mg "tuple" = none
  lst : mg "list" = none
  srt : mg "sorted" = none
  enu : mg "enumerate" = none
  ran : mg "range" = none
  max : mg "max" = none
  min : mg "min" = none
  str : mg "str" = none
  int : mg "int" = none
  bol : mg "bool" = none
  abs : mg "abs" = none
  dmd : mg "divmod" = none
  rpr : mg "repr" = none
  LETTERS : GV mg "LETTERS" (.str lits)
  SIGNS : GV mg "SIGNS" (.str signs)
  LONGEST : GV mg "LONGEST_NAME" (.int 8)
  mOPS : GV mg "MOST_OPERATIONS" (.int 8)
  mFACTS : GV mg "MOST_FACTS" (.int 4)
  mFORMS : GV mg "MOST_FORMULAS" (.int 6)
  mSIDE : GV mg "MOST_SIDE" (.int 3)
  mINNER : GV mg "MOST_INNER" (.int 6)
  mTRI : GV mg "MOST_TRIPLES" (.int 8)
  mSTO : GV mg "MOST_STORED" (.int 6)
  mCELLS : GV mg "MOST_CELLS" (.int 200)
  eT : ∀ H, SqT K H Z.E []
  gF : mg "Formula" = some (.ref Z.F)
  gK : mg "Kind" = some (.ref Z.K)
  gC : mg "Cell" = some (.ref Z.C)
  iF : C8.InsC K Z.F
  iK : C8.InsC K Z.K
  iC : C8.InsC K Z.C
  cL : Cls K Z.L
  cT : Cls K Z.T
  cP : Cls K Z.P
  f_name : NoAttr K Z.F "name"
  f_sign : NoAttr K Z.F "sign"
  f_left : NoAttr K Z.F "left"
  f_right : NoAttr K Z.F "right"
  f_signs : NoAttr K Z.F "signs"
  f_text : NoAttr K Z.F "text"
  k_turns : NoAttr K Z.K "turns"
  k_calm : NoAttr K Z.K "calm"
  c_kind : NoAttr K Z.C "kind"
  c_ins : NoAttr K Z.C "ins"
  c_inner : NoAttr K Z.C "inner"
  c_outs : NoAttr K Z.C "outs"
  c_triples : NoAttr K Z.C "triples"
  c_stored : NoAttr K Z.C "stored"
  c_wanted : NoAttr K Z.C "wanted"
  c_begin : NoAttr K Z.C "begin"
  c_end : NoAttr K Z.C "end"
  l_kind : NoAttr K Z.L "kind"
  l_size : NoAttr K Z.L "size"
  l_operations : NoAttr K Z.L "operations"
  l_above : NoAttr K Z.L "above"
  l_trail : NoAttr K Z.L "trail"
  t_numbers : NoAttr K Z.T "numbers"
  t_letter_names : NoAttr K Z.T "letter_names"
  t_closing : NoAttr K Z.T "closing"
  p_table : NoAttr K Z.P "table"
  p_known : NoAttr K Z.P "known"
  p_steps : NoAttr K Z.P "steps"
theorem iteD {c A B : Prop} [Decidable c] (hc : c) (h : A) : if decide c = true then A else B := by rw [decide_eq_true hc]; exact iteT h
theorem iteDN {c A B : Prop} [Decidable c] (hc : ¬ c) (h : B) : if decide c = true then A else B := by rw [decide_eq_false hc]; exact iteF h
theorem iteNSN {c A B : Prop} [Decidable c] (hc : ¬ c) (h : A) : if (!decide c) = true then A else B := by rw [decide_eq_false hc]; exact iteT h
theorem iteB {b : Bool} {A B : Prop} (hc : b = true) (h : A) : if b = true then A else B := by rw [hc]; exact iteT h
theorem iteBN {b : Bool} {A B : Prop} (hc : b = false) (h : B) : if b = true then A else B := by rw [hc]; exact iteF h
theorem lt1000 {m : Nat} (h : Nat.blt m 1000 = true) : m < 1000 := by simpa using h
theorem line1000 {n : Nat} (h : n ≤ 1000) : n ≤ sizeLine := Nat.le_of_lt (small1000 h)
/-- all that was tracked is as it was but at p -/
def But (p : Addr) (H H' : Hp) : Prop := ∀ b o, H b = some o → b ≠ p → H' b = some o
theorem But.trans {p : Addr} {H H1 H2 : Hp} (a : But p H H1) (b : But p H1 H2) : But p H H2 := fun c o h n => b c o (a c o h n) n
theorem _root_.L2.Same.but {p : Addr} {H H1 : Hp} (a : Same H H1) : But p H H1 := fun c o h _ => a c o h
theorem But.refl (p : Addr) (H : Hp) : But p H H := fun _ _ h _ => h
theorem But.upd (p : Addr) (H : Hp) (o : HO) : But p H (upd H p o) := fun c u h n => by rw [upd_ne n]; exact h
theorem _root_.L2.Same.new {H : Hp} {p : Addr} {o : HO} (h : H p = none) : Same H (upd H p o) := fun b u e => by rw [upd_ne (ne_of_none e h)]; exact e
theorem _root_.L2.Same.tup {K : PySem.W.Frag} {H H' : Hp} {a : Addr} {xs : List V} (e : Same H H') (h : SqT K H a xs) : SqT K H' a xs := by
  rcases h with (h | ⟨o, h⟩) | h
  · exact .inl (.inl (e _ _ h))
  · exact .inl (.inr ⟨o, e _ _ h⟩)
  · exact .inr h
theorem But.tup {K : PySem.W.Frag} {p : Addr} {H H' : Hp} {a : Addr} {xs : List V} (e : But p H H') (n : a ≠ p) (h : SqT K H a xs) : SqT K H' a xs := by
  rcases h with (h | ⟨o, h⟩) | h
  · exact .inl (.inl (e _ _ h n))
  · exact .inl (.inr ⟨o, e _ _ h n⟩)
  · exact .inr h
theorem inV_str (s : Str) (ns : List Str) : inV (.str s) (ns.map V.str) = decide (s ∈ ns) := by
  rw [Bool.eq_iff_iff]
  unfold inV
  rw [List.any_map, List.any_eq_true, decide_eq_true_iff]
  constructor
  · rintro ⟨y, hy, e⟩
    have e : (y == s) = true := e
    rw [← eq_of_beq e]
    exact hy
  · intro h
    exact ⟨s, h, (beq_self_eq_true s : (s == s) = true)⟩
theorem flat_strs (ns : List Str) : (ns.map V.str).all flatV = true := by
  rw [List.all_map, List.all_eq_true]
  intro x _
  rfl
/-- a comprehension of any kind: Pv by the turn and the heap -/
theorem cc_it {J : It} {n : Nat} {G : Hp → Prop} {Y : Nat → Hp → V → Hp → Prop} (w : Walk J n G Y) {H0 : Hp} {Qd : Hp → Prop} {step : V → Hp → (Hp → Prop) → Prop} (Pv : Nat → Hp → Prop) (h0 : Pv 0 H0) (hG : ∀ i H, i ≤ n → Pv i H → G H)
    (hs : ∀ i x H H', i < n → Pv i H → Y i H x H' → step x H' (Pv (i + 1))) (hd : ∀ H, Pv n H → Qd H) :
    ∃ W : Nat → Nat → Hp → Prop, (∃ m, W 0 m H0) ∧ ∀ i m H, W i m H → (J.stop i H ∧ Qd H) ∨ (J.go i H ∧ ∃ Nx : Hp → Prop, (∀ H', Nx H' → ∃ m', m' < m ∧ W (i + 1) m' H') ∧ ∀ x H', J.yld i H x H' → step x H' Nx) := by
  refine ⟨fun i m H => m = n - i ∧ i ≤ n ∧ Pv i H, ⟨n, by simp, Nat.zero_le _, h0⟩, ?_⟩
  rintro i m H ⟨rfl, hi, p⟩
  have q := hG i H hi p
  by_cases hlt : i < n
  · exact .inr ⟨w.goes i H hlt q, Pv (i + 1), fun H' p' => ⟨n - (i + 1), by omega, rfl, hlt, p'⟩, fun x H' y => hs i x H H' hlt p (w.yields i H x H' hlt q y)⟩
  · have e : i = n := by omega
    subst e
    exact .inl ⟨w.stops H q, hd H p⟩
/-- a tuple, tracked or locked -/
def TupO : HO → Prop
  | .tup _ => True
  | .frz _ (.tup _) => True
  | _ => False
theorem tup_upd {K : PySem.W.Frag} {H : Hp} {d t : Addr} {u : HO} {xs : List V} (hd : ∀ o, H d = some o → ¬ TupO o) (h : SqT K H t xs) : SqT K (upd H d u) t xs := by
  rcases h with (h | ⟨o, h⟩) | h
  · exact .inl (.inl (by rw [upd_ne (fun e => hd (.tup xs) (by rw [← e]; exact h) trivial)]; exact h))
  · exact .inl (.inr ⟨o, by rw [upd_ne (fun e => hd (.frz o (.tup xs)) (by rw [← e]; exact h) trivial)]; exact h⟩)
  · exact .inr h
theorem pairs_of {K : PySem.W.Frag} {H H' : Hp} (hk : ∀ t ys, SqT K H t ys → SqT K H' t ys) : ∀ {xs : List V} {bs : List (Int × Str)}, PairsAt K H xs bs → PairsAt K H' xs bs
  | _, _, .nil => .nil
  | _, _, .cons ⟨t, e, q⟩ r => .cons ⟨t, e, hk _ _ q⟩ (pairs_of hk r)
theorem pairs_snoc {K : PySem.W.Frag} {H : Hp} {x : V} {b : Int × Str} (h : PairAt K H x b) : ∀ {xs : List V} {bs : List (Int × Str)}, PairsAt K H xs bs → PairsAt K H (xs ++ [x]) (bs ++ [b])
  | _, _, .nil => .cons h .nil
  | _, _, .cons q r => .cons q (pairs_snoc h r)
theorem pairs_at {K : PySem.W.Frag} {H : Hp} : ∀ {xs : List V} {bs : List (Int × Str)}, PairsAt K H xs bs → ∀ {i : Nat} {x : V}, xs[i]? = some x → ∃ b, bs[i]? = some b ∧ PairAt K H x b
  | _, _, .nil, i, x, e => by simp at e
  | _, _, .cons q r, 0, x, e => by cases e; exact ⟨_, rfl, q⟩
  | _, _, .cons q r, i + 1, x, e => pairs_at r e
section
variable {K : PySem.W.Frag} {mg : Str → Option Value} {Z : Cs} {X : Cx}
/-- a built-in class as a value -/
theorem pe_ty {x : Str} {n : String} {p : Pos} (hm : X.mg x = none) (hv : bootBuiltins x = some (.type n)) (hg : Gl X x := by rfl) (hn : x ≠ "__name__" := by decide) (hd : (x == ("__debug__" : Str)) = false := by decide) : PE X (.Name x p) (tC (.ty n)) := pe_bltn hg hm hv rfl hn hd
/-- e.f, C's field -/
def tAt (C : Addr) (f : Str) (ta : TE) : TE := fun σ H Q => ta σ H fun x H1 => ∃ a dx fs v, x = .ref a ∧ H1 a = some (.ins C dx fs) ∧ fs.lookup f = some v ∧ Q v H1
theorem pe_at {C : Addr} {e : Expr} {f : Str} {ta : TE} {pos : Pos} (c : Cls X.K C) (n : NoAttr X.K C f) (he : PE X e ta) (hb : attributeBase e f X.env (eval e X.env) = eval e X.env := by rfl) : PE X (.Attribute e f pos) (tAt C f ta) := by
  refine ⟨fun pins s σ H Q I h => ?_⟩
  refine attr_of hb (thn (he.run pins s σ H _ I h) fun u s1 ⟨x, H1, I1, rx, a, dx, fs, v, ex, ea, l, q⟩ => ?_)
  subst ex
  obtain rfl : u = Value.ref a := rx
  exact getattr_ok I1 ea c n l fun u' s2 I2 ru => ⟨v, H1, I2, ru, q⟩
/-- o.f = value, C's field -/
def sAt (C : Addr) (f : Str) (ta tv : TE) : TS := fun D σ H => tv σ H fun y H1 => ta σ H1 fun x H2 => ∃ a dx fs, x = .ref a ∧ H2 a = some (.ins C dx fs) ∧ fs.length < 1000 ∧ D.nx σ (upd H2 a (.ins C dx (putF f y fs)))
theorem ps_at {C : Addr} {o value : Expr} {f : Str} {ta tv : TE} {pos pos' : Pos} (c : Cls X.K C) (n : NoAttr X.K C f) (ha : PE X o ta) (hv : PE X value tv) (hs : swapsWith value (some (.Attribute o f pos')) pos.line X.env = pure false := by rfl) :
    PS X (.Assign [.Attribute o f pos'] value pos) (sAt C f ta tv) := by
  refine ⟨fun pins s σ H D I h => ?_⟩
  refine plainObj_wpAny_Assign_Attribute (thn (hv.run pins s σ H _ I h) fun u s1 ⟨y, H1, I1, ry, q⟩ => thn (ha.run pins s1 σ H1 _ I1 q) fun ov s2 ⟨x, H2, I2, rx, a, dx, fs, ex, ea, l, q2⟩ => ?_) hs
  subst ex
  obtain rfl : ov = Value.ref a := rx
  exact setattr_ok I2 ea c n l ry fun s3 I3 => ⟨σ, _, I3, q2⟩
/-- isinstance(e, T), T a built-in class -/
theorem pe_isT {x : Str} {n : String} {e : Expr} {te : TE} {p p1 pos : Pos} (T : Txt X.K X.mg Z) (hm : X.mg x = none) (hv : bootBuiltins x = some (.type n)) (he : PE X e te) (hg : Gl X x := by rfl) (hi : Gl X "isinstance" := by rfl) (hn : x ≠ "__name__" := by decide) (hdd : (x == ("__debug__" : Str)) = false := by decide) 
    (h1 : starEach [e, .Name x p1] X.env = (false, eval e X.env) :: starEach [.Name x p1] X.env := by rfl) (h2 : (backTo pos (starEach [.Name x p1] X.env)).any (·.1) = false := by rfl) :
    PE X (.Call (.Name "isinstance" p) [e, .Name x p1] [] pos) (tCB (rIsi X.K) (tCons te (tCons (tC (.ty n)) tNil))) :=
  pe_b call_isi T.isi boot_isinstance (pa_cons he (pa_cons (pe_ty hm hv hg hn hdd) pa_nil (by rfl)) h1) hi (by decide) (by decide) h1 h2
theorem isq {n ty : String} {x : V} {b : Bool} {H : Hp} {Q : VK} (h : TyX K H x (.type ty)) (k : kitB ty n = some b) (q : Q (.bl b) H) : rIsi K [x, .ty n] H Q := ⟨x, .ty n, _, _, b, rfl, .ty n, h, kit_ty k, q⟩
abbrev rIsC (C : Addr) : List V → Hp → VK → Prop := fun xs H Q => ∃ a dx fs, xs = [.ref a, .ref C] ∧ H a = some (.ins C dx fs) ∧ Q (.bl true) H
/-- isinstance(e, C), C an own class, e one of its instances -/
theorem pe_isC {x : Str} {C : Addr} {e : Expr} {te : TE} {p p1 pos : Pos} (T : Txt X.K X.mg Z) (hm : X.mg x = some (.ref C)) (c : C8.InsC X.K C) (he : PE X e te) (hg : Gl X x := by rfl) (hi : Gl X "isinstance" := by rfl) (hdb : (x == ("__debug__" : Str)) = false := by decide)
    (h1 : starEach [e, .Name x p1] X.env = (false, eval e X.env) :: starEach [.Name x p1] X.env := by rfl) (h2 : (backTo pos (starEach [.Name x p1] X.env)).any (·.1) = false := by rfl) :
    PE X (.Call (.Name "isinstance" p) [e, .Name x p1] [] pos) (tCB (rIsC C) (tCons te (tCons (tC (.ref C)) tNil))) :=
  pe_b (C8.call_isC c) T.isi boot_isinstance (pa_cons he (pa_cons (pe_glob hg hm rfl hdb) pa_nil (by rfl)) h1) hi (by decide) (by decide) h1 h2
/-- a tuple, tracked or written, has type tuple -/
theorem ty_tup {H : Hp} {a : Addr} {xs : List V} (h : SqT K H a xs) : TyX K H (.ref a) (.type "tuple") := by
  rcases h with (h | ⟨o, h⟩) | h
  · exact .base (.tup h)
  · exact .fTuple h
  · obtain ⟨o, _, _, e, c, _⟩ := h
    exact .kTuple e c
end
end K85
/-! K85V: the module values. -/
namespace K85
open PySem PySem.Spec PyProof.Rows L2
section
variable {P : Program} {w : World} {K : PySem.W.Frag} {mg : Str → Option Value} {base : Heap} {Z : Cs} {f : Addr} {fd : FuncData}
/-- a module's def without defaults keeps sp as soon as its body does -/
theorem gdef {CX : CXT} {k : Nat} {x : Str} {st : Stmt} {ps : List Str} {sp : Sp} (G : GTxt K mg x st [] [])
    (hb : ∀ (kV doc pm : Value) (an : Option Addr) (cdv ct : Value) (us : List Value), us.length = ps.length → bindArgs (PySem.W.fnOf x x (defArgs st) (defBody st) (defScope st) .none kV doc pm an cdv ct) ⟨us, []⟩ = pure (ps.zip us))
    (ok : ∀ f fd, TF K x x st [] [] f fd → FnOk P w K mg base CX k f fd ps sp) : GDef P w K mg base CX k x ps [] sp := by
  obtain ⟨f, fd, F, hm⟩ := G
  exact ⟨f, fd, [], ok f fd F, F.bindsN hb, .nil, hm, F.kp⟩
theorem mdef {CX : CXT} {k : Nat} {C : Addr} {c m q : Str} {st : Stmt} {ps : List Str} {sp : Sp} (G : MTxt K C c m q st [] [])
    (hb : ∀ (kV doc pm : Value) (an : Option Addr) (cdv ct : Value) (us : List Value), us.length = ps.length → bindArgs (PySem.W.fnOf m q (defArgs st) (defBody st) (defScope st) .none kV doc pm an cdv ct) ⟨us, []⟩ = pure (ps.zip us))
    (ok : ∀ f fd, TF K m q st [] [] f fd → FnOk P w K mg base CX k f fd ps sp) : MDef P w K mg base CX k C m ps [] sp := by
  obtain ⟨f, fd, F, hm⟩ := G
  exact ⟨f, fd, [], ok f fd F, F.bindsN hb, .nil, hm⟩
/-! is_integer -/
theorem sc33 : FnScope ["value"] ["value"] (defScope (top 33)) := ⟨rfl, rfl, rfl, by decide +kernel, rfl, by decide +kernel, by decide +kernel⟩
def spInt : Sp := fun vs H Q _ => ∃ i : Int, vs = [.int i] ∧ Q (.bl true) H
theorem ok33 (T : Txt K mg Z) (F : TF K "is_integer" "is_integer" (top 33) [] [] f fd) : FnOk P w K mg base CX0 1 f fd ["value"] spInt := by
  refine F.ok sc33 (fun vs H Q E h => ?_) (fun cdv A outer s H vs Q E hr h => ?_)
  · obtain ⟨i, rfl, _⟩ := h
    rfl
  · obtain ⟨i, rfl, q⟩ := h
    refine ⟨_, pss_one (ps_ret (pe_and (pe_isT T T.int boot_int (pv 0)) (pe_one (pe_not (pe_isT T T.bol boot_bool (pv 0)))))), ?_⟩
    exact ⟨_, rfl, _, _, _, _, true, rfl, .ty _, .base (.int i), kit_ty (by decide +kernel), true, rfl, iteT ⟨_, rfl, _, _, _, _, false, rfl, .ty _, .base (.int i), kit_ty (by decide +kernel), false, rfl, q⟩⟩
theorem g33 (T : Txt K mg Z) (G : GTxt K mg "is_integer" (top 33) [] []) : GDef P w K mg base CX0 1 "is_integer" ["value"] [] spInt :=
  gdef G (fun _ _ _ _ _ _ us hl => match us, hl with | [_], _ => rfl) fun f fd F => ok33 T F
/-! is_within -/
theorem sc34 : FnScope ["value", "least", "most"] ["value", "least", "most"] (defScope (top 34)) := ⟨rfl, rfl, rfl, by decide +kernel, rfl, by decide +kernel, by decide +kernel⟩
def spWithin : Sp := fun vs H Q _ => ∃ i a b : Int, vs = [.int i, .int a, .int b] ∧ Q (.bl (decide (a ≤ i) && decide (i ≤ b))) H
theorem ok34 (T : Txt K mg Z) (G33 : GDef P w K mg base CX0 1 "is_integer" ["value"] [] spInt) (F : TF K "is_within" "is_within" (top 34) [] [] f fd) : FnOk P w K mg base CX0 2 f fd ["value", "least", "most"] spWithin := by
  refine F.ok sc34 (fun vs H Q E h => ?_) (fun cdv A outer s H vs Q E hr h => ?_)
  · obtain ⟨i, a, b, rfl, _⟩ := h
    rfl
  · obtain ⟨i, a, b, rfl, q⟩ := h
    refine ⟨_, pss_one (ps_ret (pe_and (pe_g G33 hr pass0 (pa_cons (pv 0) pa_nil)) (pe_one (pe_chain op_le op_le (pv 1) (pv 0) (pv 2))))), ?_⟩
    refine ⟨_, rfl, i, rfl, true, rfl, iteT ⟨_, rfl, _, rfl, _, _, rfl, rfl, _, rfl, ?_⟩⟩
    by_cases h : a ≤ i
    · refine iteD h ⟨_, rfl, _, _, rfl, rfl, ?_⟩
      rw [decide_eq_true h] at q
      exact q
    · refine iteDN h ?_
      rw [decide_eq_false h] at q
      exact q
theorem g34 (T : Txt K mg Z) (G33 : GDef P w K mg base CX0 1 "is_integer" ["value"] [] spInt) (G : GTxt K mg "is_within" (top 34) [] []) : GDef P w K mg base CX0 2 "is_within" ["value", "least", "most"] [] spWithin :=
  gdef G (fun _ _ _ _ _ _ us hl => match us, hl with | [_, _, _], _ => rfl) fun f fd F => ok34 T G33 F
/-! is_name -/
/-- a name that is_name takes -/
def NameOk (s : Str) : Prop := ∃ c r, s.cps.toList = c :: r ∧ r.length ≤ 7 ∧ c ∈ lits.cps.toList ∧ ∀ d ∈ c :: r, d ∈ signs.cps.toList
theorem sc35 : FnScope ["value", "sign"] ["value"] (defScope (top 35)) := ⟨rfl, rfl, rfl, by decide +kernel, rfl, by decide +kernel, by decide +kernel⟩
def spName : Sp := fun vs H Q _ => ∃ z : Str, vs = [.str z] ∧ NameOk z ∧ ∀ H', Same H H' → Q (.bl true) H'
theorem ok35 (T : Txt K mg Z) (F : TF K "is_name" "is_name" (top 35) [] [] f fd) : FnOk P w K mg base CX0 1 f fd ["value"] spName := by
  refine F.ok sc35 (fun vs H Q E h => ?_) (fun cdv A outer s H vs Q E hr h => ?_)
  · obtain ⟨i, rfl, _⟩ := h
    rfl
  · obtain ⟨z, rfl, ⟨c, r, hz, hl, hc, hs⟩, q⟩ := h
    refine ⟨_, pss_cons (ps_if (PW.pt (pw_or (pt_not (pt_val (pe_isT T T.str boot_str (pv 0)))) (pw_or1 (pt_not (pt_chain op_le op_le pe_int (pe_b call_len T.len PySem.boot_len (pa_cons (pv 0) pa_nil)) (C8.pe_gc (by rfl) T.LONGEST)))))) pss_never pss_nil)
      (pss_one (ps_ret (pe_and (pe_cmpR op_in_sign (pe_ix ix_str (pv 0) pe_int (fun _ _ => rfl)) (C8.pe_gc (by rfl) T.LETTERS) rfl)
        (pe_one (pe_b (cr_all rfl) T.all (by decide +kernel) (pa_cons (pe_lc (own := [("sign", 1)]) (g := gName 1) (tt := tYes) (by rfl) sc35.nd (pi_str (pv 0)) (blkOk_by (N := ["value", "sign"]) (sc := defScope (top 35)) (by decide +kernel))
          (fun _ _ _ _ _ => pg_name (i := 1) sc35.nd rfl (Or.inl rfl)) (fun _ _ _ _ _ => pts_nil) (fun _ _ _ _ _ => pe_cmpR op_in_sign (pv 1) (C8.pe_gc (by rfl) T.SIGNS) rfl)) pa_nil)))))), ?_⟩
    have zl : z.length = r.length + 1 := by
      show z.cps.size = _
      rw [← Array.length_toList, hz]
      rfl
    have zs : z.cps.size = r.length + 1 := zl
    have z8 : z.length ≤ 8 := by omega
    have z1 : 1 ≤ z.length := by omega
    refine ⟨_, rfl, _, _, _, _, true, rfl, .ty _, .base (.str z), kit_ty (by decide +kernel), true, rfl, ?_⟩
    refine iteF ⟨_, rfl, _, z.length, rfl, ⟨line1000 (by omega), rfl⟩, _, _, rfl, rfl, _, rfl, iteD (by omega) ⟨_, _, rfl, rfl, _, rfl, iteNS (by omega) ?_⟩⟩
    refine ⟨_, rfl, z, 0, c, rfl, rfl, line1000 (by omega), (by rw [hz]; exact atI_nat (j := 0) rfl), c, _, rfl, rfl, _, rfl, iteD hc ?_⟩
    refine ⟨_, rfl, z, rfl, fun D hD => lc_it walk_str (fun i H' => Same H H' ∧ H' D = some (.lst ((List.replicate i true).map V.bl))) ⟨.new hD, upd_same⟩ (fun _ _ _ _ => trivial) ?_ ?_⟩
    · rintro i x H1 H2 hi ⟨S, e⟩ ⟨rfl, d, hd, rfl⟩
      refine ⟨rfl, _, rfl, d, _, rfl, rfl, _, e, small1000 (by simp; omega), fun b o h => ?_, ?_⟩
      · rw [upd_ne (ne_of_none h hD)]
        exact S b o h
      · have hd' : d ∈ z.cps.toList := by
          rw [← Array.getElem?_toList] at hd
          exact List.mem_of_getElem? hd
        rw [hz] at hd'
        rw [upd_same, decide_eq_true (hs d hd'), List.replicate_succ', List.map_append]
        rfl
    · rintro H1 ⟨S, e⟩
      refine ⟨D, _, rfl, .inl (.inl e), ?_⟩
      rw [show ∀ n, (List.replicate n true).all id = true from fun n => by simp]
      exact q H1 S
theorem g35 (T : Txt K mg Z) (G : GTxt K mg "is_name" (top 35) [] []) : GDef P w K mg base CX0 1 "is_name" ["value"] [] spName :=
  gdef G (fun _ _ _ _ _ _ us hl => match us, hl with | [_], _ => rfl) fun f fd F => ok35 T F
/-! is_row -/
theorem sc36 : FnScope ["value", "length"] ["value", "length"] (defScope (top 36)) := ⟨rfl, rfl, rfl, by decide +kernel, rfl, by decide +kernel, by decide +kernel⟩
def spRow (K : PySem.W.Frag) : Sp := fun vs H Q _ => ∃ (t : Addr) (xs : List V) (n : Nat), vs = [.ref t, .int n] ∧ SqT K H t xs ∧ xs.length = n ∧ Q (.bl true) H
theorem ok36 (T : Txt K mg Z) (F : TF K "is_row" "is_row" (top 36) [] [] f fd) : FnOk P w K mg base CX0 1 f fd ["value", "length"] (spRow K) := by
  refine F.ok sc36 (fun vs H Q E h => ?_) (fun cdv A outer s H vs Q E hr h => ?_)
  · obtain ⟨t, xs, n, rfl, _⟩ := h
    rfl
  · obtain ⟨t, xs, n, rfl, ht, hn, q⟩ := h
    refine ⟨_, pss_one (ps_ret (pe_and (pe_isT T T.tup boot_tuple (pv 0)) (pe_one (pe_cmpR op_eq (pe_b call_len T.len PySem.boot_len (pa_cons (pv 0) pa_nil)) (pv 1) (nomark _))))), ?_⟩
    refine ⟨_, rfl, _, _, _, _, true, rfl, .ty _, ty_tup ht, kit_ty (by decide +kernel), true, rfl, iteT ⟨_, rfl, _, xs.length, rfl, .inr ⟨_, ht, rfl⟩, _, rfl, rfl, ?_⟩⟩
    subst hn
    rw [decide_eq_true rfl]
    exact q
theorem g36 (T : Txt K mg Z) (G : GTxt K mg "is_row" (top 36) [] []) : GDef P w K mg base CX0 1 "is_row" ["value", "length"] [] (spRow K) :=
  gdef G (fun _ _ _ _ _ _ us hl => match us, hl with | [_, _], _ => rfl) fun f fd F => ok36 T F
end
end K85
/-! K85V2: check_names. -/
namespace K85
open PySem PySem.Spec PyProof.Rows L2
section
variable {P : Program} {w : World} {K : PySem.W.Frag} {mg : Str → Option Value} {base : Heap} {Z : Cs} {f : Addr} {fd : FuncData}
abbrev N37 : List Str := ["names", "most", "allowed", "barred", "index", "name"]
theorem sc37 : FnScope N37 ["names", "most", "allowed", "barred"] (defScope (top 37)) := ⟨rfl, rfl, rfl, by decide +kernel, rfl, by decide +kernel, by decide +kernel⟩
/-- names that check_names lets pass -/
def spNames (K : PySem.W.Frag) : Sp := fun vs H Q _ => ∃ (t b : Addr) (mo al : V) (ns bs : List Str), vs = [.ref t, mo, al, .ref b] ∧ SqT K H t (ns.map V.str) ∧ SqT K H b (bs.map V.str) ∧ (∀ n ∈ ns, NameOk n) ∧ ns.Nodup ∧ (∀ n ∈ ns, n ∉ bs) ∧
  (mo = .non ∨ ∃ m : Nat, mo = .int m ∧ ns.length ≤ m) ∧ (al = .non ∨ ∃ (a : Addr) (as : List Str), al = .ref a ∧ SqT K H a (as.map V.str) ∧ ∀ n ∈ ns, n ∈ as) ∧ ∀ H', Same H H' → Q .non H'
theorem ok37 (T : Txt K mg Z) {dvs : List V} (G35 : GDef P w K mg base CX0 1 "is_name" ["value"] [] spName) (F : TF K "check_names" "check_names" (top 37) dvs [] f fd) : FnOk P w K mg base CX0 2 f fd ["names", "most", "allowed", "barred"] (spNames K) := by
  refine F.ok sc37 (fun vs H Q E h => ?_) (fun cdv A outer s H vs Q E hr h => ?_)
  · obtain ⟨_, _, _, _, _, _, rfl, _⟩ := h
    rfl
  · obtain ⟨t, b, mo, al, ns, bs, rfl, ht, hb, hok, hnd, hbs, hmo, hal, q⟩ := h
    refine ⟨_, PSs.nox <| pss_cons (ps_if (pt_not (pt_val (pe_isT T T.tup boot_tuple (pv 0)))) pss_never pss_nil)
      (pss_one (ps_for PassesOwn.never rfl (pi_enumT T.enu (pa_cons (pv 0) pa_nil)) (pg_tup rfl (pgs_cons (pg_name (i := 4) sc37.nd rfl (Or.inl rfl)) (pgs_cons (pg_name (i := 5) sc37.nd rfl (Or.inl rfl)) pgs_nil)))
        (C8.pss_cut (ps_if (PW.pt (pw_and (pt_cmpR op_notN (pv 1) pe_non (nomark _)) (pw_and1 (pt_cmpR op_eq (pv 4) (pv 1) (nomark _))))) pss_never pss_nil)
        (C8.pss_cut (ps_if (PW.pt (pw_or (pt_not (pt_val (pe_g G35 hr pass0 (pa_cons (pv 5) pa_nil)))) (pw_or (pt_cmpR op_in_seq (pv 5) (pe_slice sl_tup (pv 0) po_none (po_some (pv 4))) rfl) (pw_or1 (pt_cmpR op_in_seq (pv 5) (pv 3) rfl))))) pss_never pss_nil)
        (pss_one (ps_if (PW.pt (pw_and (pt_cmpR op_notN (pv 2) pe_non (nomark _)) (pw_and1 (pt_cmpR op_notIn_seq (pv 5) (pv 2) rfl)))) pss_never pss_nil)))))), ?_⟩
    refine ⟨_, rfl, _, _, _, _, true, rfl, .ty _, ty_tup ht, kit_ty (by decide +kernel), true, rfl, iteF ?_⟩
    refine ⟨_, rfl, t, _, rfl, ht, for_it walk_enumT (fun i σ H' => (∃ x y, σ = [some (.ref t), some mo, some al, some (.ref b), x, y]) ∧ Same H H') ⟨⟨_, _, rfl⟩, .refl H⟩ (fun i σ H' _ h => h.2.tup ht) ?_ ?_⟩
    · rintro i x σ H1 H2 hi ⟨⟨x0, y0, rfl⟩, S⟩ ⟨T0, a1, a2, rfl, hT, rfl, e1, e2⟩
      cases e1
      rw [List.length_map] at hi
      obtain ⟨n, hn⟩ : ∃ n, ns[i]? = some n := ⟨_, List.getElem?_eq_getElem hi⟩
      have e2 : (ns.map V.str)[i]? = some a2 := e2
      rw [List.getElem?_map, hn] at e2
      cases e2
      have S1 := S.trans (Same.new (o := .tup [.int (i : Nat), .str n]) hT)
      have hmem := List.mem_of_getElem? hn
      refine ⟨T0, _, rfl, .inl (.inl upd_same), rfl, _, _, rfl, _, _, rfl, rfl, ?_⟩
      refine ⟨fun σ' H' => σ' = [some (.ref t), some mo, some al, some (.ref b), some (.int (i : Nat)), some (.str n)] ∧ Same H H', ?_, ?_⟩
      · rcases hmo with rfl | ⟨m, rfl, hm⟩
        · exact ⟨_, rfl, rfl, _, rfl, iteF (iteF ⟨rfl, S1⟩)⟩
        · refine ⟨_, rfl, rfl, _, rfl, iteT ⟨_, rfl, _, rfl, rfl, _, rfl, ?_⟩⟩
          refine iteDN (fun z => ?_) ⟨rfl, S1⟩
          injection z with z
          omega
      · rintro σ' H' ⟨rfl, S2⟩
        refine ⟨fun σ' H' => σ' = [some (.ref t), some mo, some al, some (.ref b), some (.int (i : Nat)), some (.str n)] ∧ Same H H', ?_, ?_⟩
        · refine ⟨_, rfl, n, rfl, hok n hmem, fun H3 S3 => ⟨true, rfl, iteF ?_⟩⟩
          have S4 := S2.trans S3
          refine ⟨_, rfl, _, rfl, _, rfl, _, rfl, t, _, rfl, S4.tup ht, ?_, fun p hp => ?_⟩
          · rw [HT.sIx_nat, List.length_map]
            omega
          · have e : cutV (ns.map V.str) none (some (i : Int)) = (ns.take i).map V.str := by
              unfold cutV
              rw [HT.sIx_nat, HT.sIx_none, List.length_map, List.map_take]
              simp [Nat.min_eq_left (Nat.le_of_lt hi)]
            rw [e]
            refine ⟨p, _, rfl, .inr (.inl (.inl upd_same)), rfl, flat_strs _, _, rfl, ?_⟩
            have hni : n ∉ ns.take i := fun z => by
              obtain ⟨j, ej⟩ := List.mem_iff_getElem?.mp z
              have hj := (List.getElem?_eq_some_iff.mp ej).1
              rw [List.length_take] at hj
              rw [List.getElem?_take, if_pos (by omega)] at ej
              have := nd_ix hnd ej hn
              omega
            refine iteBN (by show inV _ _ = false; rw [inV_str, decide_eq_false hni]) ?_
            refine ⟨_, rfl, _, rfl, b, _, rfl, .inr (Same.tup (S4.trans (Same.new hp)) hb), rfl, flat_strs _, _, rfl, ?_⟩
            refine iteBN (by show inV _ _ = false; rw [inV_str, decide_eq_false (hbs n hmem)]) ?_
            exact ⟨rfl, S4.trans (Same.new hp)⟩
        · rintro σ' H' ⟨rfl, S3⟩
          rcases hal with rfl | ⟨a, as, rfl, ha, hm⟩
          · exact ⟨_, rfl, rfl, _, rfl, iteF (iteF ⟨⟨_, _, rfl⟩, S3⟩)⟩
          · refine ⟨_, rfl, rfl, _, rfl, iteT ⟨_, rfl, _, rfl, a, _, rfl, .inr (S3.tup ha), rfl, flat_strs _, _, rfl, ?_⟩⟩
            refine iteBN (by show (!inV _ _) = false; rw [inV_str, decide_eq_true (hm n hmem)]; rfl) ?_
            exact ⟨⟨_, _, rfl⟩, S3⟩
    · rintro σ' H' ⟨_, S⟩
      exact q H' S
theorem g37 (T : Txt K mg Z) (G35 : GDef P w K mg base CX0 1 "is_name" ["value"] [] spName) (G : GTxt K mg "check_names" (top 37) [.non, .ref Z.E] []) :
    GDef P w K mg base CX0 2 "check_names" ["names", "most", "allowed", "barred"] [.non, .ref Z.E] (spNames K) ∧ GDef P w K mg base CX0 2 "check_names" ["names", "most", "allowed", "barred"] [.ref Z.E] (spNames K) ∧
    GDef P w K mg base CX0 2 "check_names" ["names", "most", "allowed", "barred"] [] (spNames K) := by
  obtain ⟨f, fd, F, hm⟩ := G
  have ok : FnOk P w K mg base CX0 2 f fd ["names", "most", "allowed", "barred"] (spNames K) := ok37 T G35 F
  obtain ⟨d1, v1, b1⟩ := F.binds1 (ps := ["names", "most", "allowed", "barred"]) 2 0 (by simp) (by rfl) fun TT _ _ _ _ _ _ us its l1 l2 => match us, its, l1, l2 with | [_, _], [_, _], _, _ => ⟨_, rfl, rfl⟩
  obtain ⟨d2, v2, b2⟩ := F.binds1 (ps := ["names", "most", "allowed", "barred"]) 3 1 (by simp) (by rfl) fun TT _ _ _ _ _ _ us its l1 l2 => match us, its, l1, l2 with | [_, _, _], [_, _], _, _ => ⟨_, rfl, rfl⟩
  obtain ⟨d3, v3, b3⟩ := F.binds1 (ps := ["names", "most", "allowed", "barred"]) 4 2 (by simp) (by rfl) fun TT _ _ _ _ _ _ us its l1 l2 => match us, its, l1, l2 with | [_, _, _, _], [_, _], _, _ => ⟨_, rfl, rfl⟩
  exact ⟨⟨f, fd, d1, ok, b1, v1, hm, F.kp⟩, ⟨f, fd, d2, ok, b2, v2, hm, F.kp⟩, ⟨f, fd, d3, ok, b3, v3, hm, F.kp⟩⟩
end
end K85
/-! K85O: the objects' fields. -/
namespace K85
open PySem PySem.Spec PyProof.Rows L2
def ffs (v0 v1 v2 v3 v4 v5 : V) : List (Str × V) := [("name", v0), ("sign", v1), ("left", v2), ("right", v3), ("signs", v4), ("text", v5)]
theorem ffs_name (v0 v1 v2 v3 v4 v5 : V) : (ffs v0 v1 v2 v3 v4 v5).lookup ("name" : Str) = some v0 := by kernel_rfl
theorem ffs_sign (v0 v1 v2 v3 v4 v5 : V) : (ffs v0 v1 v2 v3 v4 v5).lookup ("sign" : Str) = some v1 := by kernel_rfl
theorem ffs_left (v0 v1 v2 v3 v4 v5 : V) : (ffs v0 v1 v2 v3 v4 v5).lookup ("left" : Str) = some v2 := by kernel_rfl
theorem ffs_right (v0 v1 v2 v3 v4 v5 : V) : (ffs v0 v1 v2 v3 v4 v5).lookup ("right" : Str) = some v3 := by kernel_rfl
theorem ffs_signs (v0 v1 v2 v3 v4 v5 : V) : (ffs v0 v1 v2 v3 v4 v5).lookup ("signs" : Str) = some v4 := by kernel_rfl
theorem ffs_text (v0 v1 v2 v3 v4 v5 : V) : (ffs v0 v1 v2 v3 v4 v5).lookup ("text" : Str) = some v5 := by kernel_rfl
theorem ffs_put (v0 v1 v2 v3 v4 v5 : V) : (putF "text" v5 (putF "signs" v4 (putF "right" v3 (putF "left" v2 (putF "sign" v1 (putF "name" v0 [])))))) = ffs v0 v1 v2 v3 v4 v5 := by kernel_rfl
theorem ffs_no_mul (v0 v1 v2 v3 v4 v5 : V) : (ffs v0 v1 v2 v3 v4 v5).lookup ("__mul__" : Str) = none := by kernel_rfl
theorem ffs_no_parts (v0 v1 v2 v3 v4 v5 : V) : (ffs v0 v1 v2 v3 v4 v5).lookup ("parts" : Str) = none := by kernel_rfl
theorem ffs_p1 (v0 : V) : (putF "name" v0 []) = ([("name", v0)] : List (Str × V)) := by kernel_rfl
theorem ffs_p2 (v0 v1 : V) : (putF "sign" v1 (putF "name" v0 [])) = ([("name", v0), ("sign", v1)] : List (Str × V)) := by kernel_rfl
theorem ffs_p3 (v0 v1 v2 : V) : (putF "left" v2 (putF "sign" v1 (putF "name" v0 []))) = ([("name", v0), ("sign", v1), ("left", v2)] : List (Str × V)) := by kernel_rfl
theorem ffs_p4 (v0 v1 v2 v3 : V) : (putF "right" v3 (putF "left" v2 (putF "sign" v1 (putF "name" v0 [])))) = ([("name", v0), ("sign", v1), ("left", v2), ("right", v3)] : List (Str × V)) := by kernel_rfl
theorem ffs_p5 (v0 v1 v2 v3 v4 : V) : (putF "signs" v4 (putF "right" v3 (putF "left" v2 (putF "sign" v1 (putF "name" v0 []))))) = ([("name", v0), ("sign", v1), ("left", v2), ("right", v3), ("signs", v4)] : List (Str × V)) := by kernel_rfl
def kfs (v0 v1 : V) : List (Str × V) := [("turns", v0), ("calm", v1)]
theorem kfs_turns (v0 v1 : V) : (kfs v0 v1).lookup ("turns" : Str) = some v0 := by kernel_rfl
theorem kfs_calm (v0 v1 : V) : (kfs v0 v1).lookup ("calm" : Str) = some v1 := by kernel_rfl
theorem kfs_put (v0 v1 : V) : (putF "calm" v1 (putF "turns" v0 [])) = kfs v0 v1 := by kernel_rfl
theorem kfs_no_images (v0 v1 : V) : (kfs v0 v1).lookup ("images" : Str) = none := by kernel_rfl
theorem kfs_no_lot (v0 v1 : V) : (kfs v0 v1).lookup ("lot" : Str) = none := by kernel_rfl
theorem kfs_p1 (v0 : V) : (putF "turns" v0 []) = ([("turns", v0)] : List (Str × V)) := by kernel_rfl
def cfs (v0 v1 v2 v3 v4 v5 v6 v7 v8 : V) : List (Str × V) := [("kind", v0), ("ins", v1), ("inner", v2), ("outs", v3), ("triples", v4), ("stored", v5), ("wanted", v6), ("begin", v7), ("end", v8)]
theorem cfs_kind (v0 v1 v2 v3 v4 v5 v6 v7 v8 : V) : (cfs v0 v1 v2 v3 v4 v5 v6 v7 v8).lookup ("kind" : Str) = some v0 := by kernel_rfl
theorem cfs_ins (v0 v1 v2 v3 v4 v5 v6 v7 v8 : V) : (cfs v0 v1 v2 v3 v4 v5 v6 v7 v8).lookup ("ins" : Str) = some v1 := by kernel_rfl
theorem cfs_inner (v0 v1 v2 v3 v4 v5 v6 v7 v8 : V) : (cfs v0 v1 v2 v3 v4 v5 v6 v7 v8).lookup ("inner" : Str) = some v2 := by kernel_rfl
theorem cfs_outs (v0 v1 v2 v3 v4 v5 v6 v7 v8 : V) : (cfs v0 v1 v2 v3 v4 v5 v6 v7 v8).lookup ("outs" : Str) = some v3 := by kernel_rfl
theorem cfs_triples (v0 v1 v2 v3 v4 v5 v6 v7 v8 : V) : (cfs v0 v1 v2 v3 v4 v5 v6 v7 v8).lookup ("triples" : Str) = some v4 := by kernel_rfl
theorem cfs_stored (v0 v1 v2 v3 v4 v5 v6 v7 v8 : V) : (cfs v0 v1 v2 v3 v4 v5 v6 v7 v8).lookup ("stored" : Str) = some v5 := by kernel_rfl
theorem cfs_wanted (v0 v1 v2 v3 v4 v5 v6 v7 v8 : V) : (cfs v0 v1 v2 v3 v4 v5 v6 v7 v8).lookup ("wanted" : Str) = some v6 := by kernel_rfl
theorem cfs_begin (v0 v1 v2 v3 v4 v5 v6 v7 v8 : V) : (cfs v0 v1 v2 v3 v4 v5 v6 v7 v8).lookup ("begin" : Str) = some v7 := by kernel_rfl
theorem cfs_end (v0 v1 v2 v3 v4 v5 v6 v7 v8 : V) : (cfs v0 v1 v2 v3 v4 v5 v6 v7 v8).lookup ("end" : Str) = some v8 := by kernel_rfl
theorem cfs_put (v0 v1 v2 v3 v4 v5 v6 v7 v8 : V) : (putF "end" v8 (putF "begin" v7 (putF "wanted" v6 (putF "stored" v5 (putF "triples" v4 (putF "outs" v3 (putF "inner" v2 (putF "ins" v1 (putF "kind" v0 []))))))))) = cfs v0 v1 v2 v3 v4 v5 v6 v7 v8 := by kernel_rfl
theorem cfs_p1 (v0 : V) : (putF "kind" v0 []) = ([("kind", v0)] : List (Str × V)) := by kernel_rfl
theorem cfs_p2 (v0 v1 : V) : (putF "ins" v1 (putF "kind" v0 [])) = ([("kind", v0), ("ins", v1)] : List (Str × V)) := by kernel_rfl
theorem cfs_p3 (v0 v1 v2 : V) : (putF "inner" v2 (putF "ins" v1 (putF "kind" v0 []))) = ([("kind", v0), ("ins", v1), ("inner", v2)] : List (Str × V)) := by kernel_rfl
theorem cfs_p4 (v0 v1 v2 v3 : V) : (putF "outs" v3 (putF "inner" v2 (putF "ins" v1 (putF "kind" v0 [])))) = ([("kind", v0), ("ins", v1), ("inner", v2), ("outs", v3)] : List (Str × V)) := by kernel_rfl
theorem cfs_p5 (v0 v1 v2 v3 v4 : V) : (putF "triples" v4 (putF "outs" v3 (putF "inner" v2 (putF "ins" v1 (putF "kind" v0 []))))) = ([("kind", v0), ("ins", v1), ("inner", v2), ("outs", v3), ("triples", v4)] : List (Str × V)) := by kernel_rfl
theorem cfs_p6 (v0 v1 v2 v3 v4 v5 : V) : (putF "stored" v5 (putF "triples" v4 (putF "outs" v3 (putF "inner" v2 (putF "ins" v1 (putF "kind" v0 [])))))) = ([("kind", v0), ("ins", v1), ("inner", v2), ("outs", v3), ("triples", v4), ("stored", v5)] : List (Str × V)) := by kernel_rfl
theorem cfs_p7 (v0 v1 v2 v3 v4 v5 v6 : V) : (putF "wanted" v6 (putF "stored" v5 (putF "triples" v4 (putF "outs" v3 (putF "inner" v2 (putF "ins" v1 (putF "kind" v0 []))))))) = ([("kind", v0), ("ins", v1), ("inner", v2), ("outs", v3), ("triples", v4), ("stored", v5), ("wanted", v6)] : List (Str × V)) := by kernel_rfl
theorem cfs_p8 (v0 v1 v2 v3 v4 v5 v6 v7 : V) : (putF "begin" v7 (putF "wanted" v6 (putF "stored" v5 (putF "triples" v4 (putF "outs" v3 (putF "inner" v2 (putF "ins" v1 (putF "kind" v0 [])))))))) = ([("kind", v0), ("ins", v1), ("inner", v2), ("outs", v3), ("triples", v4), ("stored", v5), ("wanted", v6), ("begin", v7)] : List (Str × V)) := by kernel_rfl
def lfs (v0 v1 v2 v3 v4 : V) : List (Str × V) := [("kind", v0), ("size", v1), ("operations", v2), ("above", v3), ("trail", v4)]
theorem lfs_kind (v0 v1 v2 v3 v4 : V) : (lfs v0 v1 v2 v3 v4).lookup ("kind" : Str) = some v0 := by kernel_rfl
theorem lfs_size (v0 v1 v2 v3 v4 : V) : (lfs v0 v1 v2 v3 v4).lookup ("size" : Str) = some v1 := by kernel_rfl
theorem lfs_operations (v0 v1 v2 v3 v4 : V) : (lfs v0 v1 v2 v3 v4).lookup ("operations" : Str) = some v2 := by kernel_rfl
theorem lfs_above (v0 v1 v2 v3 v4 : V) : (lfs v0 v1 v2 v3 v4).lookup ("above" : Str) = some v3 := by kernel_rfl
theorem lfs_trail (v0 v1 v2 v3 v4 : V) : (lfs v0 v1 v2 v3 v4).lookup ("trail" : Str) = some v4 := by kernel_rfl
theorem lfs_put (v0 v1 v2 v3 v4 : V) : (putF "trail" v4 (putF "above" v3 (putF "operations" v2 (putF "size" v1 (putF "kind" v0 []))))) = lfs v0 v1 v2 v3 v4 := by kernel_rfl
theorem lfs_no_root (v0 v1 v2 v3 v4 : V) : (lfs v0 v1 v2 v3 v4).lookup ("root" : Str) = none := by kernel_rfl
theorem lfs_no_merge (v0 v1 v2 v3 v4 : V) : (lfs v0 v1 v2 v3 v4).lookup ("merge" : Str) = none := by kernel_rfl
theorem lfs_no_close (v0 v1 v2 v3 v4 : V) : (lfs v0 v1 v2 v3 v4).lookup ("close" : Str) = none := by kernel_rfl
theorem lfs_no_entered (v0 v1 v2 v3 v4 : V) : (lfs v0 v1 v2 v3 v4).lookup ("entered" : Str) = none := by kernel_rfl
theorem lfs_no_got (v0 v1 v2 v3 v4 : V) : (lfs v0 v1 v2 v3 v4).lookup ("got" : Str) = none := by kernel_rfl
theorem lfs_p1 (v0 : V) : (putF "kind" v0 []) = ([("kind", v0)] : List (Str × V)) := by kernel_rfl
theorem lfs_p2 (v0 v1 : V) : (putF "size" v1 (putF "kind" v0 [])) = ([("kind", v0), ("size", v1)] : List (Str × V)) := by kernel_rfl
theorem lfs_p3 (v0 v1 v2 : V) : (putF "operations" v2 (putF "size" v1 (putF "kind" v0 []))) = ([("kind", v0), ("size", v1), ("operations", v2)] : List (Str × V)) := by kernel_rfl
theorem lfs_p4 (v0 v1 v2 v3 : V) : (putF "above" v3 (putF "operations" v2 (putF "size" v1 (putF "kind" v0 [])))) = ([("kind", v0), ("size", v1), ("operations", v2), ("above", v3)] : List (Str × V)) := by kernel_rfl
def tfs (v0 v1 v2 : V) : List (Str × V) := [("numbers", v0), ("letter_names", v1), ("closing", v2)]
theorem tfs_numbers (v0 v1 v2 : V) : (tfs v0 v1 v2).lookup ("numbers" : Str) = some v0 := by kernel_rfl
theorem tfs_letter_names (v0 v1 v2 : V) : (tfs v0 v1 v2).lookup ("letter_names" : Str) = some v1 := by kernel_rfl
theorem tfs_closing (v0 v1 v2 : V) : (tfs v0 v1 v2).lookup ("closing" : Str) = some v2 := by kernel_rfl
theorem tfs_put (v0 v1 v2 : V) : (putF "closing" v2 (putF "letter_names" v1 (putF "numbers" v0 []))) = tfs v0 v1 v2 := by kernel_rfl
theorem tfs_no_number (v0 v1 v2 : V) : (tfs v0 v1 v2).lookup ("number" : Str) = none := by kernel_rfl
theorem tfs_p1 (v0 : V) : (putF "numbers" v0 []) = ([("numbers", v0)] : List (Str × V)) := by kernel_rfl
theorem tfs_p2 (v0 v1 : V) : (putF "letter_names" v1 (putF "numbers" v0 [])) = ([("numbers", v0), ("letter_names", v1)] : List (Str × V)) := by kernel_rfl
def pfs (v0 v1 v2 : V) : List (Str × V) := [("table", v0), ("known", v1), ("steps", v2)]
theorem pfs_table (v0 v1 v2 : V) : (pfs v0 v1 v2).lookup ("table" : Str) = some v0 := by kernel_rfl
theorem pfs_known (v0 v1 v2 : V) : (pfs v0 v1 v2).lookup ("known" : Str) = some v1 := by kernel_rfl
theorem pfs_steps (v0 v1 v2 : V) : (pfs v0 v1 v2).lookup ("steps" : Str) = some v2 := by kernel_rfl
theorem pfs_put (v0 v1 v2 : V) : (putF "steps" v2 (putF "known" v1 (putF "table" v0 []))) = pfs v0 v1 v2 := by kernel_rfl
theorem pfs_no_root (v0 v1 v2 : V) : (pfs v0 v1 v2).lookup ("root" : Str) = none := by kernel_rfl
theorem pfs_no_has (v0 v1 v2 : V) : (pfs v0 v1 v2).lookup ("has" : Str) = none := by kernel_rfl
theorem pfs_p1 (v0 : V) : (putF "table" v0 []) = ([("table", v0)] : List (Str × V)) := by kernel_rfl
theorem pfs_p2 (v0 v1 : V) : (putF "known" v1 (putF "table" v0 [])) = ([("table", v0), ("known", v1)] : List (Str × V)) := by kernel_rfl
theorem tfs_p1_numbers (v : V) : ([("numbers", v)] : List (Str × V)).lookup ("numbers" : Str) = some v := by kernel_rfl
theorem tfs_p2_numbers (v u : V) : ([("numbers", v), ("letter_names", u)] : List (Str × V)).lookup ("numbers" : Str) = some v := by kernel_rfl
theorem pfs_p1_table (v : V) : ([("table", v)] : List (Str × V)).lookup ("table" : Str) = some v := by kernel_rfl
end K85
/-! K85F: formulas: letters and products of two letters. -/
namespace K85
open PySem PySem.Spec PyProof.Rows L2
/-- a formula of this law: a letter, a product of two letters -/
inductive Fm where
  | l (n : Str)
  | m (a b : Str)
def mtext (a b : Str) : Str := Str.empty ++ "(" ++ a ++ " " ++ "*" ++ " " ++ b ++ ")"
def Fm.text : Fm → Str
  | .l n => n
  | .m a b => mtext a b
def Fm.sg : Fm → List V
  | .l _ => []
  | .m _ _ => [.str "*"]
/-- the names in it are short -/
def Fm.short : Fm → Prop
  | .l n => n.length ≤ 8
  | .m a b => a.length ≤ 8 ∧ b.length ≤ 8
def LetAt (C : Addr) (H : Hp) (p : Addr) (n : Str) : Prop := ∃ dx sl, H p = some (.ins C dx (ffs (.str n) (.str "") .non .non (.ref sl) (.str n))) ∧ H sl = some (.lst [])
/-- a letter whose own list was not yet in H0 -/
def LetN (C : Addr) (H0 H : Hp) (p : Addr) (n : Str) : Prop := ∃ dx sl, H p = some (.ins C dx (ffs (.str n) (.str "") .non .non (.ref sl) (.str n))) ∧ H sl = some (.lst []) ∧ H0 sl = none
theorem LetN.let {C : Addr} {H0 H : Hp} {p : Addr} {n : Str} (h : LetN C H0 H p n) : LetAt C H p n := by
  obtain ⟨dx, sl, a, b, _⟩ := h
  exact ⟨dx, sl, a, b⟩
theorem LetN.from {C : Addr} {H0 H1 H : Hp} {p : Addr} {n : Str} (h : LetN C H1 H p n) (S : Same H0 H1) : LetN C H0 H p n := by
  obtain ⟨dx, sl, a, b, c⟩ := h
  exact ⟨dx, sl, a, b, S.free c⟩
def FmAt (C : Addr) (H : Hp) (p : Addr) : Fm → Prop
  | .l n => LetAt C H p n
  | .m a b => ∃ dx sl pl pr, H p = some (.ins C dx (ffs .non (.str "*") (.ref pl) (.ref pr) (.ref sl) (.str (mtext a b)))) ∧ H sl = some (.lst [.str "*"]) ∧ LetAt C H pl a ∧ LetAt C H pr b
/-- an operation of the letters pl, pr -/
def MulAt (C : Addr) (H : Hp) (p pl pr : Addr) (a b : Str) : Prop := ∃ dx sl, H p = some (.ins C dx (ffs .non (.str "*") (.ref pl) (.ref pr) (.ref sl) (.str (mtext a b)))) ∧ H sl = some (.lst [.str "*"])
/-- q is kept: a step that keeps all lists and all full instances keeps formulas -/
structure Kp (H H' : Hp) : Prop where
  lst : ∀ b xs, H b = some (.lst xs) → H' b = some (.lst xs)
  ins : ∀ b C dx x fs, H b = some (.ins C dx (x :: fs)) → H' b = some (.ins C dx (x :: fs))
theorem _root_.L2.Same.kp {H H' : Hp} (S : Same H H') : Kp H H' := ⟨fun b xs => S b _, fun b C dx x fs => S b _⟩
theorem But.kp {H H' : Hp} {p C dx : Addr} (S : But p H H') (h : H p = some (.ins C dx [])) : Kp H H' :=
  ⟨fun b xs e => S b _ e (ne_of e h (by intro z; cases z)), fun b C dx x fs e => S b _ e (ne_of e h (by intro z; cases z))⟩
theorem LetAt.kp {C : Addr} {H H' : Hp} {p : Addr} {n : Str} (h : LetAt C H p n) (S : Kp H H') : LetAt C H' p n := by
  obtain ⟨dx, sl, h1, h2⟩ := h
  exact ⟨dx, sl, S.ins _ _ _ _ _ h1, S.lst _ _ h2⟩
theorem FmAt.kp {C : Addr} {H H' : Hp} {p : Addr} {f : Fm} (h : FmAt C H p f) (S : Kp H H') : FmAt C H' p f := by
  cases f with
  | l n => exact LetAt.kp h S
  | m a b =>
    obtain ⟨dx, sl, pl, pr, h1, h2, h3, h4⟩ := h
    exact ⟨dx, sl, pl, pr, S.ins _ _ _ _ _ h1, S.lst _ _ h2, h3.kp S, h4.kp S⟩
theorem FmAt.look {C : Addr} {H : Hp} {p : Addr} {f : Fm} (h : FmAt C H p f) : ∃ dx n s l r sl, H p = some (.ins C dx (ffs n s l r (.ref sl) (.str f.text))) ∧ H sl = some (.lst f.sg) := by
  cases f with
  | l n =>
    obtain ⟨dx, sl, h1, h2⟩ := h
    exact ⟨dx, _, _, _, _, sl, h1, h2⟩
  | m a b =>
    obtain ⟨dx, sl, pl, pr, h1, h2, h3, h4⟩ := h
    exact ⟨dx, _, _, _, _, sl, h1, h2⟩
section
variable {P : Program} {w : World} {K : PySem.W.Frag} {mg : Str → Option Value} {base : Heap} {Z : Cs} {f : Addr} {fd : FuncData}
/-! Formula.__init__ -/
abbrev PFI : List Str := ["self", "name", "sign", "left", "right"]
theorem sc400 : FnScope PFI PFI (defScope (met 40 0)) := ⟨rfl, rfl, rfl, by decide +kernel, rfl, by decide +kernel, by decide +kernel⟩
def spFI (C : Addr) : Sp := fun vs H Q _ => ∃ p dx : Addr, H p = some (.ins C dx []) ∧
  ((∃ n, vs = [.ref p, .str n, .str "", .non, .non] ∧ ∀ H', But p H H' → LetN C H H' p n → Q .non H') ∨
   ∃ pl pr a b, vs = [.ref p, .non, .str "*", .ref pl, .ref pr] ∧ LetAt C H pl a ∧ LetAt C H pr b ∧ a.length ≤ 8 ∧ b.length ≤ 8 ∧ ∀ H', But p H H' → MulAt C H' p pl pr a b → Q .non H')
theorem ok400 (T : Txt K mg Z) {dvs : List V} (F : TF K "__init__" "Formula.__init__" (met 40 0) dvs [] f fd) : FnOk P w K mg base CX0 1 f fd PFI (spFI Z.F) := by
  refine F.ok sc400 (fun vs H Q E h => ?_) (fun cdv A outer s H vs Q E hr h => ?_)
  · rcases h with ⟨_, _, _, ⟨_, rfl, _⟩ | ⟨_, _, _, _, rfl, _⟩⟩ <;> rfl
  · have c := T.iF.cl
    refine ⟨_, PSs.nox <| pss_cons (ps_at c T.f_name (pv 0) (pv 1)) (pss_cons (ps_at c T.f_sign (pv 0) (pv 2)) (pss_cons (ps_at c T.f_left (pv 0) (pv 3)) (pss_cons (ps_at c T.f_right (pv 0) (pv 4))
      (pss_cons (ps_at c T.f_signs (pv 0) (pe_ifExp (pt_cmpR op_eq (pv 2) pe_str (nomark _)) (pe_lst pa_nil) (pe_op op_cat (pe_op op_cat (pe_lst (pa_cons (pv 2) pa_nil)) (pe_at c T.f_signs (pv 3))) (pe_at c T.f_signs (pv 4)))))
      (pss_one (ps_at c T.f_text (pv 0) (pe_ifExp (pt_cmpR op_eq (pv 2) pe_str (nomark _)) (pv 1) (pe_joined (.cons pe_str (.cons (pe_fmt (pe_at c T.f_text (pv 3))) (.cons pe_str (.cons (pe_fmt (pv 2)) (.cons pe_str (.cons (pe_fmt (pe_at c T.f_text (pv 4))) (.cons pe_str .nil))))))))))))))), ?_⟩
    obtain ⟨p, dx, hp, h⟩ := h
    rcases h with ⟨n, rfl, q⟩ | ⟨pl, pr, a, b, rfl, ha, hb, la, lb, q⟩
    · refine ⟨_, rfl, _, rfl, p, dx, _, rfl, hp, (by decide), ?_⟩
      refine ⟨_, rfl, _, rfl, p, dx, _, rfl, upd_same, (lt1000 (by kernel_rfl)), ?_⟩
      refine ⟨_, rfl, _, rfl, p, dx, _, rfl, upd_same, (lt1000 (by kernel_rfl)), ?_⟩
      refine ⟨_, rfl, _, rfl, p, dx, _, rfl, upd_same, (lt1000 (by kernel_rfl)), ?_⟩
      refine ⟨_, rfl, rfl, _, rfl, iteD rfl ⟨line1000 (by decide), fun sl hsl => ?_⟩⟩
      rw [upd_upd, upd_upd, upd_upd] at hsl ⊢
      have n1 : p ≠ sl := ne_of_none (upd_same (H := H) (a := p)) hsl
      have hsl' : H sl = none := by rwa [upd_ne n1.symm] at hsl
      refine ⟨_, rfl, p, dx, _, rfl, (by rw [upd_ne n1]; exact upd_same), (lt1000 (by kernel_rfl)), ?_⟩
      refine ⟨_, rfl, rfl, _, rfl, iteD rfl ⟨_, rfl, _, rfl, p, dx, _, rfl, upd_same, (lt1000 (by kernel_rfl)), ?_⟩⟩
      rw [upd_upd, ffs_put]
      refine q _ (fun b o hb hne => ?_) ⟨dx, sl, upd_same, by rw [upd_ne n1.symm]; exact upd_same, hsl'⟩
      rw [upd_ne hne, upd_ne (ne_of_none hb hsl'), upd_ne hne]
      exact hb
    · have n0 : ¬ (V.str "*" = V.str "") := by decide +kernel
      have hp4 : ∀ {g : List (Str × V)}, upd H p (.ins Z.F dx g) p = some (.ins Z.F dx g) := upd_same
      refine ⟨_, rfl, _, rfl, p, dx, _, rfl, hp, (by decide), ?_⟩
      refine ⟨_, rfl, _, rfl, p, dx, _, rfl, upd_same, (lt1000 (by kernel_rfl)), ?_⟩
      refine ⟨_, rfl, _, rfl, p, dx, _, rfl, upd_same, (lt1000 (by kernel_rfl)), ?_⟩
      refine ⟨_, rfl, _, rfl, p, dx, _, rfl, upd_same, (lt1000 (by kernel_rfl)), ?_⟩
      rw [upd_upd, upd_upd, upd_upd]
      have B0 : But p H (upd H p (.ins Z.F dx (putF "right" (.ref pr) (putF "left" (.ref pl) (putF "sign" (.str "*") (putF "name" .non [])))))) := .upd p H _
      have hp4 : upd H p (.ins Z.F dx (putF "right" (.ref pr) (putF "left" (.ref pl) (putF "sign" (.str "*") (putF "name" .non []))))) p = some _ := upd_same
      generalize upd H p (.ins Z.F dx (putF "right" (.ref pr) (putF "left" (.ref pl) (putF "sign" (.str "*") (putF "name" .non []))))) = H4 at B0 hp4 ⊢
      obtain ⟨dl, ll, hl1, hl2⟩ := id ha
      obtain ⟨dr, lr, hr1, hr2⟩ := id hb
      have nl : pl ≠ p := ne_of hl1 hp (by intro z; cases z)
      have nr : pr ≠ p := ne_of hr1 hp (by intro z; cases z)
      have ml : ll ≠ p := ne_of hl2 hp (by intro z; cases z)
      have mr : lr ≠ p := ne_of hr2 hp (by intro z; cases z)
      refine ⟨_, rfl, rfl, _, rfl, iteDN n0 ⟨_, rfl, line1000 (by decide), fun t1 ht1 => ?_⟩⟩
      have S1 := Same.new (o := .lst [.str "*"]) ht1
      refine ⟨_, rfl, pl, dl, _, _, rfl, S1 _ _ (B0 _ _ hl1 nl), ffs_signs .., t1, ll, _, _, rfl, rfl, upd_same, S1 _ _ (B0 _ _ hl2 ml), line1000 (by decide), fun t2 ht2 => ?_⟩
      have S2 := S1.trans (Same.new (o := .lst ([.str "*"] ++ [])) ht2)
      refine ⟨_, rfl, pr, dr, _, _, rfl, S2 _ _ (B0 _ _ hr1 nr), ffs_signs .., t2, lr, _, _, rfl, rfl, upd_same, S2 _ _ (B0 _ _ hr2 mr), line1000 (by decide), fun t3 ht3 => ?_⟩
      have S3 := S2.trans (Same.new (o := .lst ([.str "*"] ++ [] ++ [])) ht3)
      have e3 : upd (upd (upd H4 t1 (.lst [.str "*"])) t2 (.lst ([.str "*"] ++ []))) t3 (.lst ([.str "*"] ++ [] ++ [])) t3 = some (.lst [.str "*"]) := upd_same
      generalize upd (upd (upd H4 t1 (.lst [.str "*"])) t2 (.lst ([.str "*"] ++ []))) t3 (.lst ([.str "*"] ++ [] ++ [])) = H5 at S3 e3 ⊢
      have p5 := S3 _ _ hp4
      have B5 : But p H H5 := B0.trans S3.but
      refine ⟨_, rfl, p, dx, _, rfl, p5, (lt1000 (by kernel_rfl)), ?_⟩
      have n3 : t3 ≠ p := ne_of e3 p5 (by intro z; cases z)
      have B6 := B5.trans (But.upd p H5 (.ins Z.F dx (putF "signs" (.ref t3) (putF "right" (.ref pr) (putF "left" (.ref pl) (putF "sign" (.str "*") (putF "name" .non [])))))))
      refine ⟨_, rfl, rfl, _, rfl, iteDN n0 ?_⟩
      refine ⟨_, rfl, line1000 ?_, _, rfl, pl, dl, _, _, rfl, B6 _ _ hl1 nl, ffs_text .., .inl ⟨_, rfl, line1000 ?_, _, rfl, line1000 ?_, _, rfl, line1000 ?_, _, rfl, .inl ⟨_, rfl, line1000 ?_, _, rfl, line1000 ?_, _, rfl, line1000 ?_,
        _, rfl, pr, dr, _, _, rfl, B6 _ _ hr1 nr, ffs_text .., .inl ⟨_, rfl, line1000 ?_, _, rfl, line1000 ?_, _, rfl, line1000 ?_, ?_⟩⟩⟩⟩
      all_goals try (first | omega | (simp only [PySem.Str.length_append, show (Str.empty).length = 0 from rfl, show ("(" : Str).length = 1 from by decide +kernel, show (" " : Str).length = 1 from by decide +kernel, show ("*" : Str).length = 1 from by decide +kernel, show (")" : Str).length = 1 from by decide +kernel]; omega))
      refine ⟨_, rfl, p, dx, _, rfl, upd_same, (lt1000 (by kernel_rfl)), ?_⟩
      rw [upd_upd, ffs_put]
      have B7 := B5.trans (But.upd p H5 (.ins Z.F dx (ffs .non (.str "*") (.ref pl) (.ref pr) (.ref t3) (.str (mtext a b)))))
      exact q _ B7 ⟨dx, t3, upd_same, by rw [upd_ne n3]; exact e3⟩
end
end K85
/-! K85F2: letter, products, checks. -/
namespace K85
open PySem PySem.Spec PyProof.Rows L2
/-- a class's __init__ as it stands behind the top -/
def CTxt (K : PySem.W.Frag) (mg : Str → Option Value) (C : Addr) (c q : Str) (st : Stmt) (dvs : List V) (kws : List (Str × V)) : Prop := ∃ f fd, TF K "__init__" q st dvs kws f fd ∧ Mk K C f ∧ mg c = some (.ref C)
/-- an operator's method -/
def OTxt (K : PySem.W.Frag) (C : Addr) (m q : Str) (st : Stmt) : Prop := ∃ f fd, TF K m q st [] [] f fd ∧ OwnM K C m f
/-- a property -/
def PTxt (K : PySem.W.Frag) (C : Addr) (m q : Str) (st : Stmt) : Prop := ∃ p g fd, TF K m q st [] [] g fd ∧ PropOf K C m p g
section
variable (P : Program) (w : World) (K : PySem.W.Frag) (mg : Str → Option Value) (base : Heap)
def ODef (k : Nat) (C : Addr) (m : Str) (ps : List Str) (sp : Sp) : Prop := ∃ f fd, FnOk P w K mg base CX0 k f fd ps sp ∧ Binds K fd ps [] ∧ OwnM K C m f
end
section
variable {P : Program} {w : World} {K : PySem.W.Frag} {mg : Str → Option Value} {base : Heap} {Z : Cs} {f : Addr} {fd : FuncData}
theorem odef {k : Nat} {C : Addr} {m q : Str} {st : Stmt} {ps : List Str} {sp : Sp} (G : OTxt K C m q st)
    (hb : ∀ (kV doc pm : Value) (an : Option Addr) (cdv ct : Value) (us : List Value), us.length = ps.length → bindArgs (PySem.W.fnOf m q (defArgs st) (defBody st) (defScope st) .none kV doc pm an cdv ct) ⟨us, []⟩ = pure (ps.zip us))
    (ok : ∀ f fd, TF K m q st [] [] f fd → FnOk P w K mg base CX0 k f fd ps sp) : ODef P w K mg base k C m ps sp := by
  obtain ⟨f, fd, F, hm⟩ := G
  exact ⟨f, fd, ok f fd F, F.bindsN hb, hm⟩
theorem pdef {CX : CXT} {k : Nat} {C : Addr} {m q : Str} {st : Stmt} {sp : Sp} (G : PTxt K C m q st)
    (hb : ∀ (kV doc pm : Value) (an : Option Addr) (cdv ct : Value) (us : List Value), us.length = 1 → bindArgs (PySem.W.fnOf m q (defArgs st) (defBody st) (defScope st) .none kV doc pm an cdv ct) ⟨us, []⟩ = pure ((["self"] : List Str).zip us))
    (ok : ∀ f fd, TF K m q st [] [] f fd → FnOk P w K mg base CX k f fd ["self"] sp) : PDef P w K mg base CX k C m sp := by
  obtain ⟨p, g, fd, F, hm⟩ := G
  exact ⟨p, g, fd, ok g fd F, F.bindsN hb, hm⟩
theorem g400 (T : Txt K mg Z) (G : CTxt K mg Z.F "Formula" "Formula.__init__" (met 40 0) [.str "", .non, .non] []) :
    CDef P w K mg base CX0 1 Z.F "Formula" PFI [.str "", .non, .non] (spFI Z.F) ∧ CDef P w K mg base CX0 1 Z.F "Formula" PFI [] (spFI Z.F) := by
  obtain ⟨f, fd, F, M, hm⟩ := G
  have ok : FnOk P w K mg base CX0 1 f fd PFI (spFI Z.F) := ok400 T F
  obtain ⟨d1, v1, b1⟩ := F.binds1 (ps := PFI) 2 0 (by simp) (by rfl) fun TT _ _ _ _ _ _ us its l1 l2 => match us, its, l1, l2 with | [_, _], [_, _, _], _, _ => ⟨_, rfl, rfl⟩
  obtain ⟨d2, v2, b2⟩ := F.binds1 (ps := PFI) 5 3 (by simp) (by rfl) fun TT _ _ _ _ _ _ us its l1 l2 => match us, its, l1, l2 with | [_, _, _, _, _], [_, _, _], _, _ => ⟨_, rfl, rfl⟩
  exact ⟨⟨f, fd, d1, ok, b1, v1, M, hm⟩, ⟨f, fd, d2, ok, b2, v2, M, hm⟩⟩
theorem mk_let {C x dx : Addr} {H : Hp} {n : Str} {Q : VK} {E : XK} (hx : H x = none) (hdx : H dx = none) (q : ∀ H', Same H H' → LetN C H H' x n → Q (.ref x) H') :
    spFI C (.ref x :: ([.str n] ++ [.str "", .non, .non])) (upd (upd H dx (.own x)) x (.ins C dx [])) (fun v H2 => v = .non ∧ Q (.ref x) H2) E := by
  have S : Same H (upd (upd H dx (.own x)) x (.ins C dx [])) := fun b o e => by rw [upd_ne (ne_of_none e hx), upd_ne (ne_of_none e hdx)]; exact e
  exact ⟨x, dx, upd_same, .inl ⟨n, rfl, fun H' B L => ⟨rfl, q H' (Same.made hx hdx B) (L.from S)⟩⟩⟩
theorem mk_mul {C x dx pl pr : Addr} {H : Hp} {a b : Str} {Q : VK} {E : XK} (hx : H x = none) (hdx : H dx = none) (ha : LetAt C H pl a) (hb : LetAt C H pr b) (la : a.length ≤ 8) (lb : b.length ≤ 8) (q : ∀ H', Same H H' → MulAt C H' x pl pr a b → Q (.ref x) H') :
    spFI C (.ref x :: ([.non, .str "*", .ref pl, .ref pr] ++ [])) (upd (upd H dx (.own x)) x (.ins C dx [])) (fun v H2 => v = .non ∧ Q (.ref x) H2) E := by
  have S : Same H (upd (upd H dx (.own x)) x (.ins C dx [])) := fun b o e => by rw [upd_ne (ne_of_none e hx), upd_ne (ne_of_none e hdx)]; exact e
  exact ⟨x, dx, upd_same, .inr ⟨pl, pr, a, b, rfl, ha.kp S.kp, hb.kp S.kp, la, lb, fun H' B L => ⟨rfl, q H' (Same.made hx hdx B) L⟩⟩⟩
/-! letter -/
theorem sc41 : FnScope ["name"] ["name"] (defScope (top 41)) := ⟨rfl, rfl, rfl, by decide +kernel, rfl, by decide +kernel, by decide +kernel⟩
def spLetter (C : Addr) : Sp := fun vs H Q _ => ∃ n : Str, vs = [.str n] ∧ NameOk n ∧ ∀ p H', Same H H' → LetN C H H' p n → Q (.ref p) H'
theorem ok41 (T : Txt K mg Z) (G35 : GDef P w K mg base CX0 1 "is_name" ["value"] [] spName) (GF : CDef P w K mg base CX0 1 Z.F "Formula" PFI [.str "", .non, .non] (spFI Z.F)) (F : TF K "letter" "letter" (top 41) [] [] f fd) :
    FnOk P w K mg base CX0 3 f fd ["name"] (spLetter Z.F) := by
  refine F.ok sc41 (fun vs H Q E h => ?_) (fun cdv A outer s H vs Q E hr h => ?_)
  · obtain ⟨n, rfl, _⟩ := h
    rfl
  · obtain ⟨n, rfl, hn, q⟩ := h
    refine ⟨_, PSs.nox <| pss_cons (ps_if (pt_not (pt_val (pe_g G35 (hr.mono (by decide)) pass0 (pa_cons (pv 0) pa_nil)))) pss_never pss_nil) (pss_one (ps_ret (pe_c1 GF hr pass0 (pa_cons (pv 0) pa_nil)))), ?_⟩
    exact ⟨_, rfl, n, rfl, hn, fun H1 S1 => ⟨true, rfl, iteF ⟨_, rfl, fun x dx hx hdx _ => mk_let hx hdx fun H' S L => q x H' (S1.trans S) (L.from S1)⟩⟩⟩
theorem g41 (T : Txt K mg Z) (G35 : GDef P w K mg base CX0 1 "is_name" ["value"] [] spName) (GF : CDef P w K mg base CX0 1 Z.F "Formula" PFI [.str "", .non, .non] (spFI Z.F)) (G : GTxt K mg "letter" (top 41) [] []) :
    GDef P w K mg base CX0 3 "letter" ["name"] [] (spLetter Z.F) := gdef G (fun _ _ _ _ _ _ us hl => match us, hl with | [_], _ => rfl) fun f fd F => ok41 T G35 GF F
/-! check_formula, check_operations -/
theorem sc48 : FnScope ["value"] ["value"] (defScope (top 48)) := ⟨rfl, rfl, rfl, by decide +kernel, rfl, by decide +kernel, by decide +kernel⟩
def spIns (C : Addr) : Sp := fun vs H Q _ => ∃ (p dx : Addr) (fs : List (Str × V)), vs = [.ref p] ∧ H p = some (.ins C dx fs) ∧ Q .non H
theorem ok48 (T : Txt K mg Z) (F : TF K "check_formula" "check_formula" (top 48) [] [] f fd) : FnOk P w K mg base CX0 1 f fd ["value"] (spIns Z.F) := by
  refine F.ok sc48 (fun vs H Q E h => ?_) (fun cdv A outer s H vs Q E hr h => ?_)
  · obtain ⟨_, _, _, rfl, _⟩ := h
    rfl
  · obtain ⟨p, dx, fs, rfl, hp, q⟩ := h
    exact ⟨_, pss_one (ps_if (pt_not (pt_val (pe_isC T T.gF T.iF (pv 0)))) pss_never pss_nil), _, rfl, p, dx, fs, rfl, hp, true, rfl, iteF q⟩
theorem g48 (T : Txt K mg Z) (G : GTxt K mg "check_formula" (top 48) [] []) : GDef P w K mg base CX0 1 "check_formula" ["value"] [] (spIns Z.F) := gdef G (fun _ _ _ _ _ _ us hl => match us, hl with | [_], _ => rfl) fun f fd F => ok48 T F
theorem sc54 : FnScope ["value"] ["value"] (defScope (top 54)) := ⟨rfl, rfl, rfl, by decide +kernel, rfl, by decide +kernel, by decide +kernel⟩
theorem ok54 (T : Txt K mg Z) (F : TF K "check_kind" "check_kind" (top 54) [] [] f fd) : FnOk P w K mg base CX0 1 f fd ["value"] (spIns Z.K) := by
  refine F.ok sc54 (fun vs H Q E h => ?_) (fun cdv A outer s H vs Q E hr h => ?_)
  · obtain ⟨_, _, _, rfl, _⟩ := h
    rfl
  · obtain ⟨p, dx, fs, rfl, hp, q⟩ := h
    exact ⟨_, pss_one (ps_if (pt_not (pt_val (pe_isC T T.gK T.iK (pv 0)))) pss_never pss_nil), _, rfl, p, dx, fs, rfl, hp, true, rfl, iteF q⟩
theorem g54 (T : Txt K mg Z) (G : GTxt K mg "check_kind" (top 54) [] []) : GDef P w K mg base CX0 1 "check_kind" ["value"] [] (spIns Z.K) := gdef G (fun _ _ _ _ _ _ us hl => match us, hl with | [_], _ => rfl) fun f fd F => ok54 T F
theorem sc64 : FnScope ["value"] ["value"] (defScope (top 64)) := ⟨rfl, rfl, rfl, by decide +kernel, rfl, by decide +kernel, by decide +kernel⟩
theorem ok64 (T : Txt K mg Z) (F : TF K "check_cell" "check_cell" (top 64) [] [] f fd) : FnOk P w K mg base CX0 1 f fd ["value"] (spIns Z.C) := by
  refine F.ok sc64 (fun vs H Q E h => ?_) (fun cdv A outer s H vs Q E hr h => ?_)
  · obtain ⟨_, _, _, rfl, _⟩ := h
    rfl
  · obtain ⟨p, dx, fs, rfl, hp, q⟩ := h
    exact ⟨_, pss_one (ps_if (pt_not (pt_val (pe_isC T T.gC T.iC (pv 0)))) pss_never pss_nil), _, rfl, p, dx, fs, rfl, hp, true, rfl, iteF q⟩
theorem g64 (T : Txt K mg Z) (G : GTxt K mg "check_cell" (top 64) [] []) : GDef P w K mg base CX0 1 "check_cell" ["value"] [] (spIns Z.C) := gdef G (fun _ _ _ _ _ _ us hl => match us, hl with | [_], _ => rfl) fun f fd F => ok64 T F
theorem sc47 : FnScope ["number"] ["number"] (defScope (top 47)) := ⟨rfl, rfl, rfl, by decide +kernel, rfl, by decide +kernel, by decide +kernel⟩
def spOps : Sp := fun vs H Q _ => ∃ i : Int, vs = [.int i] ∧ i ≤ 8 ∧ Q .non H
theorem ok47 (T : Txt K mg Z) (F : TF K "check_operations" "check_operations" (top 47) [] [] f fd) : FnOk P w K mg base CX0 1 f fd ["number"] spOps := by
  refine F.ok sc47 (fun vs H Q E h => ?_) (fun cdv A outer s H vs Q E hr h => ?_)
  · obtain ⟨_, rfl, _⟩ := h
    rfl
  · obtain ⟨i, rfl, hi, q⟩ := h
    exact ⟨_, pss_one (ps_if (pt_cmpR op_gt (pv 0) (C8.pe_gc (by rfl) T.mOPS) (nomark _)) pss_never pss_nil), _, rfl, _, _, rfl, rfl, _, rfl, iteDN (by omega) q⟩
theorem g47 (T : Txt K mg Z) (G : GTxt K mg "check_operations" (top 47) [] []) : GDef P w K mg base CX0 1 "check_operations" ["number"] [] spOps := gdef G (fun _ _ _ _ _ _ us hl => match us, hl with | [_], _ => rfl) fun f fd F => ok47 T F
/-! operation_of, __mul__ -/
theorem sc42 : FnScope ["left", "sign", "right"] ["left", "sign", "right"] (defScope (top 42)) := ⟨rfl, rfl, rfl, by decide +kernel, rfl, by decide +kernel, by decide +kernel⟩
def spOp (C : Addr) : Sp := fun vs H Q _ => ∃ (pl pr : Addr) (a b : Str), vs = [.ref pl, .str "*", .ref pr] ∧ LetAt C H pl a ∧ LetAt C H pr b ∧ a.length ≤ 8 ∧ b.length ≤ 8 ∧ ∀ p H', Same H H' → MulAt C H' p pl pr a b → Q (.ref p) H'
theorem ok42 (T : Txt K mg Z) (G48 : GDef P w K mg base CX0 1 "check_formula" ["value"] [] (spIns Z.F)) (G47 : GDef P w K mg base CX0 1 "check_operations" ["number"] [] spOps) (GF : CDef P w K mg base CX0 1 Z.F "Formula" PFI [] (spFI Z.F))
    (F : TF K "operation_of" "operation_of" (top 42) [] [] f fd) : FnOk P w K mg base CX0 3 f fd ["left", "sign", "right"] (spOp Z.F) := by
  refine F.ok sc42 (fun vs H Q E h => ?_) (fun cdv A outer s H vs Q E hr h => ?_)
  · obtain ⟨_, _, _, _, rfl, _⟩ := h
    rfl
  · obtain ⟨pl, pr, a, b, rfl, ha, hb, la, lb, q⟩ := h
    have c := T.iF.cl
    refine ⟨_, PSs.nox <| pss_cons (ps_expr (pe_g G48 (hr.mono (by decide)) pass0 (pa_cons (pv 2) pa_nil)))
      (pss_cons (ps_expr (pe_g G47 (hr.mono (by decide)) pass0 (pa_cons (pe_op op_add (pe_op op_add (pe_b call_len T.len PySem.boot_len (pa_cons (pe_at c T.f_signs (pv 0)) pa_nil)) (pe_b call_len T.len PySem.boot_len (pa_cons (pe_at c T.f_signs (pv 2)) pa_nil))) pe_int) pa_nil)))
      (pss_one (ps_ret (pe_c1 GF hr pass0 (pa_cons pe_non (pa_cons (pv 1) (pa_cons (pv 0) (pa_cons (pv 2) pa_nil)))))))), ?_⟩
    obtain ⟨dl, ll, hl1, hl2⟩ := id ha
    obtain ⟨dr, lr, hr1, hr2⟩ := id hb
    refine ⟨_, rfl, pr, dr, _, rfl, hr1, ?_⟩
    refine ⟨_, rfl, pl, dl, _, _, rfl, hl1, ffs_signs .., _, 0, rfl, .inl ⟨[], .inl (.inl hl2), rfl⟩, _, rfl, pr, dr, _, _, rfl, hr1, ffs_signs .., _, 0, rfl, .inl ⟨[], .inl (.inl hr2), rfl⟩, _, _, rfl, rfl, _, _, rfl, rfl, _, rfl, by decide, ?_⟩
    refine ⟨_, rfl, _, rfl, _, rfl, fun x dx hx hdx _ => mk_mul hx hdx ha hb la lb fun H' S L => q x H' S L⟩
theorem g42 (T : Txt K mg Z) (G48 : GDef P w K mg base CX0 1 "check_formula" ["value"] [] (spIns Z.F)) (G47 : GDef P w K mg base CX0 1 "check_operations" ["number"] [] spOps) (GF : CDef P w K mg base CX0 1 Z.F "Formula" PFI [] (spFI Z.F))
    (G : GTxt K mg "operation_of" (top 42) [] []) : GDef P w K mg base CX0 3 "operation_of" ["left", "sign", "right"] [] (spOp Z.F) := gdef G (fun _ _ _ _ _ _ us hl => match us, hl with | [_, _, _], _ => rfl) fun f fd F => ok42 T G48 G47 GF F
theorem sc405 : FnScope ["self", "other"] ["self", "other"] (defScope (met 40 5)) := ⟨rfl, rfl, rfl, by decide +kernel, rfl, by decide +kernel, by decide +kernel⟩
def spMul (C : Addr) : Sp := fun vs H Q _ => ∃ (pl pr : Addr) (a b : Str), vs = [.ref pl, .ref pr] ∧ LetAt C H pl a ∧ LetAt C H pr b ∧ a.length ≤ 8 ∧ b.length ≤ 8 ∧ ∀ p H', Same H H' → MulAt C H' p pl pr a b → Q (.ref p) H'
theorem ok405 (T : Txt K mg Z) (G42 : GDef P w K mg base CX0 3 "operation_of" ["left", "sign", "right"] [] (spOp Z.F)) (F : TF K "__mul__" "Formula.__mul__" (met 40 5) [] [] f fd) : FnOk P w K mg base CX0 4 f fd ["self", "other"] (spMul Z.F) := by
  refine F.ok sc405 (fun vs H Q E h => ?_) (fun cdv A outer s H vs Q E hr h => ?_)
  · obtain ⟨_, _, _, _, rfl, _⟩ := h
    rfl
  · obtain ⟨pl, pr, a, b, rfl, ha, hb, la, lb, q⟩ := h
    exact ⟨_, pss_one (ps_ret (pe_g G42 hr pass0 (pa_cons (pv 0) (pa_cons pe_str (pa_cons (pv 1) pa_nil))))), _, rfl, _, rfl, pl, pr, a, b, rfl, ha, hb, la, lb, q⟩
theorem g405 (T : Txt K mg Z) (G42 : GDef P w K mg base CX0 3 "operation_of" ["left", "sign", "right"] [] (spOp Z.F)) (G : OTxt K Z.F "__mul__" "Formula.__mul__" (met 40 5)) : ODef P w K mg base 4 Z.F "__mul__" ["self", "other"] (spMul Z.F) :=
  odef G (fun _ _ _ _ _ _ us hl => match us, hl with | [_, _], _ => rfl) fun f fd F => ok405 T G42 F
/-! __len__, __str__ -/
theorem sc4010 : FnScope ["self"] ["self"] (defScope (met 40 10)) := ⟨rfl, rfl, rfl, by decide +kernel, rfl, by decide +kernel, by decide +kernel⟩
def spLen (C : Addr) : Sp := fun vs H Q _ => ∃ (p : Addr) (g : Fm), vs = [.ref p] ∧ FmAt C H p g ∧ Q (.int g.sg.length) H
theorem ok4010 (T : Txt K mg Z) (F : TF K "__len__" "Formula.__len__" (met 40 10) [] [] f fd) : FnOk P w K mg base CX0 1 f fd ["self"] (spLen Z.F) := by
  refine F.ok sc4010 (fun vs H Q E h => ?_) (fun cdv A outer s H vs Q E hr h => ?_)
  · obtain ⟨_, _, rfl, _⟩ := h
    rfl
  · obtain ⟨p, g, rfl, hp, q⟩ := h
    obtain ⟨dx, n, s1, l, r, sl, h1, h2⟩ := hp.look
    exact ⟨_, pss_one (ps_ret (pe_b call_len T.len PySem.boot_len (pa_cons (pe_at T.iF.cl T.f_signs (pv 0)) pa_nil))), _, rfl, p, dx, _, _, rfl, h1, ffs_signs .., _, _, rfl, .inl ⟨_, .inl (.inl h2), rfl⟩, q⟩
theorem g4010 (T : Txt K mg Z) (G : OTxt K Z.F "__len__" "Formula.__len__" (met 40 10)) : ODef P w K mg base 1 Z.F "__len__" ["self"] (spLen Z.F) := odef G (fun _ _ _ _ _ _ us hl => match us, hl with | [_], _ => rfl) fun f fd F => ok4010 T F
theorem sc4012 : FnScope ["self"] ["self"] (defScope (met 40 12)) := ⟨rfl, rfl, rfl, by decide +kernel, rfl, by decide +kernel, by decide +kernel⟩
def spStr (C : Addr) : Sp := fun vs H Q _ => ∃ (p : Addr) (g : Fm), vs = [.ref p] ∧ FmAt C H p g ∧ g.text.length ≤ 1000 ∧ Q (.str g.text) H
theorem ok4012 (T : Txt K mg Z) (F : TF K "__str__" "Formula.__str__" (met 40 12) [] [] f fd) : FnOk P w K mg base CX0 1 f fd ["self"] (spStr Z.F) := by
  refine F.ok sc4012 (fun vs H Q E h => ?_) (fun cdv A outer s H vs Q E hr h => ?_)
  · obtain ⟨_, _, rfl, _⟩ := h
    rfl
  · obtain ⟨p, g, rfl, hp, hg, q⟩ := h
    obtain ⟨dx, n, s1, l, r, sl, h1, h2⟩ := hp.look
    exact ⟨_, pss_one (ps_ret (pe_joined1 (pe_fmt (pe_at T.iF.cl T.f_text (pv 0))))), _, rfl, p, dx, _, _, rfl, h1, ffs_text .., .inl ⟨_, rfl, line1000 hg, q⟩⟩
theorem g4012 (T : Txt K mg Z) (G : OTxt K Z.F "__str__" "Formula.__str__" (met 40 12)) : ODef P w K mg base 1 Z.F "__str__" ["self"] (spStr Z.F) := odef G (fun _ _ _ _ _ _ us hl => match us, hl with | [_], _ => rfl) fun f fd F => ok4012 T F
end
end K85
/-! K85F3: the parts of a formula. -/
namespace K85
open PySem PySem.Spec PyProof.Rows L2
def fmParts : Fm → List Fm
  | .l n => [.l n]
  | .m a b => [.m a b, .l a, .l b]
/-- the values xs are objects of exactly the formulas gs -/
def Cov (C : Addr) (H : Hp) (xs : List V) (gs : List Fm) : Prop := (∀ x ∈ xs, ∃ p g, x = .ref p ∧ g ∈ gs ∧ FmAt C H p g) ∧ ∀ g ∈ gs, ∃ p, V.ref p ∈ xs ∧ FmAt C H p g
theorem Cov.kp {C : Addr} {H H' : Hp} {xs : List V} {gs : List Fm} (h : Cov C H xs gs) (S : Kp H H') : Cov C H' xs gs :=
  ⟨fun x hx => by obtain ⟨p, g, e, hg, q⟩ := h.1 x hx; exact ⟨p, g, e, hg, q.kp S⟩, fun g hg => by obtain ⟨p, hp, q⟩ := h.2 g hg; exact ⟨p, hp, q.kp S⟩⟩
theorem FmAt.text_eq {C : Addr} {H : Hp} {p : Addr} {g g' : Fm} (h : FmAt C H p g) (h' : FmAt C H p g') : g.text = g'.text := by
  obtain ⟨dx, n, s, l, r, sl, e, _⟩ := h.look
  obtain ⟨dx', n', s', l', r', sl', e', _⟩ := h'.look
  rw [e] at e'
  injection e' with e'
  injection e' with _ _ e'
  unfold ffs at e'
  injection e' with _ e'; injection e' with _ e'; injection e' with _ e'; injection e' with _ e'; injection e' with _ e'; injection e' with e' _
  injection e' with _ e'
  injection e' with e'
theorem mtext_len (a b : Str) : (mtext a b).length = a.length + b.length + 5 := by
  unfold mtext
  simp only [PySem.Str.length_append, show (Str.empty).length = 0 from rfl, show ("(" : Str).length = 1 from by decide +kernel, show (" " : Str).length = 1 from by decide +kernel, show ("*" : Str).length = 1 from by decide +kernel, show (")" : Str).length = 1 from by decide +kernel]
  omega
theorem Fm.text_le {g : Fm} (h : g.short) : g.text.length ≤ 1000 := by
  cases g with
  | l n => exact Nat.le_trans (show n.length ≤ 8 from h) (by decide)
  | m a b =>
    obtain ⟨h1, h2⟩ := (show a.length ≤ 8 ∧ b.length ≤ 8 from h)
    show (mtext a b).length ≤ 1000
    rw [mtext_len]
    omega
/-- a formula's parts have each its own text -/
theorem parts_inj {f g g' : Fm} (h : g ∈ fmParts f) (h' : g' ∈ fmParts f) (e : g.text = g'.text) : g = g' := by
  cases f with
  | l n =>
    rw [List.mem_singleton.mp h, List.mem_singleton.mp h']
  | m a b =>
    have n1 : ∀ c, c = a ∨ c = b → mtext a b ≠ c := fun c hc e => by
      have := mtext_len a b
      rw [e] at this
      rcases hc with rfl | rfl <;> omega
    have hm : ∀ {k : Fm}, k ∈ fmParts (.m a b) → k = .m a b ∨ ∃ c, k = .l c ∧ (c = a ∨ c = b) := fun {k} hk => by
      rcases List.mem_cons.mp hk with e | hk
      · exact .inl e
      · rcases List.mem_cons.mp hk with e | hk
        · exact .inr ⟨a, e, .inl rfl⟩
        · exact .inr ⟨b, List.mem_singleton.mp hk, .inr rfl⟩
    rcases hm h with rfl | ⟨c, rfl, hc⟩ <;> rcases hm h' with rfl | ⟨d, rfl, hd⟩
    · rfl
    · exact absurd e (n1 d hd)
    · exact absurd e.symm (n1 c hc)
    · exact congrArg Fm.l e
section
variable {P : Program} {w : World} {K : PySem.W.Frag} {mg : Str → Option Value} {base : Heap} {Z : Cs} {f : Addr} {fd : FuncData}
/-! written_parts -/
theorem sc43 : FnScope ["formula"] ["formula"] (defScope (top 43)) := ⟨rfl, rfl, rfl, by decide +kernel, rfl, by decide +kernel, by decide +kernel⟩
def spWPl (C : Addr) : Sp := fun vs H Q _ => ∃ (p : Addr) (n : Str), vs = [.ref p] ∧ LetAt C H p n ∧ ∀ t, H t = none → Q (.ref t) (upd H t (.lst [.ref p]))
theorem ok43a (T : Txt K mg Z) (F : TF K "written_parts" "written_parts" (top 43) [] [] f fd) : FnOk P w K mg base CX0 1 f fd ["formula"] (spWPl Z.F) := by
  refine F.ok sc43 (fun vs H Q E h => ?_) (fun cdv A outer s H vs Q E hr h => ?_)
  · obtain ⟨_, _, rfl, _⟩ := h
    rfl
  · obtain ⟨p, n, rfl, ⟨dx, sl, h1, h2⟩, q⟩ := h
    exact ⟨_, pss_cons (ps_if (pt_cmpR op_eq (pe_at T.iF.cl T.f_sign (pv 0)) pe_str (nomark _)) (pss_one (ps_ret (pe_lst (pa_cons (pv 0) pa_nil)))) pss_nil) pss_never, _, rfl, p, dx, _, _, rfl, h1, ffs_sign .., rfl, _, rfl, iteD rfl ⟨_, rfl, line1000 (by simp), q⟩⟩
def spWP (C : Addr) : Sp := fun vs H Q _ => ∃ (p : Addr) (g : Fm), vs = [.ref p] ∧ FmAt C H p g ∧ ∀ H' t xs, Same H H' → H' t = some (.lst xs) → xs.length ≤ 3 → Cov C H' xs (fmParts g) → Q (.ref t) H'
theorem ok43 (T : Txt K mg Z) (G43 : GDef P w K mg base CX0 1 "written_parts" ["formula"] [] (spWPl Z.F)) (F : TF K "written_parts" "written_parts" (top 43) [] [] f fd) : FnOk P w K mg base CX0 2 f fd ["formula"] (spWP Z.F) := by
  refine F.ok sc43 (fun vs H Q E h => ?_) (fun cdv A outer s H vs Q E hr h => ?_)
  · obtain ⟨_, _, rfl, _⟩ := h
    rfl
  · obtain ⟨p, g, rfl, hp, q⟩ := h
    have c := T.iF.cl
    refine ⟨_, PSs.nox <| pss_cons (ps_if (pt_cmpR op_eq (pe_at c T.f_sign (pv 0)) pe_str (nomark _)) (pss_one (ps_ret (pe_lst (pa_cons (pv 0) pa_nil)))) pss_nil)
      (pss_one (ps_ret (pe_op op_cat (pe_op op_cat (pe_lst (pa_cons (pv 0) pa_nil)) (pe_g G43 hr pass0 (pa_cons (pe_at c T.f_left (pv 0)) pa_nil))) (pe_g G43 hr pass0 (pa_cons (pe_at c T.f_right (pv 0)) pa_nil))))), ?_⟩
    cases g with
    | l n =>
      obtain ⟨dx, sl, h1, h2⟩ := id hp
      refine ⟨_, rfl, p, dx, _, _, rfl, h1, ffs_sign .., rfl, _, rfl, iteD rfl ⟨_, rfl, line1000 (by simp), fun t ht => q _ t _ (.new ht) upd_same (by simp) ⟨fun x hx => ?_, fun g hg => ?_⟩⟩⟩
      · exact ⟨p, .l n, List.mem_singleton.mp hx, List.mem_singleton.mpr rfl, hp.kp (Same.new ht).kp⟩
      · rw [List.mem_singleton.mp hg]
        exact ⟨p, List.mem_singleton.mpr rfl, hp.kp (Same.new ht).kp⟩
    | m a b =>
      obtain ⟨dx, sl, pl, pr, h1, h2, ha, hb⟩ := id hp
      have n0 : ¬ (V.str "*" = V.str "") := by decide +kernel
      refine ⟨_, rfl, p, dx, _, _, rfl, h1, ffs_sign .., rfl, _, rfl, iteDN n0 ⟨_, rfl, line1000 (by simp), fun t1 ht1 => ?_⟩⟩
      have S1 := Same.new (o := .lst [.ref p]) ht1
      refine ⟨_, rfl, p, dx, _, _, rfl, S1 _ _ h1, ffs_left .., pl, a, rfl, ha.kp S1.kp, fun t2 ht2 => ?_⟩
      have S2 := S1.trans (Same.new (o := .lst [.ref pl]) ht2)
      refine ⟨t1, t2, _, _, rfl, rfl, (Same.new ht2) _ _ upd_same, upd_same, line1000 (by simp), fun t3 ht3 => ?_⟩
      have S3 := S2.trans (Same.new (o := .lst ([.ref p] ++ [.ref pl])) ht3)
      refine ⟨_, rfl, p, dx, _, _, rfl, S3 _ _ h1, ffs_right .., pr, b, rfl, hb.kp S3.kp, fun t4 ht4 => ?_⟩
      have S4 := S3.trans (Same.new (o := .lst [.ref pr]) ht4)
      refine ⟨t3, t4, _, _, rfl, rfl, (Same.new ht4) _ _ upd_same, upd_same, line1000 (by simp), fun t5 ht5 => ?_⟩
      have S5 := S4.trans (Same.new (o := .lst ([.ref p] ++ [.ref pl] ++ [.ref pr])) ht5)
      have f1 := hp.kp S5.kp
      have f2 := ha.kp S5.kp
      have f3 := hb.kp S5.kp
      refine q _ t5 _ S5 upd_same (by simp) ⟨fun x hx => ?_, fun g hg => ?_⟩
      · have hx : x ∈ [V.ref p, .ref pl, .ref pr] := hx
        simp only [List.mem_cons, List.not_mem_nil, or_false] at hx
        rcases hx with rfl | rfl | rfl
        · exact ⟨p, .m a b, rfl, by simp [fmParts], f1⟩
        · exact ⟨pl, .l a, rfl, by simp [fmParts], f2⟩
        · exact ⟨pr, .l b, rfl, by simp [fmParts], f3⟩
      · simp only [fmParts, List.mem_cons, List.not_mem_nil, or_false] at hg
        rcases hg with rfl | rfl | rfl
        · exact ⟨p, by simp, f1⟩
        · exact ⟨pl, by simp, f2⟩
        · exact ⟨pr, by simp, f3⟩
theorem g43 (T : Txt K mg Z) (G : GTxt K mg "written_parts" (top 43) [] []) : GDef P w K mg base CX0 2 "written_parts" ["formula"] [] (spWP Z.F) :=
  gdef G (fun _ _ _ _ _ _ us hl => match us, hl with | [_], _ => rfl) fun f fd F => ok43 T (gdef G (fun _ _ _ _ _ _ us hl => match us, hl with | [_], _ => rfl) fun f fd F => ok43a T F) F
end
end K85
/-! K85F4: Formula.parts. -/
namespace K85
open PySem PySem.Spec PyProof.Rows L2
theorem nd_put {κ : Type} [DecidableEq κ] (kvs : List (κ × V)) (k : κ) (v : V) (hn : (kvs.map (·.1)).Nodup) : ((putK kvs k v).map (·.1)).Nodup := by
  cases h : valV kvs k with
  | none => 
    rw [putK_new _ h, List.map_append, List.nodup_append]
    refine ⟨hn, by simp, fun a ha b hb e => ?_⟩
    have hb : b = k := List.mem_singleton.mp hb
    rw [e, hb] at ha
    obtain ⟨kv, hkv, e2⟩ := List.mem_map.mp ha
    have h3 := valV_any k kvs
    rw [h] at h3
    have h4 : (kvs.any fun kv => decide (kv.1 = k)) = true := List.any_eq_true.mpr ⟨kv, hkv, decide_eq_true e2⟩
    rw [h4] at h3
    cases h3
  | some x =>
    unfold putK
    rw [if_pos (by rw [valV_any, h]; rfl), List.map_map]
    have e : ((fun kv : κ × V => kv.1) ∘ fun kv => if kv.1 = k then (kv.1, v) else kv) = (·.1) := by
      funext kv
      simp only [Function.comp]
      split <;> rfl
    rw [e]
    exact hn
theorem _root_.L2.Same.at {H H' : Hp} {D : Addr} {o : HO} (S : Same H H') (hD : H D = none) : Same H (upd H' D o) := fun b u e => by rw [upd_ne (ne_of_none e hD)]; exact S b u e
abbrev rLen (K : PySem.W.Frag) : List V → Hp → VK → Prop := fun xs H Q => ∃ x n, xs = [x] ∧ LenV K x H n ∧ Q (.int n) H
section
variable {P : Program} {w : World} {K : PySem.W.Frag} {mg : Str → Option Value} {base : Heap} {Z : Cs} {f : Addr} {fd : FuncData}
abbrev N403 : List Str := ["self", "found", "order", "part", "text", "number"]
theorem sc403 : FnScope N403 ["self"] (defScope (met 40 3)) := ⟨rfl, rfl, rfl, by decide +kernel, rfl, by decide +kernel, by decide +kernel⟩
def spParts (K : PySem.W.Frag) (C : Addr) : Sp := fun vs H Q _ => ∃ (p : Addr) (g : Fm), vs = [.ref p] ∧ FmAt C H p g ∧ ∀ H' t xs, Same H H' → SqT K H' t xs → xs.length ≤ 3 → Cov C H' xs (fmParts g) → Q (.ref t) H'
theorem ok403 (T : Txt K mg Z) (G43 : GDef P w K mg base CX0 2 "written_parts" ["formula"] [] (spWP Z.F)) (F : TF K "parts" "Formula.parts" (met 40 3) [] [] f fd) : FnOk P w K mg base CX0 3 f fd ["self"] (spParts K Z.F) := by
  refine F.ok sc403 (fun vs H Q E h => ?_) (fun cdv A outer s H vs Q E hr h => ?_)
  · obtain ⟨_, _, rfl, _⟩ := h
    rfl
  · obtain ⟨p, g, rfl, hp, q⟩ := h
    have c := T.iF.cl
    have hu := hu_of hr
    refine ⟨_, PSs.nox <| pss_cons (ps_set (i := 1) sc403.nd rfl (Or.inr rfl) (pe_dc (own := [("part", 3)]) (g := gName 3) (tt := tYes) (by rfl) sc403.nd (pi_list (pe_g G43 hr pass0 (pa_cons (pv 0) pa_nil))) (blkOk_by (N := N403) (sc := defScope (met 40 3)) (by decide +kernel))
        (fun _ _ _ _ _ => pg_name (i := 3) sc403.nd rfl (Or.inl rfl)) (fun _ _ _ _ _ => pts_nil) (fun _ _ _ _ _ => pe_at c T.f_text (pv 3)) (fun _ _ _ _ _ => pv 3)))
      (pss_cons (ps_set (i := 2) sc403.nd rfl (Or.inl rfl) (pe_b (cr_sortP hr) T.srt boot_sorted (pa_cons (pe_lock (pe_lc (own := [("text", 4)]) (g := gName 4) (tt := tYes) (by rfl) sc403.nd (pi_keys (pv 1)) (blkOk_by (N := N403) (sc := defScope (met 40 3)) (by decide +kernel))
        (fun _ _ _ _ _ => pg_name (i := 4) sc403.nd rfl (Or.inl rfl)) (fun _ _ _ _ _ => pts_nil) (fun _ _ _ _ _ => pe_tup (pa_cons (pe_b (r := rLen K) call_len T.len PySem.boot_len (pa_cons (pe_at c T.f_signs (pe_dget hu (pv 1) (pv 4) (fun _ _ => rfl))) pa_nil)) (pa_cons (pv 4) pa_nil))))) pa_nil)))
      (pss_one (ps_ret (pe_callTy call_tuple_of (by rfl) T.tup boot_tuple (pa_cons (pe_lc (own := [("number", 5), ("text", 4)]) (g := gTup K 2 (gCons (gName 5) (gCons (gName 4) gNil))) (tt := tYes) (by rfl) sc403.nd (pi_list (pv 2)) (blkOk_by (N := N403) (sc := defScope (met 40 3)) (by decide +kernel))
        (fun _ _ _ _ _ => pg_tup rfl (pgs_cons (pg_name (i := 5) sc403.nd rfl (Or.inl rfl)) (pgs_cons (pg_name (i := 4) sc403.nd rfl (Or.inl rfl)) pgs_nil))) (fun _ _ _ _ _ => pts_nil) (fun _ _ _ _ _ => pe_dget hu (pv 1) (pv 4) (fun _ _ => rfl))) pa_nil))))), ?_⟩
    refine ⟨_, rfl, p, g, rfl, hp, fun H1 t xs S1 ht hxl hx => ⟨t, rfl, ⟨_, .inl (.inl ht)⟩, fun D hD => ?_⟩⟩
    refine cc_it walk_list (fun i H' => Same H1 H' ∧ ∃ kvs : List (Key × V), H' D = some (.dK kvs) ∧ kvs.length ≤ i ∧ (kvs.map (·.1)).Nodup ∧ (∀ k v, valV kvs k = some v → ∃ p g', k = .inr g'.text ∧ v = .ref p ∧ g' ∈ fmParts g ∧ FmAt Z.F H1 p g') ∧
      ∀ j p g', j < i → xs[j]? = some (.ref p) → FmAt Z.F H1 p g' → (valV kvs (.inr g'.text)).isSome = true) ⟨.new hD, [], upd_same, Nat.zero_le _, List.nodup_nil, fun k v e => (by cases e), fun j _ _ h => absurd h (Nat.not_lt_zero _)⟩ (fun i H' _ h => .inl (.inl (h.1 _ _ ht))) ?_ ?_
    · rintro i x H2 _ hi ⟨S2, kvs, hk, hl, hnd, h1, h2⟩ ⟨rfl, ex⟩
      obtain ⟨p', g', rfl, hg', hp'⟩ := hx.1 x (List.mem_of_getElem? ex)
      obtain ⟨dx, _, _, _, _, sl, e1, e2⟩ := (hp'.kp S2.kp).look
      refine ⟨rfl, _, rfl, p', dx, _, _, rfl, e1, ffs_text .., _, rfl, kvs, .inr g'.text, rfl, hk, small1000 (by omega), S2.at hD, _, upd_same, ?_, nd_put _ _ _ hnd, fun k v e => ?_, fun j p2 g2 hj ej hp2 => ?_⟩
      · have := length_putK kvs (.inr g'.text) (.ref p')
        omega
      · rw [valV_put] at e
        split at e
        · rename_i ek
          cases e
          exact ⟨p', g', ek, rfl, hg', hp'⟩
        · exact h1 k v e
      · rw [valV_put]
        split
        · rfl
        · rename_i ne
          by_cases hji : j < i
          · exact h2 j p2 g2 hji ej hp2
          · have : j = i := by omega
            subst this
            rw [ex] at ej
            cases ej
            exact absurd (congrArg Sum.inr (hp2.text_eq hp')) ne
    · rintro H2 ⟨S2, kvs, hk, hl, hnd, h1, h2⟩
      refine ⟨D, .dK kvs, hk, trivial, fun od => ⟨_, rfl, D, od, rfl, .inl ⟨kvs, upd_same, fun L hL => ?_⟩⟩⟩
      have nLD : L ≠ D := fun e => by rw [e, upd_same] at hL; cases hL
      have hL2 : H2 L = none := by rwa [upd_ne nLD] at hL
      have hL1 : H1 L = none := S2.free hL2
      refine cc_it walk_keys (fun i H' => Same H1 H' ∧ H' D = some (.frz od (.dK kvs)) ∧ ∃ acc bs, H' L = some (.lst acc) ∧ acc.length = i ∧ PairsAt K H' acc bs ∧ bs.length = i ∧ (∀ b ∈ bs, ∃ v, valV kvs (.inr b.2) = some v) ∧ ∀ j k v, j < i → kvs[j]? = some (k, v) → ∃ b ∈ bs, k = .inr b.2)
        ⟨(S2.at hD).at hL1, by rw [upd_ne nLD.symm, upd_same], [], [], upd_same, rfl, .nil, rfl, (fun b hb => absurd hb List.not_mem_nil), fun j _ _ h => absurd h (Nat.not_lt_zero _)⟩ (fun i H' _ h => h.2.1) ?_ ?_
      · rintro i x _ H3 hi ⟨S3, hfz, acc, bs, hLa, hal, hpa, hbl, hb1, hb2⟩ ⟨rfl, k, v, ek, rfl⟩
        have hv : valV kvs k = some v := val_nodup hnd (k, v) (List.mem_of_getElem? ek)
        obtain ⟨p', g', rfl, rfl, hg', hp'⟩ := h1 k v hv
        obtain ⟨dx, _, _, _, _, sl, e1, e2⟩ := (hp'.kp S3.kp).look
        refine ⟨rfl, _, rfl, _, rfl, D, _, rfl, .inl ⟨kvs, .inr g'.text, .inr ⟨od, hfz⟩, rfl, hv.symm⟩, p', dx, _, _, rfl, e1, ffs_signs .., _, g'.sg.length, rfl, .inl ⟨_, .inl (.inl e2), rfl⟩, _, rfl, line1000 (by simp), fun tp htp => ?_⟩
        have nT : L ≠ tp := fun e => by rw [← e, hLa] at htp; cases htp
        refine ⟨acc, by rw [upd_ne nT]; exact hLa, small1000 (by omega), ?_⟩
        refine ⟨(S3.trans (.new htp)).at hL1, by rw [upd_ne nLD.symm, upd_ne (fun e => by rw [← e, hfz] at htp; cases htp)]; exact hfz, _, bs ++ [((g'.sg.length : Int), g'.text)], upd_same, by simp [hal], ?_, by simp [hbl], fun b hb => ?_, fun j k v hj ej => ?_⟩
        · have nL : ∀ o, upd H3 tp (HO.tup [V.int ↑g'.sg.length, V.str g'.text]) L = some o → ¬ TupO o := fun o e => by
            rw [upd_ne nT, hLa] at e
            cases e
            exact id
          refine pairs_snoc ⟨tp, rfl, .inl (.inl ?_)⟩ (pairs_of (fun t ys h => tup_upd nL ((Same.new htp).tup h)) hpa)
          rw [upd_ne nT.symm, upd_same]
          rfl
        · rcases List.mem_append.mp hb with h | h
          · exact hb1 b h
          · rw [List.mem_singleton.mp h]
            exact ⟨_, hv⟩
        · by_cases hji : j < i
          · obtain ⟨b, hb, e⟩ := hb2 j k v hji ej
            exact ⟨b, List.mem_append_left _ hb, e⟩
          · have : j = i := by omega
            subst this
            rw [ek] at ej
            cases ej
            exact ⟨_, List.mem_append_right _ (List.mem_singleton.mpr rfl), rfl⟩
      · rintro H3 ⟨S3, hfz, acc, bs, hLa, hal, hpa, hbl, hb1, hb2⟩
        refine ⟨hfz, L, acc, bs, rfl, .inl (.inl (by rw [upd_ne nLD]; exact hLa)), pairs_of (fun t ys h => tup_upd (fun o e => by rw [hfz] at e; cases e; exact id) h) hpa, fun ys q' hys hq' => ?_⟩
        have nq : q' ≠ D := fun e => by rw [e, upd_same] at hq'; cases hq'
        have S4 : Same H1 (upd (upd H3 D (.dK kvs)) q' (.lst ys)) := (S3.at hD).trans (.new hq')
        have hD4 : upd (upd H3 D (.dK kvs)) q' (.lst ys) D = some (.dK kvs) := by rw [upd_ne nq.symm, upd_same]
        have hq4 : upd (upd H3 D (.dK kvs)) q' (.lst ys) q' = some (.lst ys) := upd_same
        have hys4 : PairsAt K (upd (upd H3 D (.dK kvs)) q' (.lst ys)) ys (bs.mergeSort leP) := pairs_of (fun t zs h => (Same.new hq').tup h) hys
        generalize upd (upd H3 D (.dK kvs)) q' (.lst ys) = H4 at S4 hD4 hq4 hys4 ⊢
        have yl : ys.length = kvs.length := by
          rw [Paired.length hys, List.length_mergeSort, hbl]
        refine ⟨_, rfl, q', rfl, ⟨_, .inl (.inl hq4)⟩, fun M hM => ?_⟩
        have hM1 := S4.free hM
        refine cc_it walk_list (fun i H' => Same H4 H' ∧ ∃ acc, H' M = some (.lst acc) ∧ acc.length = i ∧ (∀ x ∈ acc, ∃ p g', x = .ref p ∧ g' ∈ fmParts g ∧ FmAt Z.F H1 p g') ∧ ∀ j b v, j < i → (bs.mergeSort leP)[j]? = some b → valV kvs (.inr b.2) = some v → v ∈ acc)
          ⟨.new hM, [], upd_same, rfl, (fun x hx => absurd hx List.not_mem_nil), fun j _ _ h => absurd h (Nat.not_lt_zero _)⟩ (fun i H' _ h => .inl (.inl (h.1 _ _ hq4))) ?_ ?_
        · rintro i x H5 _ hi ⟨S5, acc2, hMa, hal2, ha1, ha2⟩ ⟨rfl, ex⟩
          obtain ⟨b, hb, tb, rfl, htb⟩ := pairs_at hys4 ex
          have hbm : b ∈ bs := List.mem_mergeSort.mp (List.mem_of_getElem? hb)
          obtain ⟨v, hv⟩ := hb1 b hbm
          refine ⟨tb, _, rfl, S5.tup htb, rfl, _, _, rfl, _, _, rfl, rfl, rfl, _, rfl, _, rfl, D, v, rfl, .inl ⟨kvs, .inr b.2, .inl (S5 _ _ hD4), rfl, hv.symm⟩, acc2, hMa, small1000 (by omega), S5.at hM, _, upd_same, by simp [hal2], fun x hx => ?_, fun j b' v' hj ej ev => ?_⟩
          · rcases List.mem_append.mp hx with h | h
            · exact ha1 x h
            · rw [List.mem_singleton.mp h]
              obtain ⟨p', g', _, e, hg', hp'⟩ := h1 _ v hv
              exact ⟨p', g', e, hg', hp'⟩
          · by_cases hji : j < i
            · exact List.mem_append_left _ (ha2 j b' v' hji ej ev)
            · have : j = i := by omega
              subst this
              rw [hb] at ej
              cases ej
              rw [hv] at ev
              cases ev
              exact List.mem_append_right _ (List.mem_singleton.mpr rfl)
        · rintro H5 ⟨S5, acc2, hMa, hal2, ha1, ha2⟩
          refine ⟨M, acc2, rfl, .inl ⟨.inl (.inl hMa), fun l hl' => q _ l acc2 (((S1.trans S4).trans S5).trans (.new hl')) (.inl (.inl upd_same)) (by omega) ?_⟩⟩
          have SF : Kp H1 (upd H5 l (.tup acc2)) := ((S4.trans S5).trans (.new hl')).kp
          refine ⟨fun x hx => ?_, fun g' hg' => ?_⟩
          · obtain ⟨p', g', e, hg', hp'⟩ := ha1 x hx
            exact ⟨p', g', e, hg', hp'.kp SF⟩
          · obtain ⟨p', hp'm, hp'⟩ := hx.2 g' hg'
            obtain ⟨j, ej⟩ := List.mem_iff_getElem?.mp hp'm
            have hj := (List.getElem?_eq_some_iff.mp ej).1
            obtain ⟨v, hv⟩ := Option.isSome_iff_exists.mp (h2 j p' g' hj ej hp')
            obtain ⟨p2, g2, et, rfl, hg2, hp2⟩ := h1 _ _ hv
            have eg : g' = g2 := parts_inj hg' hg2 (Sum.inr.inj et)
            subst eg
            obtain ⟨kv, hkv, ekv⟩ := List.mem_map.mp (valV_in hv)
            obtain ⟨j2, ej2⟩ := List.mem_iff_getElem?.mp hkv
            obtain ⟨b, hb, eb⟩ := hb2 j2 kv.1 kv.2 (List.getElem?_eq_some_iff.mp ej2).1 ej2
            rw [ekv] at eb
            obtain ⟨j3, ej3⟩ := List.mem_iff_getElem?.mp (List.mem_mergeSort.mpr hb : b ∈ bs.mergeSort leP)
            have hj3 := (List.getElem?_eq_some_iff.mp ej3).1
            rw [List.length_mergeSort, hbl, ← yl] at hj3
            exact ⟨p2, ha2 j3 b _ hj3 ej3 (by rw [← eb]; exact hv), hp2.kp SF⟩
theorem g403 (T : Txt K mg Z) (G43 : GDef P w K mg base CX0 2 "written_parts" ["formula"] [] (spWP Z.F)) (G : PTxt K Z.F "parts" "Formula.parts" (met 40 3)) : PDef P w K mg base CX0 3 Z.F "parts" (spParts K Z.F) :=
  pdef G (fun _ _ _ _ _ _ us hl => match us, hl with | [_], _ => rfl) fun f fd F => ok403 T G43 F
end
end K85
/-! K85K: kinds. -/
namespace K85
open PySem PySem.Spec PyProof.Rows L2
/-- the lots of turns, by their names -/
def lots : List (Str × List (T3 Nat)) := [("plain", [(0, 1, 2)]), ("sides", [(0, 1, 2), (1, 0, 2)]), ("front", [(0, 1, 2), (2, 1, 0)]), ("back", [(0, 1, 2), (0, 2, 1)]), ("round", [(0, 1, 2), (1, 2, 0), (2, 0, 1)]),
  ("all", [(0, 1, 2), (0, 2, 1), (1, 0, 2), (1, 2, 0), (2, 0, 1), (2, 1, 0)])]
/-- x is a tuple of three ints -/
def TupN (K : PySem.W.Frag) (H : Hp) (x : V) (t : T3 Nat) : Prop := ∃ b, x = .ref b ∧ SqT K H b [.int t.1, .int t.2.1, .int t.2.2]
/-- a tuple of such tuples -/
def LotAt (K : PySem.W.Frag) (H : Hp) (a : Addr) (L : List (T3 Nat)) : Prop := ∃ xs, SqT K H a xs ∧ Paired (TupN K H) xs L
structure LTxt (K : PySem.W.Frag) (w : World) (mg : Str → Option Value) : Prop where
  ex : ∃ d es n, mg "LOTS" = some (.ref d) ∧ KDict K w d es n ∧ ∀ q ∈ lots, ∃ a, PySem.W.nsIn K d q.1 = some (some (.ref a)) ∧ ∀ H, LotAt K H a q.2
theorem paired_at {α β : Type} {R : α → β → Prop} : ∀ {xs : List α} {ys : List β}, Paired R xs ys → ∀ {i : Nat} {x : α}, xs[i]? = some x → ∃ y, ys[i]? = some y ∧ R x y
  | _, _, .nil, i, x, e => by simp at e
  | _, _, .cons q r, 0, x, e => by cases e; exact ⟨_, rfl, q⟩
  | _, _, .cons q r, i + 1, x, e => paired_at r e
/-- an object Kind -/
def KindAt (C : Addr) (H : Hp) (p : Addr) (k : Str) (c : Bool) : Prop := ∃ dx, H p = some (.ins C dx (kfs (.str k) (.bl c)))
theorem KindAt.kp {C : Addr} {H H' : Hp} {p : Addr} {k : Str} {c : Bool} (h : KindAt C H p k c) (S : Kp H H') : KindAt C H' p k c := by
  obtain ⟨dx, h⟩ := h
  exact ⟨dx, S.ins _ _ _ _ _ h⟩
section
variable {X : Cx}
/-- d[k], d a written dict with text keys -/
theorem pe_kdget {d : Addr} {es : Array DictEntry} {n : Nat} {a b : Expr} {ta tb : TE} {pos : Pos} (D : KDict X.K X.w d es n) (ha : PE X a ta) (hb : PE X b tb) (hs : NoSl b) :
    PE X (.Subscript a b pos) (tOp (fun x y H Q => ∃ (z : Str) (u0 : Value) (v0 : V), x = .ref d ∧ y = .str z ∧ PySem.W.nsIn X.K d z = some (some u0) ∧ RelV v0 u0 ∧ Q v0 H) ta tb) := by
  refine ⟨fun pins s σ H Q I h => ?_⟩
  refine subD_of slot_dict_getitem.lookup hs (thn (ha.run pins s σ H _ I h) fun o s1 ⟨x, H1, I1, rx, q1⟩ => thn (hb.run pins s1 σ H1 _ I1 q1) fun i s2 ⟨y, H2, I2, ry, q2⟩ => ?_)
  have q3 := q2
  obtain ⟨z, u0, v0, rfl, rfl, e, r, q⟩ := q3
  obtain rfl : o = Value.ref d := rx
  exact ⟨kd_type D I2, op_item_kd D pins s2 σ H2 (.ref d) (.str z) _ _ Q I2 rfl ry q2⟩
end
section
variable {P : Program} {w : World} {K : PySem.W.Frag} {mg : Str → Option Value} {base : Heap} {Z : Cs} {f : Addr} {fd : FuncData}
/-! Kind.__init__ -/
abbrev PKI : List Str := ["self", "turns", "calm"]
theorem sc530 : FnScope PKI PKI (defScope (met 53 0)) := ⟨rfl, rfl, rfl, by decide +kernel, rfl, by decide +kernel, by decide +kernel⟩
def spKI (C : Addr) : Sp := fun vs H Q _ => ∃ (p dx : Addr) (q : Str × List (T3 Nat)) (c : Bool), vs = [.ref p, .str q.1, .bl c] ∧ H p = some (.ins C dx []) ∧ q ∈ lots ∧ ∀ H', But p H H' → KindAt C H' p q.1 c → Q .non H'
theorem ok530 (T : Txt K mg Z) (TL : LTxt K w mg) {kws : List (Str × V)} (F : TF K "__init__" "Kind.__init__" (met 53 0) [] kws f fd) : FnOk P w K mg base CX0 1 f fd PKI (spKI Z.K) := by
  refine F.ok sc530 (fun vs H Q E h => ?_) (fun cdv A outer s H vs Q E hr h => ?_)
  · obtain ⟨_, _, _, _, rfl, _⟩ := h
    rfl
  · obtain ⟨p, dx, q, c, rfl, hp, hq, k⟩ := h
    have cl := T.iK.cl
    obtain ⟨d, es, n, gL, D, hL⟩ := TL.ex
    obtain ⟨a, ha, _⟩ := hL q hq
    refine ⟨_, PSs.nox <| pss_cons (ps_if (PW.pt (pw_or (pt_not (pt_val (pe_isT T T.str boot_str (pv 1)))) (pw_or1 (pt_cmpR (op_notIn_kd D) (pv 1) (pe_glob (v := .ref d) (by rfl) gL rfl) rfl)))) pss_never pss_nil)
      (pss_cons (ps_if (pt_not (pt_val (pe_isT T T.bol boot_bool (pv 2)))) pss_never pss_nil)
      (pss_cons (ps_at cl T.k_turns (pv 0) (pv 1)) (pss_one (ps_at cl T.k_calm (pv 0) (pv 2))))), ?_⟩
    refine ⟨_, rfl, _, _, _, _, true, rfl, .ty _, .base (.str _), kit_ty (by decide +kernel), true, rfl, iteF ⟨_, rfl, _, _, rfl, rfl, ha, _, rfl, iteF ?_⟩⟩
    refine ⟨_, rfl, _, _, _, _, true, rfl, .ty _, .base (.bl _), kit_ty (by decide +kernel), true, rfl, iteF ?_⟩
    refine ⟨_, rfl, _, rfl, p, dx, _, rfl, hp, (by decide), _, rfl, _, rfl, p, dx, _, rfl, upd_same, (lt1000 (by kernel_rfl)), ?_⟩
    rw [upd_upd, kfs_put]
    exact k _ (.upd p H _) ⟨dx, upd_same⟩
/-! Kind.lot -/
theorem sc532 : FnScope ["self"] ["self"] (defScope (met 53 2)) := ⟨rfl, rfl, rfl, by decide +kernel, rfl, by decide +kernel, by decide +kernel⟩
def spLot (K : PySem.W.Frag) (C : Addr) : Sp := fun vs H Q _ => ∃ (p : Addr) (q : Str × List (T3 Nat)) (c : Bool), vs = [.ref p] ∧ KindAt C H p q.1 c ∧ q ∈ lots ∧ ∀ a, LotAt K H a q.2 → Q (.ref a) H
theorem ok532 (T : Txt K mg Z) (TL : LTxt K w mg) (F : TF K "lot" "Kind.lot" (met 53 2) [] [] f fd) : FnOk P w K mg base CX0 1 f fd ["self"] (spLot K Z.K) := by
  refine F.ok sc532 (fun vs H Q E h => ?_) (fun cdv A outer s H vs Q E hr h => ?_)
  · obtain ⟨_, _, _, rfl, _⟩ := h
    rfl
  · obtain ⟨p, q, c, rfl, ⟨dx, hp⟩, hq, k⟩ := h
    obtain ⟨d, es, n, gL, D, hL⟩ := TL.ex
    obtain ⟨a, ha, hA⟩ := hL q hq
    exact ⟨_, pss_one (ps_ret (pe_kdget D (pe_glob (v := .ref d) (by rfl) gL rfl) (pe_at T.iK.cl T.k_turns (pv 0)) (fun _ _ => rfl))), _, rfl, p, dx, _, _, rfl, hp, kfs_turns .., _, _, .ref a, rfl, rfl, ha, rfl, k a (hA H)⟩
theorem g532 (T : Txt K mg Z) (TL : LTxt K w mg) (G : PTxt K Z.K "lot" "Kind.lot" (met 53 2)) : PDef P w K mg base CX0 1 Z.K "lot" (spLot K Z.K) :=
  pdef G (fun _ _ _ _ _ _ us hl => match us, hl with | [_], _ => rfl) fun f fd F => ok532 T TL F
end
end K85
/-! K85K2: Kind made, images. -/
namespace K85
open PySem PySem.Spec PyProof.Rows L2
section
variable (P : Program) (w : World) (K : PySem.W.Frag) (mg : Str → Option Value) (base : Heap)
/-- the class x is made by an __init__ with keyword-only parameters ks, all of them written -/
def KDef (CX : CXT) (k n : Nat) (C : Addr) (x : Str) (ps ks : List Str) (sp : Sp) : Prop :=
  ∃ f fd g, FnOk P w K mg base CX k f fd ps sp ∧ KBn K fd ps (n + 1) ks g (fun vs zs => vs ++ zs) ∧ Mk K C f ∧ mg x = some (.ref C)
end
section
variable {X : Cx} {CX : CXT} {k n : Nat} {C : Addr} {x : Str} {ps ks : List Str} {sp : Sp} {E : XK} {p pos : Pos} {e : Expr} {es : List Expr} {kws : List Keyword} {t tk : TA}
theorem pe_ck (G : KDef X.prog X.w X.K X.mg X.base CX k n C x ps ks sp) (hr : Room (k + 1) X.A) (hx : Passes CX X E) (ha : PA X (e :: es) t) (hkw : PK X kws tk) (hg : Gl X x := by rfl)
    (hall : (backToKw pos (keywordEach kws X.env)).all (·.1.isSome) = true := by rfl) (hks : (backToKw pos (keywordEach kws X.env)).filterMap (·.1) = ks := by rfl) (hdb : (x == ("__debug__" : Str)) = false := by decide)
    (he : starEach (e :: es) X.env = (false, eval e X.env) :: starEach es X.env := by rfl) (hpl : ((backTo pos (starEach (e :: es) X.env)).any (·.1) || (backToKw pos (keywordEach kws X.env)).any (·.1.isNone)) = false := by rfl) :
    PE X (.Call (.Name x p) (e :: es) kws pos) (tMakeK C n ks.length sp (fun vs zs => vs ++ zs) E t tk) := by
  obtain ⟨f, fd, g, F, hb, M, hm⟩ := G
  exact pe_makeK M F hr hg hm hb hx ha hkw hall hks hdb he hpl
end
def enc3 (t : T3 Nat) : List Int := [t.1, t.2.1, t.2.2]
def dec3 (l : List Int) : T3 Nat := ((l.getD 0 0).toNat, (l.getD 1 0).toNat, (l.getD 2 0).toNat)
theorem dec_enc (t : T3 Nat) : dec3 (enc3 t) = t := by
  obtain ⟨x, y, z⟩ := t
  show ((x : Int).toNat, (y : Int).toNat, (z : Int).toNat) = (x, y, z)
  simp
theorem paired_map {α β γ : Type} {R : β → γ → Prop} {f : α → β} {g : α → γ} : ∀ {l : List α}, (∀ p ∈ l, R (f p) (g p)) → Paired R (l.map f) (l.map g)
  | [], _ => .nil
  | p :: r, h => .cons (h p List.mem_cons_self) (paired_map fun q hq => h q (List.mem_cons_of_mem _ hq))
/-- the values xs are tuples of exactly the images of t -/
def ImgsAt (K : PySem.W.Frag) (H : Hp) (xs : List V) (L : List (T3 Nat)) (t : T3 Nat) : Prop := ∃ is, Paired (TupN K H) xs is ∧ (∀ i ∈ is, ∃ u ∈ L, i = img u t) ∧ ∀ u ∈ L, img u t ∈ is
theorem lots_lt : ∀ q ∈ lots, q.2.length ≤ 6 ∧ ∀ u ∈ q.2, u.1 < 3 ∧ u.2.1 < 3 ∧ u.2.2 < 3 := by decide
theorem at3 {t : T3 Nat} {n : Nat} (h : n < 3) : atI ([.int t.1, .int t.2.1, .int t.2.2] : List V) (n : Int) = some (.int (pick t n : Nat)) := by
  refine atI_nat ?_
  match n, h with
  | 0, _ => rfl
  | 1, _ => rfl
  | 2, _ => rfl
section
variable {P : Program} {w : World} {K : PySem.W.Frag} {mg : Str → Option Value} {base : Heap} {Z : Cs} {f : Addr} {fd : FuncData}
theorem g530 (T : Txt K mg Z) (TL : LTxt K w mg) {v : V} (G : CTxt K mg Z.K "Kind" "Kind.__init__" (met 53 0) [] [("calm", v)]) : KDef P w K mg base CX0 1 1 Z.K "Kind" PKI ["calm"] (spKI Z.K) := by
  obtain ⟨f, fd, F, M, hm⟩ := G
  obtain ⟨mv, kb⟩ := F.kbinds0 (ps := PKI) 2 ["calm"] [] (fun {α} us mv ws => us ++ ws) (by simp) (by simp) (fun r1 r2 r3 => r1.append r3) fun D doc pm an cdv ct us mv ws l1 l2 l3 => match us, mv, ws, l1, l2, l3 with
    | [_, _], [], [_], _, _, _ => rfl
  exact ⟨f, fd, _, ok530 T TL F, kb, M, hm⟩
abbrev N533 : List Str := ["self", "triple", "thing", "i", "j", "k"]
theorem sc533 : FnScope N533 ["self", "triple"] (defScope (met 53 3)) := ⟨rfl, rfl, rfl, by decide +kernel, rfl, by decide +kernel, by decide +kernel⟩
def spImg (K : PySem.W.Frag) (C : Addr) : Sp := fun vs H Q _ => ∃ (p t : Addr) (q : Str × List (T3 Nat)) (c : Bool) (tt : T3 Nat), vs = [.ref p, .ref t] ∧ KindAt C H p q.1 c ∧ q ∈ lots ∧ TupN K H (.ref t) tt ∧ tt.1 < 1000 ∧ tt.2.1 < 1000 ∧ tt.2.2 < 1000 ∧
  ∀ H' r xs, Same H H' → SqT K H' r xs → xs.length ≤ 6 → ImgsAt K H' xs q.2 tt → Q (.ref r) H'
theorem ok533 (T : Txt K mg Z) (G33 : GDef P w K mg base CX0 1 "is_integer" ["value"] [] spInt) (G36 : GDef P w K mg base CX0 1 "is_row" ["value", "length"] [] (spRow K)) (G532 : PDef P w K mg base CX0 1 Z.K "lot" (spLot K Z.K))
    (F : TF K "images" "Kind.images" (met 53 3) [] [] f fd) : FnOk P w K mg base CX0 3 f fd ["self", "triple"] (spImg K Z.K) := by
  refine F.ok sc533 (fun vs H Q E h => ?_) (fun cdv A outer s H vs Q E hr h => ?_)
  · obtain ⟨_, _, _, _, _, rfl, _⟩ := h
    rfl
  · obtain ⟨p, t, q, c, tt, rfl, hp, hq, ⟨t', e, ht⟩, b1, b2, b3, k⟩ := h
    cases e
    have hu := hu_of hr
    refine ⟨_, PSs.nox <| pss_cons (ps_if (PW.pt (pw_or (pt_not (pt_val (pe_g G36 (hr.mono (by decide)) pass0 (pa_cons (pv 1) (pa_cons pe_int pa_nil))))) (pw_or1 (pt_not (pt_val (pe_b (cr_all rfl) T.all (by decide +kernel) (pa_cons (pe_lc (own := [("thing", 2)]) (g := gName 2) (tt := tYes) (by rfl) sc533.nd (pi_tup (pv 1))
        (blkOk_by (N := N533) (sc := defScope (met 53 3)) (by decide +kernel)) (fun _ _ _ _ _ => pg_name (i := 2) sc533.nd rfl (Or.inl rfl)) (fun _ _ _ _ _ => pts_nil) (fun _ _ _ _ _ => pe_g G33 (hr.mono (by decide)) pass0 (pa_cons (pv 2) pa_nil))) pa_nil))))))) pss_never pss_nil)
      (pss_one (ps_ret (pe_callTy call_tuple_of (by rfl) T.tup boot_tuple (pa_cons (pe_b (cr_sortedT rfl) T.srt boot_sorted (pa_cons (pe_scT (own := [("i", 3), ("j", 4), ("k", 5)]) (g := gTup K 3 (gCons (gName 3) (gCons (gName 4) (gCons (gName 5) gNil)))) (tt := tYes) hu (by rfl) sc533.nd
        (pi_tup (pe_pr G532 T.iK.cl hr pass0 (pv 0))) (blkOk_by (N := N533) (sc := defScope (met 53 3)) (by decide +kernel))
        (fun _ _ _ _ _ => pg_tup rfl (pgs_cons (pg_name (i := 3) sc533.nd rfl (Or.inl rfl)) (pgs_cons (pg_name (i := 4) sc533.nd rfl (Or.inl rfl)) (pgs_cons (pg_name (i := 5) sc533.nd rfl (Or.inl rfl)) pgs_nil)))) (fun _ _ _ _ _ => pts_nil)
        (fun _ _ _ _ _ => pe_tup (pa_cons (pe_ix (r := rIxT K) ix_tup (pv 1) (pv 3) (fun _ _ => rfl)) (pa_cons (pe_ix (r := rIxT K) ix_tup (pv 1) (pv 4) (fun _ _ => rfl)) (pa_cons (pe_ix (r := rIxT K) ix_tup (pv 1) (pv 5) (fun _ _ => rfl)) pa_nil))))) pa_nil)) pa_nil)))), ?_⟩
    refine ⟨_, rfl, t, _, 3, rfl, ht, rfl, true, rfl, iteF ⟨_, rfl, t, rfl, ⟨_, ht⟩, fun D hD => ?_⟩⟩
    refine cc_it walk_tup (fun i H' => Same H H' ∧ H' D = some (.lst ((List.replicate i true).map V.bl))) ⟨.new hD, upd_same⟩ (fun i H' _ h => h.1.tup ht) ?_ ?_
    · rintro i x _ H1 hi ⟨S, e⟩ ⟨rfl, ex⟩
      have hx : ∃ j : Int, x = .int j := by
        have := List.mem_of_getElem? ex
        simp only [List.mem_cons, List.not_mem_nil, or_false] at this
        rcases this with rfl | rfl | rfl <;> exact ⟨_, rfl⟩
      obtain ⟨j, rfl⟩ := hx
      refine ⟨rfl, _, rfl, j, rfl, _, e, small1000 (by simp at hi ⊢; omega), S.at hD, ?_⟩
      rw [upd_same, List.replicate_succ', List.map_append]
      rfl
    · rintro H1 ⟨S1, e⟩
      refine ⟨D, _, rfl, .inl (.inl e), ?_⟩
      rw [show ∀ n, (List.replicate n true).all id = true from fun n => by simp]
      refine ⟨true, rfl, iteF ?_⟩
      have hp1 := hp.kp S1.kp
      have ht1 := S1.tup ht
      obtain ⟨dx, hp1'⟩ := id hp1
      refine ⟨_, rfl, p, dx, _, rfl, hp1', p, q, c, rfl, hp1, hq, fun a ⟨ls, hls, hpl⟩ => ⟨a, rfl, ⟨_, hls⟩, fun D2 hD2 => ?_⟩⟩
      have ll : ls.length = q.2.length := Paired.length hpl
      obtain ⟨l6, llt⟩ := lots_lt q hq
      refine cc_it walk_tup (fun i H' => Same H1 H' ∧ ∃ L, H' D2 = some (SetTO P w D2 L) ∧ (∀ p ∈ L, SqT K H' p.1 (p.2.map V.int)) ∧ L.length ≤ i ∧ (∀ p ∈ L, ∃ u ∈ q.2, p.2 = enc3 (img u tt)) ∧ ∀ j u, j < i → q.2[j]? = some u → enc3 (img u tt) ∈ L.map (·.2))
        ⟨.new hD2, [], upd_same, fun p hp => (absurd hp List.not_mem_nil), Nat.zero_le _, (fun p hp => absurd hp List.not_mem_nil), fun j _ h => absurd h (Nat.not_lt_zero _)⟩ (fun i H' _ h => h.1.tup hls) ?_ ?_
      · rintro i x _ H2 hi ⟨S2, L, hL, hLt, hLl, hL1, hL2⟩ ⟨rfl, ex⟩
        obtain ⟨u, eu, b, rfl, hb⟩ := paired_at hpl ex
        have hum := List.mem_of_getElem? eu
        obtain ⟨u1, u2, u3⟩ := llt u hum
        have ht2 := S2.tup ht1
        refine ⟨b, _, rfl, S2.tup hb, rfl, _, _, rfl, _, _, rfl, _, _, rfl, rfl, rfl, _, rfl, _, rfl, t, _, _, _, rfl, rfl, ht2, at3 u1, _, rfl, _, rfl, t, _, _, _, rfl, rfl, ht2, at3 u2, _, rfl, _, rfl, t, _, _, _, rfl, rfl, ht2, at3 u3, line1000 (by simp), fun tp htp => ?_⟩
        have SN := Same.new (o := .tup [.int (pick tt u.1 : Nat), .int (pick tt u.2.1 : Nat), .int (pick tt u.2.2 : Nat)]) htp
        have nT : D2 ≠ tp := fun e => by rw [← e, hL] at htp; cases htp
        refine ⟨L, tp, enc3 (img u tt), rfl, .inl (.inl upd_same), by rw [upd_ne nT]; exact hL, fun p hp => SN.tup (hLt p hp), by rw [← ll] at l6; omega, fun hin => ?_, fun hni L' hp' => ?_⟩
        · refine ⟨S2.trans SN, L, by rw [upd_ne nT]; exact hL, fun p hp => SN.tup (hLt p hp), by omega, hL1, fun j u' hj eu' => ?_⟩
          by_cases hji : j < i
          · exact hL2 j u' hji eu'
          · have : j = i := by omega
            subst this
            rw [eu] at eu'
            cases eu'
            exact hin
        · refine ⟨(S2.trans SN).at hD2, L', upd_same, fun p hp => ?_, by rw [hp'.length_eq]; simp; omega, fun p hp => ?_, fun j u' hj eu' => ?_⟩
          · refine tup_upd (fun o e => by rw [upd_ne nT, hL] at e; cases e; exact id) ?_
            rcases List.mem_cons.mp (hp'.mem_iff.mp hp) with rfl | h
            · exact .inl (.inl upd_same)
            · exact SN.tup (hLt p h)
          · rcases List.mem_cons.mp (hp'.mem_iff.mp hp) with rfl | h
            · exact ⟨u, hum, rfl⟩
            · exact hL1 p h
          · refine (hp'.map (·.2)).mem_iff.mpr ?_
            by_cases hji : j < i
            · exact List.mem_cons_of_mem _ (hL2 j u' hji eu')
            · have : j = i := by omega
              subst this
              rw [eu] at eu'
              cases eu'
              exact List.mem_cons_self
      · rintro H2 ⟨S2, L, hL, hLt, hLl, hL1, hL2⟩
        refine ⟨D2, L, 3, 1000, rfl, hL, hLt, by decide, fun p hp => ?_, fun L' r hperm _ _ _ hr' => ?_⟩
        · obtain ⟨u, hu', e⟩ := hL1 p hp
          obtain ⟨u1, u2, u3⟩ := llt u hu'
          have hb : ∀ n, n < 3 → pick tt n < 1000 := fun n hn => match n, hn with
            | 0, _ => b1
            | 1, _ => b2
            | 2, _ => b3
          have c1 := hb _ u1
          have c2 := hb _ u2
          have c3 := hb _ u3
          rw [e]
          refine ⟨rfl, fun m hm => ?_⟩
          have hm : m ∈ [((pick tt u.1 : Nat) : Int), ((pick tt u.2.1 : Nat) : Int), ((pick tt u.2.2 : Nat) : Int)] := hm
          simp only [List.mem_cons, List.not_mem_nil, or_false] at hm
          rcases hm with rfl | rfl | rfl <;> omega
        · refine ⟨r, _, rfl, .inl ⟨.inl (.inl upd_same), fun l hl => k _ l _ (((S1.trans S2).trans (.new hr')).trans (.new hl)) (.inl (.inl upd_same)) ?_ ?_⟩⟩
          · rw [List.length_map, hperm.length_eq]
            omega
          · have SF : ∀ {b ys}, SqT K H2 b ys → SqT K (upd (upd H2 r (.lst (L'.map fun q => V.ref q.1))) l (.tup (L'.map fun q => V.ref q.1))) b ys := fun h => (Same.trans (.new hr') (.new hl)).tup h
            refine ⟨L'.map fun p => dec3 p.2, paired_map fun p hp => ?_, fun i hi => ?_, fun u hu' => ?_⟩
            · have hp := hperm.mem_iff.mp hp
              obtain ⟨u, hu', e⟩ := hL1 p hp
              have := hLt p hp
              rw [e] at this
              rw [e, dec_enc]
              exact ⟨p.1, rfl, SF this⟩
            · obtain ⟨p, hp, rfl⟩ := List.mem_map.mp hi
              obtain ⟨u, hu', e⟩ := hL1 p (hperm.mem_iff.mp hp)
              exact ⟨u, hu', by rw [e, dec_enc]⟩
            · obtain ⟨j, ej⟩ := List.mem_iff_getElem?.mp hu'
              have hj := (List.getElem?_eq_some_iff.mp ej).1
              obtain ⟨p, hp, e⟩ := List.mem_map.mp (hL2 j u (by omega) ej)
              exact List.mem_map.mpr ⟨p, hperm.mem_iff.mpr hp, by rw [e, dec_enc]⟩
theorem g533 (T : Txt K mg Z) (G33 : GDef P w K mg base CX0 1 "is_integer" ["value"] [] spInt) (G36 : GDef P w K mg base CX0 1 "is_row" ["value", "length"] [] (spRow K)) (G532 : PDef P w K mg base CX0 1 Z.K "lot" (spLot K Z.K)) (G : MTxt K Z.K "Kind" "images" "Kind.images" (met 53 3) [] []) :
    MDef P w K mg base CX0 3 Z.K "images" ["self", "triple"] [] (spImg K Z.K) := mdef G (fun _ _ _ _ _ _ us hl => match us, hl with | [_, _], _ => rfl) fun f fd F => ok533 T G33 G36 G532 F
end
end K85
/-! K85B: keys_of, table_of. -/
namespace K85
open PySem PySem.Spec PyProof.Rows L2
/-- the key of the place p -/
def kk (t : T3 Nat) (p : Nat) : List Key := [.inl p, .inl (oth t p).1, .inl (oth t p).2]
theorem kk_inj {t t' : T3 Nat} {p p' : Nat} (h : kk t p = kk t' p') : p = p' ∧ oth t p = oth t' p' := by
  unfold kk at h
  injection h with h1 h
  injection h with h2 h
  injection h with h3 _
  injection h1 with h1
  injection h2 with h2
  injection h3 with h3
  exact ⟨by omega, Prod.ext (by omega) (by omega)⟩
/-- x is the pair of t's key at the place p, and t's thing there -/
def KeyAt (K : PySem.W.Frag) (H : Hp) (t : T3 Nat) (x : V) (p : Nat) : Prop := p < 3 ∧ ∃ a b, x = .ref a ∧ SqT K H a [.ref b, .int (pick t p : Nat)] ∧ H b = some (.tup ((kk t p).map kV))
section
variable {P : Program} {w : World} {K : PySem.W.Frag} {mg : Str → Option Value} {base : Heap} {Z : Cs} {f : Addr} {fd : FuncData}
theorem KeyAt.same {H H' : Hp} {t : T3 Nat} {x : V} {p : Nat} (h : KeyAt K H t x p) (S : Same H H') : KeyAt K H' t x p := by
  obtain ⟨hp, a, b, e, h1, h2⟩ := h
  exact ⟨hp, a, b, e, S.tup h1, S _ _ h2⟩
abbrev N56 : List Str := ["triple", "first", "second", "mixed"]
theorem sc56 : FnScope N56 ["triple"] (defScope (top 56)) := ⟨rfl, rfl, rfl, by decide +kernel, rfl, by decide +kernel, by decide +kernel⟩
def spKeys (K : PySem.W.Frag) : Sp := fun vs H Q _ => ∃ (t : Addr) (tt : T3 Nat), vs = [.ref t] ∧ TupN K H (.ref t) tt ∧ ∀ H' l xs, Same H H' → H' l = some (.lst xs) → Paired (KeyAt K H' tt) xs [0, 1, 2] → Q (.ref l) H'
theorem ok56 (T : Txt K mg Z) (F : TF K "keys_of" "keys_of" (top 56) [] [] f fd) : FnOk P w K mg base CX0 1 f fd ["triple"] (spKeys K) := by
  refine F.ok sc56 (fun vs H Q E h => ?_) (fun cdv A outer s H vs Q E hr h => ?_)
  · obtain ⟨_, _, rfl, _⟩ := h
    rfl
  · obtain ⟨t, ⟨x, y, z⟩, rfl, ⟨t', e, ht⟩, q⟩ := h
    cases e
    refine ⟨_, PSs.nox <| pss_cons (ps_asg (pv 0) (pg_tup rfl (pgs_cons (pg_name (i := 1) sc56.nd rfl (Or.inl rfl)) (pgs_cons (pg_name (i := 2) sc56.nd rfl (Or.inl rfl)) (pgs_cons (pg_name (i := 3) sc56.nd rfl (Or.inl rfl)) pgs_nil)))))
      (pss_one (ps_ret (pe_lst (pa_cons (pe_tup (pa_cons (pe_tup (pa_cons pe_int (pa_cons (pv 2) (pa_cons (pv 3) pa_nil)))) (pa_cons (pv 1) pa_nil)))
        (pa_cons (pe_tup (pa_cons (pe_tup (pa_cons pe_int (pa_cons (pv 1) (pa_cons (pv 3) pa_nil)))) (pa_cons (pv 2) pa_nil)))
        (pa_cons (pe_tup (pa_cons (pe_tup (pa_cons pe_int (pa_cons (pv 1) (pa_cons (pv 2) pa_nil)))) (pa_cons (pv 3) pa_nil))) pa_nil)))))), ?_⟩
    refine ⟨_, rfl, t, _, rfl, ht, rfl, _, _, rfl, _, _, rfl, _, _, rfl, rfl, ?_⟩
    refine ⟨_, rfl, _, rfl, line1000 (by simp), fun a1 h1 => ⟨_, rfl, line1000 (by simp), fun b1 g1 => ⟨_, rfl, _, rfl, line1000 (by simp), fun a2 h2 => ⟨_, rfl, line1000 (by simp), fun b2 g2 => ⟨_, rfl, _, rfl, line1000 (by simp), fun a3 h3 => ⟨_, rfl, line1000 (by simp), fun b3 g3 => ⟨line1000 (by simp), fun l hl => ?_⟩⟩⟩⟩⟩⟩⟩
    have S1 := Same.new (o := .tup [.int 0, .int y, .int z]) h1
    have S2 := Same.new (o := .tup [.ref a1, .int x]) g1
    have S3 := Same.new (o := .tup [.int 1, .int x, .int z]) h2
    have S4 := Same.new (o := .tup [.ref a2, .int y]) g2
    have S5 := Same.new (o := .tup [.int 2, .int x, .int y]) h3
    have S6 := Same.new (o := .tup [.ref a3, .int z]) g3
    have S7 := Same.new (o := .lst [.ref b1, .ref b2, .ref b3]) hl
    have R6 := S6.trans S7
    have R5 := S5.trans R6
    have R4 := S4.trans R5
    have R3 := S3.trans R4
    have R2 := S2.trans R3
    refine q _ l _ (S1.trans R2) upd_same (.cons ⟨by decide, b1, a1, rfl, .inl (.inl (R3 _ _ upd_same)), R2 _ _ upd_same⟩ (.cons ⟨by decide, b2, a2, rfl, .inl (.inl (R5 _ _ upd_same)), R4 _ _ upd_same⟩ (.cons ⟨by decide, b3, a3, rfl, .inl (.inl (S7 _ _ upd_same)), R6 _ _ upd_same⟩ .nil)))
theorem g56 (T : Txt K mg Z) (G : GTxt K mg "keys_of" (top 56) [] []) : GDef P w K mg base CX0 1 "keys_of" ["triple"] [] (spKeys K) := gdef G (fun _ _ _ _ _ _ us hl => match us, hl with | [_], _ => rfl) fun f fd F => ok56 T F
end
end K85
/-! K85B2: table_of. -/
namespace K85
open PySem PySem.Spec PyProof.Rows L2
/-- the table holds t's key at the place p, with t's thing there -/
def Ent (kvs : List (List Key × V)) (t : T3 Nat) (p : Nat) : Prop := valV kvs (kk t p) = some (.int (pick t p : Nat))
theorem ent_new (kvs : List (List Key × V)) (t : T3 Nat) (p : Nat) : Ent (putK kvs (kk t p) (.int (pick t p : Nat))) t p := by
  unfold Ent
  rw [valV_put, if_pos rfl]
theorem ent_put {kvs : List (List Key × V)} {t t' : T3 Nat} {p p' : Nat} (h : ∀ v, valV kvs (kk t p) = some v → v = .int (pick t p : Nat)) (e : Ent kvs t' p') : Ent (putK kvs (kk t p) (.int (pick t p : Nat))) t' p' := by
  unfold Ent at e ⊢
  rw [valV_put]
  split
  · rename_i ek
    rw [ek] at e
    rw [h _ e]
  · exact e
theorem nc_ent {c : Bool} {L ts : List (T3 Nat)} {n : Nat} {kvs : List (List Key × V)} (hd : c = true → ∀ x, x < n → ∀ p, p < 3 → Ent kvs (x, x, x) p) (hn : ∀ t ∈ ts, t.1 < n ∧ t.2.1 < n ∧ t.2.2 < n) (hL : ∀ u ∈ L, u.1 < 3 ∧ u.2.1 < 3 ∧ u.2.2 < 3)
    (h : ∀ t ∈ ts, ∀ u ∈ L, ∀ p, p < 3 → Ent kvs (img u t) p) : NC L c ts := by
  refine ⟨fun t ht a ha t' ht' a' ha' p hp e => ?_, fun hc t ht a ha p hp e => ?_⟩
  · have h1 := h t ht a ha p hp
    have h2 := h t' ht' a' ha' p hp
    have ek : kk (img a t) p = kk (img a' t') p := by
      unfold kk
      rw [e]
    unfold Ent at h1 h2
    rw [ek, h2] at h1
    injection h1 with h1
    injection h1 with h1
    omega
  · have h1 := h t ht a ha p hp
    have hx : (oth (img a t) p).1 < n := by
      obtain ⟨n1, n2, n3⟩ := hn t ht
      have hb : ∀ m, pick t m < n := fun m => match m with
        | 0 => n1
        | 1 => n2
        | _ + 2 => n3
      match p, hp with
      | 0, _ => exact hb _
      | 1, _ => exact hb _
      | 2, _ => exact hb _
    have h2 := hd hc _ hx p hp
    have ek : kk (img a t) p = kk ((oth (img a t) p).1, (oth (img a t) p).1, (oth (img a t) p).1) p := by
      match p, hp with
      | 0, _ => simp only [kk, oth] at e ⊢; rw [← e]
      | 1, _ => simp only [kk, oth] at e ⊢; rw [← e]
      | 2, _ => simp only [kk, oth] at e ⊢; rw [← e]
    unfold Ent at h1 h2
    rw [ek, h2] at h1
    injection h1 with h1
    injection h1 with h1
    have e3 : ∀ x : Nat, pick (x, x, x) p = x := fun x => by
      match p, hp with
      | 0, _ => rfl
      | 1, _ => rfl
      | 2, _ => rfl
    rw [e3] at h1
    omega
theorem pick3 (x : Nat) {p : Nat} (hp : p < 3) : pick (x, x, x) p = x := by
  match p, hp with
  | 0, _ => rfl
  | 1, _ => rfl
  | 2, _ => rfl
theorem at012 {j p : Nat} (h : ([0, 1, 2] : List Nat)[j]? = some p) : p = j ∧ j < 3 := by
  match j, h with
  | 0, h => cases h; exact ⟨rfl, by decide⟩
  | 1, h => cases h; exact ⟨rfl, by decide⟩
  | 2, h => cases h; exact ⟨rfl, by decide⟩
theorem rng62 {n : Nat} (h : n ≤ 1000) : -2 ^ 62 ≤ (n : Int) ∧ (n : Int) < 2 ^ 62 := by
  constructor <;> omega
/-- the values of the table are whole numbers -/
def IntV (kvs : List (List Key × V)) : Prop := ∀ k v, valV kvs k = some v → ∃ m : Nat, v = .int m
theorem IntV.put {kvs : List (List Key × V)} (h : IntV kvs) (k : List Key) (m : Nat) : IntV (putK kvs k (.int m)) := fun k' v e => by
  rw [valV_put] at e
  split at e
  · cases e; exact ⟨m, rfl⟩
  · exact h k' v e
/-- a step that changes no object but D -/
theorem But.seqT {K : PySem.W.Frag} {D : Addr} {H H' : Hp} {a : Addr} {xs : List V} (B : But D H H') (hd : ∀ o, H D = some o → ¬ TupO o) (h : SqT K H a xs) : SqT K H' a xs := by
  rcases h with (h | ⟨o, h⟩) | h
  · exact .inl (.inl (B _ _ h fun e => hd (.tup xs) (by rw [← e]; exact h) trivial))
  · exact .inl (.inr ⟨o, B _ _ h fun e => hd (.frz o (.tup xs)) (by rw [← e]; exact h) trivial⟩)
  · exact .inr h
theorem KeyAt.but {K : PySem.W.Frag} {D : Addr} {H H' : Hp} {t : T3 Nat} {x : V} {p : Nat} (h : KeyAt K H t x p) (B : But D H H') (hd : ∀ o, H D = some o → ¬ TupO o) : KeyAt K H' t x p := by
  obtain ⟨hp, a, b, e, h1, h2⟩ := h
  exact ⟨hp, a, b, e, B.seqT hd h1, B _ _ h2 fun e => hd (.tup ((kk t p).map kV)) (by rw [← e]; exact h2) trivial⟩
theorem TupN.but {K : PySem.W.Frag} {D : Addr} {H H' : Hp} {t : T3 Nat} {x : V} (h : TupN K H x t) (B : But D H H') (hd : ∀ o, H D = some o → ¬ TupO o) : TupN K H' x t := by
  obtain ⟨b, e, h1⟩ := h
  exact ⟨b, e, B.seqT hd h1⟩
theorem dT_noT {H : Hp} {D : Addr} {kvs : List (List Key × V)} (h : H D = some (.dT kvs)) : ∀ o, H D = some o → ¬ TupO o := fun o e => by
  rw [h] at e
  cases e
  exact id
section
variable {P : Program} {w : World} {K : PySem.W.Frag} {mg : Str → Option Value} {base : Heap} {Z : Cs} {f : Addr} {fd : FuncData}
abbrev N57 : List Str := ["kind", "size", "triples", "table", "thing", "key", "worth", "index", "triple", "image"]
theorem sc57 : FnScope N57 ["kind", "size", "triples"] (defScope (top 57)) := ⟨rfl, rfl, rfl, by decide +kernel, rfl, by decide +kernel, by decide +kernel⟩
def spTable (K : PySem.W.Frag) (C : Addr) : Sp := fun vs H Q _ => ∃ (p l n : Nat) (q : Str × List (T3 Nat)) (c : Bool) (xs : List V) (ts : List (T3 Nat)), vs = [.ref p, .int n, .ref l] ∧ KindAt C H p q.1 c ∧ q ∈ lots ∧ SqL K H l xs ∧ Paired (TupN K H) xs ts ∧ ts.length ≤ 30 ∧ n ≤ 100 ∧
  (∀ t ∈ ts, t.1 < n ∧ t.2.1 < n ∧ t.2.2 < n) ∧ (∀ H' r d (i : Nat), Same H H' → SqT K H' r [d, .int i] → i < ts.length → Q (.ref r) H') ∧ ∀ H' r d, Same H H' → SqT K H' r [d, .non] → NC q.2 c ts → Q (.ref r) H'
/-- the slots of table_of -/
def S57 (p n l D : Nat) (σ : L2.St) : Prop := ∃ x4 x5 x6 x7 x8 x9, σ = [some (.ref p), some (.int n), some (.ref l), some (.ref D), x4, x5, x6, x7, x8, x9]
theorem ok57 (T : Txt K mg Z) (G56 : GDef P w K mg base CX0 1 "keys_of" ["triple"] [] (spKeys K)) (G533 : MDef P w K mg base CX0 3 Z.K "images" ["self", "triple"] [] (spImg K Z.K)) (F : TF K "table_of" "table_of" (top 57) [] [] f fd) :
    FnOk P w K mg base CX0 4 f fd ["kind", "size", "triples"] (spTable K Z.K) := by
  refine F.ok sc57 (fun vs H Q E h => ?_) (fun cdv A outer s H vs Q E hr h => ?_)
  · obtain ⟨_, _, _, _, _, _, _, rfl, _⟩ := h
    rfl
  · obtain ⟨p, l, n, q, c, xs, ts, rfl, hp, hq, hxs, hts, t30, n100, hn, k1, k2⟩ := h
    have hu := hu_of hr
    refine ⟨_, PSs.nox <| pss_cons (ps_set (i := 3) sc57.nd rfl (Or.inl rfl) pe_dnewT)
      (C8.pss_cut (ps_if (pt_val (pe_at T.iK.cl T.k_calm (pv 0)))
          (pss_one (ps_for PassesOwn.never rfl (pi_range1 rfl T.ran (pa_cons (pv 1) pa_nil)) (pg_name (i := 4) sc57.nd rfl (Or.inl rfl))
            (pss_one (ps_for PassesOwn.never rfl (pi_list (pe_g G56 (hr.mono (by decide)) pass0 (pa_cons (pe_tup (pa_cons (pv 4) (pa_cons (pv 4) (pa_cons (pv 4) pa_nil)))) pa_nil))) (pg_tup rfl (pgs_cons (pg_name (i := 5) sc57.nd rfl (Or.inl rfl)) (pgs_cons (pg_name (i := 6) sc57.nd rfl (Or.inl rfl)) pgs_nil)))
              (pss_one (ps_dput hu (pv 3) (pv 5) (pv 6) rfl)))))) pss_nil)
      (pss_cons (ps_for PassesOwn.never rfl (pi_enum (by rfl) T.enu (pa_cons (pv 2) pa_nil)) (pg_tup rfl (pgs_cons (pg_name (i := 7) sc57.nd rfl (Or.inl rfl)) (pgs_cons (pg_name (i := 8) sc57.nd rfl (Or.inl rfl)) pgs_nil)))
          (pss_one (ps_for PassesOwn.never rfl (pi_tup (pe_m G533 T.iK.cl hr pass0 (pv 0) (pa_cons (pv 8) pa_nil))) (pg_name (i := 9) sc57.nd rfl (Or.inl rfl))
            (pss_one (ps_for PassesOwn.never rfl (pi_list (pe_g G56 (hr.mono (by decide)) pass0 (pa_cons (pv 9) pa_nil))) (pg_tup rfl (pgs_cons (pg_name (i := 5) sc57.nd rfl (Or.inl rfl)) (pgs_cons (pg_name (i := 6) sc57.nd rfl (Or.inl rfl)) pgs_nil)))
              (pss_cons (ps_if (pt_cmpR op_ne (pe_dget2 hu (pv 3) (pv 5) (pv 6) ⟨by rfl, by rfl, by rfl, by rfl⟩) (pv 6) (nomark _)) (pss_one (ps_ret (pe_tup (pa_cons (pv 3) (pa_cons (pv 7) pa_nil))))) pss_nil)
                (pss_one (ps_dput hu (pv 3) (pv 5) (pv 6) rfl))))))))
      (pss_one (ps_ret (pe_tup (pa_cons (pv 3) (pa_cons pe_non pa_nil))))))), ?_⟩
    intro D hD
    refine ⟨fun σ' H' => S57 p n l D σ' ∧ Same H H' ∧ ∃ kvs, H' D = some (.dT kvs) ∧ kvs.length ≤ 300 ∧ IntV kvs ∧ (c = true → ∀ x, x < n → ∀ p, p < 3 → Ent kvs (x, x, x) p), ?_, ?_⟩
    · obtain ⟨dx, hp0⟩ := hp
      have S0 := Same.new (o := .dT []) hD
      refine ⟨_, rfl, p, dx, _, _, rfl, S0 _ _ hp0, kfs_calm .., c, rfl, ?_⟩
      cases c with
      | false => exact iteF ⟨⟨_, _, _, _, _, _, rfl⟩, S0, [], upd_same, Nat.zero_le _, (fun k v e => nomatch e), fun z => nomatch z⟩
      | true =>
        refine iteT ⟨_, rfl, (n : Int), rfl, (rng62 (by omega)).1, (rng62 (by omega)).2, ?_⟩
        refine for_it (walk_range (lo := 0) (n := n)) (fun i σ H' => S57 p n l D σ ∧ Same H H' ∧ ∃ kvs, H' D = some (.dT kvs) ∧ kvs.length ≤ 3 * i ∧ (∀ k v, valV kvs k = some v → ∃ x p, p < 3 ∧ k = kk (x, x, x) p ∧ v = .int (x : Nat)) ∧ ∀ x, x < i → ∀ p, p < 3 → Ent kvs (x, x, x) p)
          ⟨⟨_, _, _, _, _, _, rfl⟩, S0, [], upd_same, Nat.zero_le _, (fun k v e => nomatch e), fun x hx => absurd hx (Nat.not_lt_zero _)⟩ (fun _ _ _ _ _ => trivial) ?_ ?_
        · rintro i x σ _ H1 hi ⟨⟨x4, x5, x6, x7, x8, x9, rfl⟩, S1, kvs, hk, hl, honly, hent⟩ ⟨rfl, ex⟩
          have ex : x = .int (i : Nat) := by rw [ex]; simp
          subst ex
          refine ⟨_, rfl, _, rfl, _, rfl, line1000 (by simp), fun t3 ht3 => ⟨t3, (i, i, i), rfl, ⟨t3, rfl, .inl (.inl upd_same)⟩, fun H3 ly ys S3 hly hys => ⟨ly, rfl, ⟨_, .inl (.inl hly)⟩, ?_⟩⟩⟩
          have S13 : Same H1 H3 := (Same.new ht3).trans S3
          have hk3 := S13 _ _ hk
          have yl : ys.length = 3 := Paired.length hys
          refine for_it walk_list (fun j σ H' => S57 p n l D σ ∧ But D H3 H' ∧ Same H H' ∧ ∃ kvs, H' D = some (.dT kvs) ∧ kvs.length ≤ 3 * i + j ∧ (∀ k v, valV kvs k = some v → ∃ x p, p < 3 ∧ k = kk (x, x, x) p ∧ v = .int (x : Nat)) ∧ (∀ x, x < i → ∀ p, p < 3 → Ent kvs (x, x, x) p) ∧ ∀ a, a < j → Ent kvs (i, i, i) a)
            ⟨⟨_, _, _, _, _, _, rfl⟩, .refl D H3, S1.trans S13, kvs, hk3, by omega, honly, hent, fun a ha => absurd ha (Nat.not_lt_zero _)⟩ (fun j σ H' _ h => .inl (.inl (h.2.1 _ _ hly (ne_of hly hk3 (by intro z; cases z))))) ?_ ?_
          · rintro j y σ _ H4 hj ⟨⟨x4, x5, x6, x7, x8, x9, rfl⟩, B, S4, kvs, hk, hl, honly, hent, hj2⟩ ⟨rfl, ey⟩
            obtain ⟨p', ep, hkey⟩ := paired_at hys ey
            obtain ⟨rfl, hp3⟩ := at012 ep
            obtain ⟨_, a, b, rfl, h1, h2⟩ := hkey.but B (dT_noT hk3)
            refine ⟨a, _, rfl, h1, rfl, _, _, rfl, _, _, rfl, rfl, _, rfl, _, rfl, _, rfl, D, _, rfl, DPut.t hk h2 (small1000 (by omega)), ⟨_, _, _, _, _, _, rfl⟩, B.trans (.upd D _ _), S4.at hD, _, upd_same, ?_, fun k v e => ?_, fun x hx p hp => ?_, fun a ha => ?_⟩
            · have := length_putK kvs (kk (i, i, i) p') (.int (pick (i, i, i) p' : Nat))
              omega
            · rw [valV_put] at e
              split at e
              · rename_i ek
                cases e
                exact ⟨i, p', hp3, ek, by rw [pick3 i hp3]⟩
              · exact honly k v e
            · refine ent_put (fun v e => ?_) (hent x hx p hp)
              obtain ⟨x', p2, hp2, ek, rfl⟩ := honly _ v e
              obtain ⟨rfl, eo⟩ := kk_inj ek
              rw [pick3 i hp3]
              have : i = x' := by
                match p', hp3 with
                | 0, _ => exact congrArg Prod.fst eo
                | 1, _ => exact congrArg Prod.fst eo
                | 2, _ => exact congrArg Prod.fst eo
              rw [this]
            · by_cases haj : a < p'
              · refine ent_put (fun v e => ?_) (hj2 a haj)
                obtain ⟨x', p2, hp2, ek, rfl⟩ := honly _ v e
                obtain ⟨rfl, eo⟩ := kk_inj ek
                rw [pick3 i hp3]
                have : i = x' := by
                  match p', hp3 with
                  | 0, _ => exact congrArg Prod.fst eo
                  | 1, _ => exact congrArg Prod.fst eo
                  | 2, _ => exact congrArg Prod.fst eo
                rw [this]
              · have : a = p' := by omega
                subst this
                exact ent_new _ _ _
          · rintro σ H4 ⟨⟨x4, x5, x6, x7, x8, x9, rfl⟩, B, S4, kvs, hk, hl, honly, hent, hj2⟩
            rw [yl] at hl hj2
            refine ⟨⟨_, _, _, _, _, _, rfl⟩, S4, kvs, hk, by omega, honly, fun x hx p hp => ?_⟩
            by_cases hxi : x < i
            · exact hent x hxi p hp
            · have : x = i := by omega
              subst this
              exact hj2 p hp
        · rintro σ H1 ⟨⟨x4, x5, x6, x7, x8, x9, rfl⟩, S1, kvs, hk, hl, honly, hent⟩
          refine ⟨⟨_, _, _, _, _, _, rfl⟩, S1, kvs, hk, by omega, fun k v e => ?_, fun _ => hent⟩
          obtain ⟨x, _, _, _, e⟩ := honly k v e
          exact ⟨x, e⟩
    · rintro σ' H1 ⟨⟨x4, x5, x6, x7, x8, x9, rfl⟩, S1, kvs0, hk0, hl0, hi0, hd0⟩
      have xl : xs.length = ts.length := Paired.length hts
      have l6 := (lots_lt q hq).1
      have llt := (lots_lt q hq).2
      refine ⟨_, rfl, l, xs, rfl, S1.seq hxs, for_it walk_enum (fun i σ H' => S57 p n l D σ ∧ Same H H' ∧ ∃ kvs, H' D = some (.dT kvs) ∧ kvs.length ≤ 300 + 18 * i ∧ IntV kvs ∧ (c = true → ∀ x, x < n → ∀ p, p < 3 → Ent kvs (x, x, x) p) ∧ ∀ a t, a < i → ts[a]? = some t → ∀ u ∈ q.2, ∀ p, p < 3 → Ent kvs (img u t) p)
        ⟨⟨_, _, _, _, _, _, rfl⟩, S1, kvs0, hk0, hl0, hi0, hd0, fun a t ha => absurd ha (Nat.not_lt_zero _)⟩ (fun i σ H' _ h => h.2.1.seq hxs) ?_ ?_⟩
      · rintro i v σ H2 H3 hi ⟨⟨x4, x5, x6, x7, x8, x9, rfl⟩, S2, kvs, hk, hl, hiv, hd, hprev⟩ ⟨T0, a1, a2, rfl, hT, rfl, e1, e2⟩
        cases e1
        have e2 : xs[i]? = some a2 := e2
        obtain ⟨t, et, b, rfl, hb⟩ := paired_at hts e2
        have S3 := S2.trans (Same.new (o := .tup [.int (i : Nat), .ref b]) hT)
        have hk3 := (Same.new (o := .tup [.int (i : Nat), .ref b]) hT) _ _ hk
        have hT3 : upd H2 T0 (.tup [.int (i : Nat), .ref b]) T0 = some (.tup [.int (i : Nat), .ref b]) := upd_same
        generalize upd H2 T0 (.tup [.int (i : Nat), .ref b]) = H3 at S3 hk3 hT3 ⊢
        obtain ⟨dx, hp3⟩ := id (hp.kp S3.kp)
        obtain ⟨n1, n2, n3⟩ := hn t (List.mem_of_getElem? et)
        refine ⟨T0, _, rfl, .inl (.inl hT3), rfl, _, _, rfl, _, _, rfl, rfl, ?_⟩
        refine ⟨_, rfl, p, dx, _, rfl, hp3, kfs_no_images .., _, rfl, p, b, q, c, t, rfl, hp.kp S3.kp, hq, ⟨b, rfl, S3.tup hb⟩, by omega, by omega, by omega, fun H4 r xs4 S4 hr4 hl4 ⟨is, hpi, hi1, hi2⟩ => ⟨r, rfl, ⟨_, hr4⟩, ?_⟩⟩
        have hk4 := S4 _ _ hk3
        have il : xs4.length = is.length := Paired.length hpi
        refine for_it walk_tup (fun j σ H' => (∃ x4 x5 x6 x8 x9, σ = [some (.ref p), some (.int n), some (.ref l), some (.ref D), x4, x5, x6, some (.int (i : Nat)), x8, x9]) ∧ But D H4 H' ∧ Same H H' ∧ ∃ kvs, H' D = some (.dT kvs) ∧ kvs.length ≤ 300 + 18 * i + 3 * j ∧ IntV kvs ∧
            (c = true → ∀ x, x < n → ∀ p, p < 3 → Ent kvs (x, x, x) p) ∧ (∀ a t, a < i → ts[a]? = some t → ∀ u ∈ q.2, ∀ p, p < 3 → Ent kvs (img u t) p) ∧ ∀ b im, b < j → is[b]? = some im → ∀ p, p < 3 → Ent kvs im p)
          ⟨⟨_, _, _, _, _, rfl⟩, .refl D H4, S3.trans S4, kvs, hk4, by omega, hiv, hd, hprev, fun a t ha => absurd ha (Nat.not_lt_zero _)⟩ (fun j σ H' _ h => h.2.1.seqT (dT_noT hk4) hr4) ?_ ?_
        · rintro j y σ _ H5 hj ⟨⟨x4, x5, x6, x8, x9, rfl⟩, B5, S5, kvs, hk, hl, hiv, hd, hprev, hjs⟩ ⟨rfl, ey⟩
          obtain ⟨im, eim, him⟩ := paired_at hpi ey
          obtain ⟨b', rfl, hb'⟩ := him.but B5 (dT_noT hk4)
          refine ⟨_, rfl, b', im, rfl, ⟨b', rfl, hb'⟩, fun H6 ly ys S6 hly hys => ⟨ly, rfl, ⟨_, .inl (.inl hly)⟩, ?_⟩⟩
          have hk6 := S6 _ _ hk
          have yl : ys.length = 3 := Paired.length hys
          refine for_it walk_list (fun a σ H' => (∃ x4 x5 x6 x8 x9, σ = [some (.ref p), some (.int n), some (.ref l), some (.ref D), x4, x5, x6, some (.int (i : Nat)), x8, x9]) ∧ But D H6 H' ∧ But D H4 H' ∧ Same H H' ∧ ∃ kvs, H' D = some (.dT kvs) ∧ kvs.length ≤ 300 + 18 * i + 3 * j + a ∧ IntV kvs ∧
              (c = true → ∀ x, x < n → ∀ p, p < 3 → Ent kvs (x, x, x) p) ∧ (∀ a t, a < i → ts[a]? = some t → ∀ u ∈ q.2, ∀ p, p < 3 → Ent kvs (img u t) p) ∧ (∀ b im, b < j → is[b]? = some im → ∀ p, p < 3 → Ent kvs im p) ∧ ∀ a', a' < a → Ent kvs im a')
            ⟨⟨_, _, _, _, _, rfl⟩, .refl D H6, B5.trans S6.but, S5.trans S6, kvs, hk6, by omega, hiv, hd, hprev, hjs, fun a ha => absurd ha (Nat.not_lt_zero _)⟩ (fun j σ H' _ h => .inl (.inl (h.2.1 _ _ hly (ne_of hly hk6 (by intro z; cases z))))) ?_ ?_
          · rintro a z σ _ H7 ha ⟨⟨x4, x5, x6, x8, x9, rfl⟩, B7, B74, S7, kvs, hk, hl, hiv, hd, hprev, hjs, has⟩ ⟨rfl, ez⟩
            obtain ⟨p', ep, hkey⟩ := paired_at hys ez
            obtain ⟨rfl, hp3'⟩ := at012 ep
            obtain ⟨_, a0, b0, rfl, h1, h2⟩ := hkey.but B7 (dT_noT hk6)
            refine ⟨a0, _, rfl, h1, rfl, _, _, rfl, _, _, rfl, rfl, ?_⟩
            refine ⟨_, rfl, D, rfl, .inr ⟨kvs, .inl hk⟩, _, rfl, _, rfl, _, DGet.t hk h2, _, rfl, ?_⟩
            have hcase : (∀ v, valV kvs (kk im p') = some v → v = .int (pick im p' : Nat)) ∨ ∃ m : Nat, valV kvs (kk im p') = some (.int m) ∧ m ≠ pick im p' := by
              cases e : valV kvs (kk im p') with
              | none => exact .inl fun v z => nomatch z
              | some v =>
                obtain ⟨m, rfl⟩ := hiv _ v e
                by_cases hm : m = pick im p'
                · exact .inl fun v z => by cases z; rw [hm]
                · exact .inr ⟨m, rfl, hm⟩
            rcases hcase with hc | ⟨m, em, hm⟩
            · have eg : (valV kvs (kk im p')).getD (.int (pick im p' : Nat)) = .int (pick im p' : Nat) := by
                cases e : valV kvs (kk im p') with
                | none => rfl
                | some v => exact hc v e
              rw [eg]
              refine ⟨rfl, _, rfl, iteNS rfl ?_⟩
              refine ⟨_, rfl, _, rfl, _, rfl, D, _, rfl, DPut.t hk h2 (small1000 (by omega)), ⟨_, _, _, _, _, rfl⟩, B7.trans (.upd D _ _), B74.trans (.upd D _ _), S7.at hD, _, upd_same, ?_, hiv.put _ _, fun hc' x hx p hp => ent_put hc (hd hc' x hx p hp), fun a t ha et u hu p hp => ent_put hc (hprev a t ha et u hu p hp), fun b im hb eb p hp => ent_put hc (hjs b im hb eb p hp), fun a' ha' => ?_⟩
              · have := length_putK kvs (kk im p') (.int (pick im p' : Nat))
                omega
              · by_cases h : a' < p'
                · exact ent_put hc (has a' h)
                · have : a' = p' := by omega
                  subst this
                  exact ent_new _ _ _
            · rw [em]
              refine ⟨rfl, _, rfl, iteNSN (fun z => hm ?_) ⟨_, rfl, _, rfl, line1000 (by simp), fun r' hr' => k1 _ r' (.ref D) i (S7.trans (.new hr')) (.inl (.inl upd_same)) (by omega)⟩⟩
              have z : V.int (m : Nat) = V.int (pick im p' : Nat) := z
              injection z with z
              omega
          · rintro σ H7 ⟨⟨x4, x5, x6, x8, x9, rfl⟩, B7, B74, S7, kvs, hk, hl, hiv, hd, hprev, hjs, has⟩
            rw [yl] at hl has
            refine ⟨⟨_, _, _, _, _, rfl⟩, B74, S7, kvs, hk, by omega, hiv, hd, hprev, fun b im' hb eb p hp => ?_⟩
            by_cases h : b < j
            · exact hjs b im' h eb p hp
            · have : b = j := by omega
              subst this
              rw [eim] at eb
              cases eb
              exact has p hp
        · rintro σ H7 ⟨⟨x4, x5, x6, x8, x9, rfl⟩, B74, S7, kvs, hk, hl, hiv, hd, hprev, hjs⟩
          refine ⟨⟨_, _, _, _, _, _, rfl⟩, S7, kvs, hk, by omega, hiv, hd, fun a t' ha et' u hu' p hp => ?_⟩
          by_cases h : a < i
          · exact hprev a t' h et' u hu' p hp
          · have : a = i := by omega
            subst this
            rw [et] at et'
            cases et'
            obtain ⟨b2, eb2⟩ := List.mem_iff_getElem?.mp (hi2 u hu')
            have hb2 := (List.getElem?_eq_some_iff.mp eb2).1
            exact hjs b2 _ (by omega) eb2 p hp
      · rintro σ H7 ⟨⟨x4, x5, x6, x7, x8, x9, rfl⟩, S7, kvs, hk, hl, hiv, hd, hprev⟩
        refine ⟨_, rfl, line1000 (by simp), fun r hr' => k2 _ r (.ref D) (S7.trans (.new hr')) (.inl (.inl upd_same)) (nc_ent hd hn llt fun t ht u hu' p hp => ?_)⟩
        obtain ⟨a, ea⟩ := List.mem_iff_getElem?.mp ht
        have ha := (List.getElem?_eq_some_iff.mp ea).1
        exact hprev a t (by omega) ea u hu' p hp
theorem g57 (T : Txt K mg Z) (G56 : GDef P w K mg base CX0 1 "keys_of" ["triple"] [] (spKeys K)) (G533 : MDef P w K mg base CX0 3 Z.K "images" ["self", "triple"] [] (spImg K Z.K)) (G : GTxt K mg "table_of" (top 57) [] []) :
    GDef P w K mg base CX0 4 "table_of" ["kind", "size", "triples"] [] (spTable K Z.K) := gdef G (fun _ _ _ _ _ _ us hl => match us, hl with | [_, _, _], _ => rfl) fun f fd F => ok57 T G56 G533 F
end
end K85
/-! K85GM: a worklist that ends with the closure Got. Plain Lean. -/
namespace K85
section
variable {α : Type}
def tri (t : T3 α) : List α := [t.1, t.2.1, t.2.2]
theorem pick_tri {t : T3 α} {p : Nat} (hp : p < 3) : pick t p ∈ tri t := by
  match p, hp with
  | 0, _ => simp [tri, pick]
  | 1, _ => simp [tri, pick]
  | 2, _ => simp [tri, pick]
theorem oth_tri {t : T3 α} {p : Nat} (hp : p < 3) : (oth t p).1 ∈ tri t ∧ (oth t p).2 ∈ tri t := by
  match p, hp with
  | 0, _ => simp [tri, oth]
  | 1, _ => simp [tri, oth]
  | 2, _ => simp [tri, oth]
/-- t lacks exactly the place p -/
def Viol (k : α → Bool) (t : T3 α) (p : Nat) : Prop := p < 3 ∧ k (oth t p).1 = true ∧ k (oth t p).2 = true ∧ k (pick t p) = false
theorem lack_viol {k : α → Bool} {t : T3 α} {p : Nat} (h : Viol k t p) : (tri t).filter (fun x => !k x) = [pick t p] := by
  obtain ⟨hp, h1, h2, h3⟩ := h
  match p, hp with
  | 0, _ => simp only [oth, pick] at h1 h2 h3; simp [tri, pick, List.filter, h1, h2, h3]
  | 1, _ => simp only [oth, pick] at h1 h2 h3; simp [tri, pick, List.filter, h1, h2, h3]
  | 2, _ => simp only [oth, pick] at h1 h2 h3; simp [tri, pick, List.filter, h1, h2, h3]
theorem lack_one {k : α → Bool} {t : T3 α} {z : α} (h : (tri t).filter (fun x => !k x) = [z]) : ∃ p, Viol k t p ∧ z = pick t p := by
  obtain ⟨a, b, c⟩ := t
  cases ha : k a <;> cases hb : k b <;> cases hc : k c <;> simp [tri, List.filter, ha, hb, hc] at h
  · exact ⟨0, ⟨by decide, hb, hc, ha⟩, h.symm⟩
  · exact ⟨1, ⟨by decide, ha, hc, hb⟩, h.symm⟩
  · exact ⟨2, ⟨by decide, ha, hb, hc⟩, h.symm⟩
/-- what is known is got; what was given is known -/
structure Snd (T : List (T3 α)) (B : List α) (k : α → Bool) : Prop where
  got : ∀ x, k x = true → Got T B x
  base : ∀ x ∈ B, k x = true
/-- every triple that lacks one has a known thing that waits -/
def Work (T : List (T3 α)) (k : α → Bool) (ws : List α) : Prop := ∀ t ∈ T, ∀ p, Viol k t p → ∃ x ∈ ws, x ∈ tri t
/-- .. or stands in us at j or behind -/
def WorkJ (T : List (T3 α)) (k : α → Bool) (ws : List α) (us : List (T3 α)) (j : Nat) : Prop := ∀ t ∈ T, ∀ p, Viol k t p → (∃ x ∈ ws, x ∈ tri t) ∨ ∃ b, j ≤ b ∧ us[b]? = some t
theorem work_pop {T : List (T3 α)} {k : α → Bool} {ws : List α} {x : α} {us : List (T3 α)} (h : Work T k (ws ++ [x])) (hu : ∀ t ∈ T, x ∈ tri t → t ∈ us) : WorkJ T k ws us 0 := fun t ht p hv => by
  obtain ⟨y, hy, hyt⟩ := h t ht p hv
  rcases List.mem_append.mp hy with hy | hy
  · exact .inl ⟨y, hy, hyt⟩
  · rw [List.mem_singleton.mp hy] at hyt
    obtain ⟨b, hb⟩ := List.mem_iff_getElem?.mp (hu t ht hyt)
    exact .inr ⟨b, Nat.zero_le _, hb⟩
theorem work_skip {T : List (T3 α)} {k : α → Bool} {ws : List α} {us : List (T3 α)} {j : Nat} {t0 : T3 α} (h : WorkJ T k ws us j) (e : us[j]? = some t0) (hn : ∀ p, ¬ Viol k t0 p) : WorkJ T k ws us (j + 1) := fun t ht p hv => by
  rcases h t ht p hv with h | ⟨b, hb, eb⟩
  · exact .inl h
  · refine .inr ⟨b, ?_, eb⟩
    by_cases hbj : b = j
    · subst hbj
      rw [e] at eb
      cases eb
      exact absurd hv (hn p)
    · omega
theorem work_add {T : List (T3 α)} {k k' : α → Bool} {ws : List α} {us : List (T3 α)} {j : Nat} {t0 : T3 α} {p0 : Nat} (h : WorkJ T k ws us j) (e : us[j]? = some t0) (h0 : Viol k t0 p0) (hk : ∀ x, k' x = true ↔ k x = true ∨ x = pick t0 p0) :
    WorkJ T k' (ws ++ [pick t0 p0]) us (j + 1) := fun t ht p hv => by
  obtain ⟨hp, h1, h2, h3⟩ := hv
  have h3' : k (pick t p) = false := by
    cases q : k (pick t p) with
    | false => rfl
    | true => rw [(hk _).mpr (.inl q)] at h3; cases h3
  obtain ⟨o1, o2⟩ := oth_tri (t := t) hp
  rcases (hk _).mp h1 with q1 | q1
  · rcases (hk _).mp h2 with q2 | q2
    · rcases h t ht p ⟨hp, q1, q2, h3'⟩ with ⟨x, hx, hxt⟩ | ⟨b, hb, eb⟩
      · exact .inl ⟨x, List.mem_append_left _ hx, hxt⟩
      · refine .inr ⟨b, ?_, eb⟩
        by_cases hbj : b = j
        · subst hbj
          rw [e] at eb
          cases eb
          have e1 := lack_viol (⟨hp, q1, q2, h3'⟩ : Viol k t0 p)
          rw [lack_viol h0] at e1
          injection e1 with e1
          rw [(hk _).mpr (.inr e1.symm)] at h3
          cases h3
        · omega
    · exact .inl ⟨_, List.mem_append_right _ (List.mem_singleton.mpr rfl), by rw [← q2]; exact o2⟩
  · exact .inl ⟨_, List.mem_append_right _ (List.mem_singleton.mpr rfl), by rw [← q1]; exact o1⟩
theorem work_end {T : List (T3 α)} {k : α → Bool} {ws : List α} {us : List (T3 α)} (h : WorkJ T k ws us us.length) : Work T k ws := fun t ht p hv => by
  rcases h t ht p hv with h | ⟨b, hb, eb⟩
  · exact h
  · have := (List.getElem?_eq_some_iff.mp eb).1
    omega
theorem snd_add {T : List (T3 α)} {B : List α} {k k' : α → Bool} {t0 : T3 α} {p0 : Nat} (h : Snd T B k) (ht : t0 ∈ T) (h0 : Viol k t0 p0) (hk : ∀ x, k' x = true ↔ k x = true ∨ x = pick t0 p0) : Snd T B k' := by
  refine ⟨fun x hx => ?_, fun x hx => (hk x).mpr (.inl (h.base x hx))⟩
  rcases (hk x).mp hx with q | rfl
  · exact h.got x q
  · exact .step ht h0.1 (h.got _ h0.2.1) (h.got _ h0.2.2.1)
theorem snd_end {T : List (T3 α)} {B : List α} {k : α → Bool} (h : Snd T B k) (hc : ∀ t ∈ T, ∀ p, ¬ Viol k t p) (x : α) : k x = true ↔ Got T B x := by
  refine ⟨h.got x, fun g => g.least (S := fun x => k x = true) h.base fun t ht p hp h1 h2 => ?_⟩
  cases q : k (pick t p) with
  | true => exact q
  | false => exact absurd ⟨hp, h1, h2, q⟩ (hc t ht p)
theorem cnt_lt {l : List α} {p q : α → Bool} {z : α} (h : ∀ x, q x = true → p x = true) (hz : z ∈ l) (h1 : p z = true) (h2 : q z = false) : l.countP q < l.countP p := by
  induction l with
  | nil => cases hz
  | cons a r ih =>
    rw [List.countP_cons, List.countP_cons]
    have hle : r.countP q ≤ r.countP p := List.countP_mono_left fun x _ hx => h x hx
    rcases List.mem_cons.mp hz with rfl | hz
    · rw [if_pos h1, if_neg (by rw [h2]; exact Bool.false_ne_true)]
      omega
    · have := ih hz
      by_cases qa : q a = true
      · rw [if_pos qa, if_pos (h a qa)]
        omega
      · rw [if_neg qa]
        by_cases pa : p a = true
        · rw [if_pos pa]
          omega
        · rw [if_neg pa]
          omega
end
end K85
/-! K85G: got_things. -/
namespace K85
open PySem PySem.Spec PyProof.Rows L2
abbrev Th := Int × Str
def tk (t : Th) : List Key := [.inl t.1, .inr t.2]
theorem tk_inj {a b : Th} (h : tk a = tk b) : a = b := by
  unfold tk at h
  injection h with h1 h
  injection h with h2 _
  injection h1 with h1
  injection h2 with h2
  exact Prod.ext h1 h2
/-- x is the tuple (number, name) -/
def ThAt (H : Hp) (x : V) (t : Th) : Prop := ∃ a, x = .ref a ∧ H a = some (.tup [.int t.1, .str t.2])
/-- x is a tuple of three things -/
def TriAt (K : PySem.W.Frag) (H : Hp) (x : V) (t : T3 Th) : Prop := ∃ r xs, x = .ref r ∧ SqT K H r xs ∧ Paired (ThAt H) xs (tri t)
def kn (kvs : List (List Key × V)) (t : Th) : Bool := (valV kvs (tk t)).isSome
theorem ThAt.same {H H' : Hp} {x : V} {t : Th} (h : ThAt H x t) (S : Same H H') : ThAt H' x t := by
  obtain ⟨a, e, h⟩ := h
  exact ⟨a, e, S _ _ h⟩
theorem paired_imp {α β : Type} {R R' : α → β → Prop} (h : ∀ x y, R x y → R' x y) : ∀ {xs : List α} {ys : List β}, Paired R xs ys → Paired R' xs ys
  | _, _, .nil => .nil
  | _, _, .cons q r => .cons (h _ _ q) (paired_imp h r)
theorem paired_snoc {α β : Type} {R : α → β → Prop} {x : α} {y : β} (h : R x y) : ∀ {xs : List α} {ys : List β}, Paired R xs ys → Paired R (xs ++ [x]) (ys ++ [y])
  | _, _, .nil => .cons h .nil
  | _, _, .cons q r => .cons q (paired_snoc h r)
theorem paired_dropLast {α β : Type} {R : α → β → Prop} : ∀ {xs : List α} {ys : List β}, Paired R xs ys → Paired R xs.dropLast ys.dropLast
  | _, _, .nil => .nil
  | _, _, .cons q .nil => .nil
  | _, _, .cons q (.cons q2 r) => .cons q (paired_dropLast (.cons q2 r))
theorem TriAt.same {K : PySem.W.Frag} {H H' : Hp} {x : V} {t : T3 Th} (h : TriAt K H x t) (S : Same H H') : TriAt K H' x t := by
  obtain ⟨r, xs, e, h1, h2⟩ := h
  exact ⟨r, xs, e, S.tup h1, paired_imp (fun _ _ q => q.same S) h2⟩
theorem kn_put (kvs : List (List Key × V)) (z x : Th) (v : V) : kn (putK kvs (tk z) v) x = true ↔ kn kvs x = true ∨ x = z := by
  unfold kn
  rw [valV_put]
  by_cases h : tk x = tk z
  · rw [if_pos h]
    exact ⟨fun _ => .inr (tk_inj h), fun _ => rfl⟩
  · rw [if_neg h]
    exact ⟨.inl, fun q => q.elim id fun e => absurd (by rw [e]) h⟩
/-- the lists of users: of triples of T (as they stood in H0); each triple t stands under the thing x where Pr t x -/
structure Us (K : PySem.W.Frag) (H0 : Hp) (T : List (T3 Th)) (H : Hp) (kvs : List (List Key × V)) (n : Nat) (Pr : T3 Th → Th → Prop) : Prop where
  ok : ∀ k v, valV kvs k = some v → ∃ u xs us, v = .ref u ∧ H0 u = none ∧ H u = some (.lst xs) ∧ xs.length ≤ n ∧ Paired (TriAt K H0) xs us ∧ (∀ t ∈ us, t ∈ T) ∧ ∀ t x, k = tk x → Pr t x → t ∈ us
  some_ : ∀ t x, Pr t x → (valV kvs (tk x)).isSome = true
section
variable {K : PySem.W.Frag} {H0 H : Hp} {T : List (T3 Th)} {kvs : List (List Key × V)} {n : Nat} {Pr : T3 Th → Th → Prop}
theorem Us.imp {H' : Hp} {m : Nat} {Pr' : T3 Th → Th → Prop} (U : Us K H0 T H kvs n Pr) (hl : ∀ b xs, H b = some (.lst xs) → H' b = some (.lst xs)) (hm : n ≤ m) (hp : ∀ t x, Pr' t x → Pr t x) : Us K H0 T H' kvs m Pr' := by
  refine ⟨fun k v e => ?_, fun t x h => U.some_ t x (hp t x h)⟩
  obtain ⟨u, xs, us, e1, h0, h1, h2, h3, h4, h5⟩ := U.ok k v e
  exact ⟨u, xs, us, e1, h0, hl _ _ h1, Nat.le_trans h2 hm, h3, h4, fun t x ek h => h5 t x ek (hp t x h)⟩
theorem Us.add1 {u : Addr} {x : Th} {t : T3 Th} {r : V} {xs : List V} (U : Us K H0 T H kvs n Pr) (hv : valV kvs (tk x) = some (.ref u)) (hu : H u = some (.lst xs)) (ht : t ∈ T) (hr : TriAt K H0 r t) :
    Us K H0 T (upd H u (.lst (xs ++ [r]))) kvs (n + 1) (fun t' x' => Pr t' x' ∨ (t' = t ∧ x' = x)) := by
  refine ⟨fun k v e => ?_, fun t' x' h => ?_⟩
  · obtain ⟨u', xs', us', rfl, h0, h1, h2, h3, h4, h5⟩ := U.ok k v e
    by_cases hh : u' = u
    · subst hh
      rw [hu] at h1
      cases h1
      refine ⟨u', _, us' ++ [t], rfl, h0, upd_same, by simp; omega, paired_snoc hr h3, fun t' h => ?_, fun t' x' ek h => ?_⟩
      · rcases List.mem_append.mp h with h | h
        · exact h4 t' h
        · rw [List.mem_singleton.mp h]; exact ht
      · rcases h with h | ⟨rfl, _⟩
        · exact List.mem_append_left _ (h5 t' x' ek h)
        · exact List.mem_append_right _ (List.mem_singleton.mpr rfl)
    · refine ⟨u', xs', us', rfl, h0, by rw [upd_ne hh]; exact h1, by omega, h3, h4, fun t' x' ek h => ?_⟩
      rcases h with h | ⟨_, rfl⟩
      · exact h5 t' x' ek h
      · rw [ek, hv] at e
        cases e
        exact absurd rfl hh
  · rcases h with h | ⟨_, rfl⟩
    · exact U.some_ t' x' h
    · rw [hv]; rfl
theorem Us.add2 {D el : Addr} {x : Th} {t : T3 Th} {r : V} (U : Us K H0 T H kvs n Pr) (hD : H D = some (.dT kvs)) (he : H el = none) (he0 : H0 el = none) (hv : valV kvs (tk x) = none) (ht : t ∈ T) (hr : TriAt K H0 r t) :
    Us K H0 T (upd (upd (upd H el (.lst [])) D (.dT (putK kvs (tk x) (.ref el)))) el (.lst ([] ++ [r]))) (putK kvs (tk x) (.ref el)) (n + 1) (fun t' x' => Pr t' x' ∨ (t' = t ∧ x' = x)) := by
  refine ⟨fun k v e => ?_, fun t' x' h => ?_⟩
  · rw [valV_put] at e
    split at e
    · rename_i ek
      cases e
      refine ⟨el, _, [t], rfl, he0, upd_same, by simp, .cons hr .nil, fun t' h => by rw [List.mem_singleton.mp h]; exact ht, fun t' x' ek' h => ?_⟩
      rcases h with h | ⟨rfl, _⟩
      · have z := U.some_ t' x' h
        rw [← ek', ek, hv] at z
        cases z
      · exact List.mem_singleton.mpr rfl
    · rename_i nk
      obtain ⟨u', xs', us', rfl, h0, h1, h2, h3, h4, h5⟩ := U.ok k v e
      refine ⟨u', xs', us', rfl, h0, ?_, by omega, h3, h4, fun t' x' ek h => ?_⟩
      · rw [upd_ne (ne_of_none h1 he), upd_ne (ne_of h1 hD (by intro z; cases z)), upd_ne (ne_of_none h1 he)]
        exact h1
      · rcases h with h | ⟨_, rfl⟩
        · exact h5 t' x' ek h
        · exact absurd ek nk
  · rw [valV_put]
    split
    · rfl
    · rcases h with h | ⟨_, rfl⟩
      · exact U.some_ t' x' h
      · rename_i nk
        exact absurd rfl nk
end
theorem keys_put {kvs : List (List Key × V)} {k : List Key} {v : V} {p : List Key × V} (h : p ∈ putK kvs k v) : p.1 = k ∨ ∃ p' ∈ kvs, p.1 = p'.1 := by
  unfold putK at h
  split at h
  · obtain ⟨q, hq, e⟩ := List.mem_map.mp h
    refine .inr ⟨q, hq, ?_⟩
    rw [← e]
    split <;> rfl
  · rcases List.mem_append.mp h with h | h
    · exact .inr ⟨p, h, rfl⟩
    · rw [List.mem_singleton.mp h]
      exact .inl rfl
theorem keys_things {H : Hp} : ∀ {kvs : List (List Key × V)} {bs : List Addr}, IsKeys H kvs bs → (∀ p ∈ kvs, ∃ t, p.1 = tk t) → ∃ ths, Paired (ThAt H) (bs.map V.ref) ths ∧ ths.map tk = kvs.map (·.1)
  | _, _, .nil, _ => ⟨[], .nil, rfl⟩
  | p :: kvs, b :: bs, .cons q r, h => by
    obtain ⟨t, e⟩ := h p List.mem_cons_self
    obtain ⟨ths, h1, h2⟩ := keys_things r fun p' hp => h p' (List.mem_cons_of_mem _ hp)
    rw [e] at q
    exact ⟨t :: ths, .cons ⟨b, rfl, q⟩ h1, by rw [List.map_cons, List.map_cons, h2, e]⟩
/-- all as it was but at D and at W -/
def But2 (D W : Addr) (H H' : Hp) : Prop := ∀ b o, H b = some o → b ≠ D → b ≠ W → H' b = some o
theorem ThAt.but {D : Addr} {H H' : Hp} {x : V} {t : Th} (h : ThAt H x t) (B : But D H H') (hd : ∀ o, H D = some o → ¬ TupO o) : ThAt H' x t := by
  obtain ⟨a, e, h⟩ := h
  exact ⟨a, e, B _ _ h fun e => hd (.tup [.int t.1, .str t.2]) (by rw [← e]; exact h) trivial⟩
def cnt (T : List (T3 Th)) (kvs : List (List Key × V)) : Nat := (T.flatMap tri).countP fun x => !kn kvs x
/-- the state of the loop while waiting -/
def WG (T : List (T3 Th)) (B : List Th) (l1 l2 D U W : Addr) (H0 H1 : Hp) (m : Nat) (σ : L2.St) (H : Hp) : Prop := (∃ x4 x5 x7, σ = [some (.ref l1), some (.ref l2), some (.ref D), some (.ref U), x4, x5, some (.ref W), x7]) ∧ Same H0 H ∧ But D H1 H ∧
  ∃ kvs ws ths, H D = some (.dT kvs) ∧ H W = some (.lst ws) ∧ Paired (ThAt H1) ws ths ∧ Snd T B (kn kvs) ∧ Work T (kn kvs) ths ∧ kvs.length + cnt T kvs ≤ 500 ∧ ws.length + cnt T kvs ≤ 500 ∧ m = 2 * cnt T kvs + ws.length
section
variable {P : Program} {w : World} {K : PySem.W.Frag} {mg : Str → Option Value} {base : Heap} {Z : Cs} {f : Addr} {fd : FuncData}
abbrev N59 : List Str := ["triples", "things", "known", "users", "triple", "thing", "waiting", "lacking"]
theorem sc59 : FnScope N59 ["triples", "things"] (defScope (top 59)) := ⟨rfl, rfl, rfl, by decide +kernel, rfl, by decide +kernel, by decide +kernel⟩
def spGot (K : PySem.W.Frag) : Sp := fun vs H Q _ => ∃ (l1 l2 : Addr) (xs ys : List V) (T : List (T3 Th)) (B : List Th), vs = [.ref l1, .ref l2] ∧ SqL K H l1 xs ∧ Paired (TriAt K H) xs T ∧ T.length ≤ 100 ∧ SqL K H l2 ys ∧ Paired (ThAt H) ys B ∧ B.length ≤ 100 ∧
  ∀ H' d kvs, Same H H' → H' d = some (.dT kvs) → (∀ t, kn kvs t = true ↔ Got T B t) → Q (.ref d) H'
theorem ok59 (T : Txt K mg Z) (F : TF K "got_things" "got_things" (top 59) [] [] f fd) : FnOk P w K mg base CX0 1 f fd ["triples", "things"] (spGot K) := by
  refine F.ok sc59 (fun vs H Q E h => ?_) (fun cdv A outer s H vs Q E hr h => ?_)
  · obtain ⟨_, _, _, _, _, _, rfl, _⟩ := h
    rfl
  · obtain ⟨l1, l2, xs, ys, TT, B, rfl, hl1, hT, t100, hl2, hB, b100, q⟩ := h
    have hu := hu_of hr
    refine ⟨_, PSs.nox <| pss_cons (ps_set (i := 2) sc59.nd rfl (Or.inr rfl) (pe_dcT (own := [("thing", 5)]) (g := gName 5) (tt := tYes) (Nat.lt_of_succ_lt hu) (by rfl) sc59.nd (pi_list (pv 1)) (blkOk_by (N := N59) (sc := defScope (top 59)) (by decide +kernel))
        (fun _ _ _ _ _ => pg_name (i := 5) sc59.nd rfl (Or.inl rfl)) (fun _ _ _ _ _ => pts_nil) (fun _ _ _ _ _ => pv 5) (fun _ _ _ _ _ => pe_bl)))
      (pss_cons (ps_set (i := 3) sc59.nd rfl (Or.inl rfl) pe_dnewT)
      (C8.pss_cut (ps_for PassesOwn.never rfl (pi_list (pv 0)) (pg_name (i := 4) sc59.nd rfl (Or.inl rfl)) (pss_one (ps_for PassesOwn.never rfl (pi_tup (pv 4)) (pg_name (i := 5) sc59.nd rfl (Or.inl rfl))
          (pss_one (ps_expr (pe_bm PySem.F.plainAttrs_list PySem.F.slot_list_append PySem.F.type_list_append mt_append (pe_dsetT hu (pv 3) (pv 5) (pe_lst pa_nil) ⟨by rfl, by rfl, by rfl, by rfl⟩) (pa_cons (pv 4) pa_nil)))))))
      (pss_cons (ps_set (i := 6) sc59.nd rfl (Or.inl rfl) (pe_callTy (call_list_dT rfl) (by rfl) T.lst boot_list (pa_cons (pv 2) pa_nil)))
      (pss_cons (ps_while PassesOwn.never (pt_truth (pv 6) (fun _ => rfl)) (pss_one (ps_for PassesOwn.never rfl (pi_list (pe_dget2 hu (pv 3) (pe_bm0 PySem.F.plainAttrs_list PySem.F.slot_list_pop PySem.F.type_list_pop mt_pop (pv 6)) (pe_lst pa_nil) ⟨by rfl, by rfl, by rfl, by rfl⟩)) (pg_name (i := 4) sc59.nd rfl (Or.inl rfl))
          (pss_cons (ps_setLc (i := 7) (own := [("thing", 5)]) (g := gName 5) (by rfl) sc59.nd rfl rfl (sw_true rfl rfl rfl (by decide +kernel)) (pi_tup (pv 4)) (blkOk_by (N := N59) (sc := defScope (top 59)) (by decide +kernel))
              (fun _ _ _ _ _ => pg_name (i := 5) sc59.nd rfl (Or.inl rfl)) (fun _ _ _ _ _ => pts_one (pt_cmp (pc_dnotin hu (pv 5) (pv 2)))) (fun _ _ _ _ _ => pv 5))
          (pss_one (ps_if (pt_cmpR op_eq (pe_b call_len T.len PySem.boot_len (pa_cons (pv 7) pa_nil)) pe_int (nomark _))
            (pss_cons (ps_dput hu (pv 2) (pe_ix ix_list (pv 7) pe_int (fun _ _ => rfl)) pe_bl rfl)
            (pss_one (ps_expr (pe_bm PySem.F.plainAttrs_list PySem.F.slot_list_append PySem.F.type_list_append mt_append (pv 6) (pa_cons (pe_ix ix_list (pv 7) pe_int (fun _ _ => rfl)) pa_nil))))) pss_nil))))))
      (pss_one (ps_ret (pv 2))))))), ?_⟩
    -- known
    refine ⟨_, rfl, l2, rfl, ⟨_, hl2⟩, fun D hD => ?_⟩
    refine cc_it walk_list (fun i H' => Same H H' ∧ ∃ kvs, H' D = some (.dT kvs) ∧ kvs.length ≤ i ∧ (∀ p ∈ kvs, ∃ t ∈ B, p.1 = tk t) ∧ (∀ t, kn kvs t = true → t ∈ B) ∧ ∀ j t, j < i → B[j]? = some t → kn kvs t = true)
      ⟨.new hD, [], upd_same, Nat.zero_le _, (fun p hp => absurd hp List.not_mem_nil), (fun t ht => nomatch ht), fun j t h => absurd h (Nat.not_lt_zero _)⟩ (fun i H' _ h => h.1.seq hl2) ?_ ?_
    · rintro i x _ H1 hi ⟨S1, kvs, hk, hl, hkB, hkn, hj⟩ ⟨rfl, ex⟩
      obtain ⟨t, et, ht⟩ := paired_at hB ex
      obtain ⟨a, rfl, ha⟩ := ht.same S1
      have bl : ys.length = B.length := Paired.length hB
      have htB := List.mem_of_getElem? et
      refine ⟨rfl, _, rfl, kvs, tk t, a, rfl, ha, hk, small1000 (by omega), S1.at hD, _, upd_same, ?_, fun p hp => ?_, fun t' ht' => ?_, fun j t' hj' et' => ?_⟩
      · have := length_putK kvs (tk t) (.bl true)
        omega
      · rcases keys_put hp with e | ⟨p', hp', e⟩
        · exact ⟨t, htB, e⟩
        · rw [e]
          exact hkB p' hp'
      · rcases (kn_put kvs t t' _).mp ht' with h | rfl
        · exact hkn t' h
        · exact htB
      · refine (kn_put kvs t t' _).mpr ?_
        by_cases h : j < i
        · exact .inl (hj j t' h et')
        · have : j = i := by omega
          subst this
          rw [et] at et'
          cases et'
          exact .inr rfl
    · rintro H1 ⟨S1, kv0, hk0, hl0, hkB, hkn, hj⟩
      have bl : ys.length = B.length := Paired.length hB
      have tl : xs.length = TT.length := Paired.length hT
      -- users
      intro U hU
      have hDU : D ≠ U := ne_of_none hk0 hU
      refine ⟨fun σ' H' => (∃ x4 x5 x6 x7, σ' = [some (.ref l1), some (.ref l2), some (.ref D), some (.ref U), x4, x5, x6, x7]) ∧ Same H H' ∧ H' D = some (.dT kv0) ∧ ∃ ku n, H' U = some (.dT ku) ∧ Us K H TT H' ku n (fun t x => t ∈ TT ∧ x ∈ tri t), ?_, ?_⟩
      · refine ⟨_, rfl, l1, rfl, ⟨_, S1.trans (.new hU) |>.seq hl1⟩, for_it walk_list (fun i σ H' => (∃ x4 x5 x6 x7, σ = [some (.ref l1), some (.ref l2), some (.ref D), some (.ref U), x4, x5, x6, x7]) ∧ Same H H' ∧ H' D = some (.dT kv0) ∧ ∃ ku, H' U = some (.dT ku) ∧ ku.length ≤ 3 * i ∧ Us K H TT H' ku (3 * i) (fun t x => (∃ a, a < i ∧ TT[a]? = some t) ∧ x ∈ tri t))
          ⟨⟨_, _, _, _, rfl⟩, S1.trans (.new hU), by rw [upd_ne hDU]; exact hk0, [], upd_same, Nat.zero_le _, (fun k v e => nomatch e), fun t x ⟨⟨a, ha, _⟩, _⟩ => absurd ha (Nat.not_lt_zero _)⟩ (fun i σ H' _ h => h.2.1.seq hl1) ?_ ?_⟩
        · rintro i x σ _ H2 hi ⟨⟨x4, x5, x6, x7, rfl⟩, S2, hk2, ku, hku, hkl, hus⟩ ⟨rfl, ex⟩
          obtain ⟨t, et, ht⟩ := paired_at hT ex
          have htT := List.mem_of_getElem? et
          obtain ⟨r, zs, rfl, hr', hzs⟩ := id ht
          have zl : zs.length = 3 := Paired.length hzs
          refine ⟨_, rfl, r, rfl, ⟨_, S2.tup hr'⟩, for_it walk_tup (fun j σ H' => (∃ x5 x6 x7, σ = [some (.ref l1), some (.ref l2), some (.ref D), some (.ref U), some (.ref r), x5, x6, x7]) ∧ Same H H' ∧ H' D = some (.dT kv0) ∧ ∃ ku, H' U = some (.dT ku) ∧ ku.length ≤ 3 * i + j ∧
              Us K H TT H' ku (3 * i + j) (fun t' x => ((∃ a, a < i ∧ TT[a]? = some t') ∧ x ∈ tri t') ∨ (t' = t ∧ ∃ a, a < j ∧ (tri t)[a]? = some x))) ⟨⟨_, _, _, rfl⟩, S2, hk2, ku, hku, hkl, hus.imp (fun _ _ h => h) (Nat.le_refl _) fun t' x h => h.elim id fun ⟨_, a, ha, _⟩ => absurd ha (Nat.not_lt_zero _)⟩ (fun j σ H' _ h => h.2.1.tup hr') ?_ ?_⟩
          · rintro j y σ _ H3 hj3 ⟨⟨x5, x6, x7, rfl⟩, S3, hk3, ku, hku, hkl, hus⟩ ⟨rfl, ey⟩
            obtain ⟨th, eth, hth⟩ := paired_at hzs ey
            obtain ⟨a, rfl, ha⟩ := hth.same S3
            have hpr : ∀ t' x, (((∃ a, a < i ∧ TT[a]? = some t') ∧ x ∈ tri t') ∨ (t' = t ∧ ∃ a, a < j + 1 ∧ (tri t)[a]? = some x)) → (((∃ a, a < i ∧ TT[a]? = some t') ∧ x ∈ tri t') ∨ (t' = t ∧ ∃ a, a < j ∧ (tri t)[a]? = some x)) ∨ (t' = t ∧ x = th) := fun t' x h => by
              rcases h with h | ⟨rfl, b, hb, eb⟩
              · exact .inl (.inl h)
              · by_cases hbj : b < j
                · exact .inl (.inr ⟨rfl, b, hbj, eb⟩)
                · have : b = j := by omega
                  subst this
                  rw [eth] at eb
                  cases eb
                  exact .inr ⟨rfl, rfl⟩
            refine ⟨_, rfl, U, rfl, .inr ⟨ku, .inl hku⟩, _, rfl, line1000 (by simp), fun el hel => ?_⟩
            have SN := Same.new (o := .lst []) hel
            refine ⟨ku, tk th, a, SN _ _ hku, rfl, SN _ _ ha, small1000 (by omega), fun v hv => ?_, fun hn => ?_⟩
            · obtain ⟨u, vs', us', rfl, h0, h1, h2, _⟩ := hus.ok _ v hv
              have nU : u ≠ U := ne_of h1 hku (by intro z; cases z)
              have nD : u ≠ D := ne_of h1 hk3 (by intro z; cases z)
              refine ⟨.inl ⟨rfl, _, .inl (.inl (SN _ _ h1))⟩, _, rfl, u, vs', _, rfl, rfl, SN _ _ h1, small1000 (by omega), ⟨_, _, _, rfl⟩, ?_, by rw [upd_ne nD.symm]; exact SN _ _ hk3, ku, by rw [upd_ne nU.symm]; exact SN _ _ hku, by omega, ((hus.imp (fun b xs h => SN _ _ h) (Nat.le_refl _) fun _ _ h => h).add1 hv (SN _ _ h1) htT ht).imp (fun _ _ h => h) (by omega) hpr⟩
              exact (S3.trans SN).at h0
            · have he0 := S3.free hel
              have nU : el ≠ U := fun e => by rw [e, hku] at hel; cases hel
              have nD : el ≠ D := fun e => by rw [e, hk3] at hel; cases hel
              have e1 : upd (upd H3 el (.lst [])) U (.dT (putK ku (tk th) (.ref el))) el = some (.lst []) := by rw [upd_ne nU, upd_same]
              refine ⟨.inl ⟨rfl, [], .inl (.inl e1)⟩, _, rfl, el, [], _, rfl, rfl, e1, small1000 (by simp), ⟨_, _, _, rfl⟩, (((S3.trans SN).at (S1.free hU)).at he0), ?_, putK ku (tk th) (.ref el), ?_, ?_, (hus.add2 hku hel he0 hn htT ht).imp (fun _ _ h => h) (by omega) hpr⟩
              · rw [upd_ne nD.symm, upd_ne hDU, upd_ne nD.symm]
                exact hk3
              · rw [upd_ne nU.symm, upd_same]
              · have := length_putK ku (tk th) (.ref el)
                omega
          · rintro σ H3 ⟨⟨x5, x6, x7, rfl⟩, S3, hk3, ku, hku, hkl, hus⟩
            refine ⟨⟨_, _, _, _, rfl⟩, S3, hk3, ku, hku, by omega, hus.imp (fun _ _ h => h) (by omega) fun t' x h => ?_⟩
            obtain ⟨⟨b, hb, eb⟩, hx⟩ := h
            by_cases hbi : b < i
            · exact .inl ⟨⟨b, hbi, eb⟩, hx⟩
            · have : b = i := by omega
              subst this
              rw [et] at eb
              cases eb
              obtain ⟨c, ec⟩ := List.mem_iff_getElem?.mp hx
              exact .inr ⟨rfl, c, by have := (List.getElem?_eq_some_iff.mp ec).1; rw [zl]; exact this, ec⟩
        · rintro σ H3 ⟨hσ, S3, hk3, ku, hku, hkl, hus⟩
          refine ⟨hσ, S3, hk3, ku, _, hku, hus.imp (fun _ _ h => h) (Nat.le_refl _) fun t' x h => ⟨?_, h.2⟩⟩
          obtain ⟨b, eb⟩ := List.mem_iff_getElem?.mp h.1
          exact ⟨b, by have := (List.getElem?_eq_some_iff.mp eb).1; omega, eb⟩
      · rintro σ' H2 ⟨⟨x4, x5, x6, x7, rfl⟩, S2, hk2, ku, un, hku, hus⟩
        -- waiting
        refine ⟨_, rfl, D, kv0, rfl, .inl hk2, fun W bs hW hbs => ?_⟩
        obtain ⟨ths0, hp0, he0⟩ := keys_things hbs fun p hp => let ⟨t, _, e⟩ := hkB p hp; ⟨t, e⟩
        have nDW : D ≠ W := ne_of_none hk2 hW
        have nUW : U ≠ W := ne_of_none hku hW
        have hW0 : H W = none := S2.free hW
        have ul : (TT.flatMap tri).length ≤ 300 := by
          have : ∀ l : List (T3 Th), (l.flatMap tri).length = 3 * l.length := fun l => by
            induction l with
            | nil => rfl
            | cons a r ih => rw [List.flatMap_cons, List.length_append, ih]; show 3 + _ = _; rw [List.length_cons]; omega
          rw [this]
          omega
        have cl : cnt TT kv0 ≤ 300 := Nat.le_trans List.countP_le_length ul
        have bsl : (bs.map V.ref).length = kv0.length := by
          rw [List.length_map]
          exact (Paired.length hbs).symm
        refine ⟨WG TT B l1 l2 D U W H H2, ⟨_, ⟨_, _, _, rfl⟩, S2.trans (.new hW), (Same.new hW).but, kv0, _, ths0, by rw [upd_ne nDW]; exact hk2, upd_same, hp0, ⟨fun t ht => .base (hkn t ht), fun t ht => ?_⟩, fun t ht p hv => ?_, by omega, by omega, rfl⟩, ?_⟩
        · obtain ⟨j, ej⟩ := List.mem_iff_getElem?.mp ht
          exact hj j t (by have := (List.getElem?_eq_some_iff.mp ej).1; omega) ej
        · obtain ⟨hp, h1, h2, h3⟩ := hv
          obtain ⟨v, hv⟩ := Option.isSome_iff_exists.mp h1
          have := valV_in hv
          rw [← he0] at this
          obtain ⟨z, hz, ez⟩ := List.mem_map.mp this
          have ez := tk_inj ez
          subst ez
          exact ⟨_, hz, (oth_tri hp).1⟩
        · rintro m σ H3 ⟨⟨x4, x5, x7, rfl⟩, S3, B3, kvs, ws, ths, hk3, hw3, hps, hsnd, hwork, hc1, hc2, rfl⟩
          refine ⟨_, rfl, _, .inl ⟨ws, .inl (.inl hw3), rfl⟩, ?_⟩
          rcases List.eq_nil_or_concat ws with rfl | ⟨ws', x, rfl⟩
          · cases hps
            exact iteF ⟨_, rfl, q H3 D kvs S3 hk3 (snd_end hsnd fun t ht p hv => by obtain ⟨x, hx, _⟩ := hwork t ht p hv; cases hx)⟩
          · rw [List.concat_eq_append] at *
            have en : (!(ws' ++ [x]).isEmpty) = true := by simp
            refine iteB en ⟨fun σ' H' => ∃ m', m' < 2 * cnt TT kvs + (ws' ++ [x]).length ∧ WG TT B l1 l2 D U W H H2 m' σ' H', fun _ _ h => h, ?_⟩
            have hku3 : H3 U = some (.dT ku) := B3 _ _ hku hDU.symm
            obtain ⟨th, eth, hth⟩ := paired_at hps (i := ws'.length) (x := x) (by simp)
            have hth3 := hth.but B3 (dT_noT hk2)
            obtain ⟨a, rfl, ha⟩ := hth3
            have naW : a ≠ W := ne_of ha hw3 (by intro z; cases z)
            have hths : ∃ ths', ths = ths' ++ [th] ∧ Paired (ThAt H2) ws' ths' := by
              have hd := paired_dropLast hps
              rw [List.dropLast_concat] at hd
              refine ⟨ths.dropLast, ?_, hd⟩
              have hl : ths.length = ws'.length + 1 := by
                have := Paired.length hps
                simp at this
                omega
              have hne : ths ≠ [] := by
                intro e
                rw [e] at hl
                simp at hl
              have e1 := List.dropLast_concat_getLast hne
              rw [List.getLast_eq_getElem] at e1
              have e2 : ths[ths.length - 1]? = some th := by rw [hl]; exact eth
              rw [List.getElem?_eq_getElem (by omega)] at e2
              injection e2 with e2
              rw [e2] at e1
              exact e1.symm
            obtain ⟨ths', rfl, hps'⟩ := hths
            refine ⟨_, rfl, U, rfl, .inr ⟨ku, .inl hku3⟩, _, rfl, .inl ⟨rfl, _, .inl (.inl hw3)⟩, W, _, .ref a, rfl, rfl, hw3, by simp, ?_⟩
            rw [List.dropLast_concat]
            refine ⟨line1000 (by simp), fun el hel => ?_⟩
            have hw4 : upd (upd H3 W (.lst ws')) el (.lst []) W = some (.lst ws') := (Same.new hel) _ _ upd_same
            have hk4 : upd (upd H3 W (.lst ws')) el (.lst []) D = some (.dT kvs) := (Same.new hel) _ _ (by rw [upd_ne nDW]; exact hk3)
            have hu4 : upd (upd H3 W (.lst ws')) el (.lst []) U = some (.dT ku) := (Same.new hel) _ _ (by rw [upd_ne nUW]; exact hku3)
            have ha4 : upd (upd H3 W (.lst ws')) el (.lst []) a = some (.tup [.int th.1, .str th.2]) := (Same.new hel) _ _ (by rw [upd_ne naW]; exact ha)
            have he4 : upd (upd H3 W (.lst ws')) el (.lst []) el = some (.lst []) := upd_same
            have S4 : Same H (upd (upd H3 W (.lst ws')) el (.lst [])) := (S3.at hW0).trans (.new hel)
            have B4 : But D H2 (upd (upd H3 W (.lst ws')) el (.lst [])) := fun b o e n => (Same.new hel) _ _ (by rw [upd_ne (ne_of_none e hW)]; exact B3 _ _ e n)
            generalize upd (upd H3 W (.lst ws')) el (.lst []) = H4 at hw4 hk4 hu4 ha4 he4 S4 B4 ⊢
            have hgot : ∃ la zs us, (valV ku (tk th)).getD (.ref el) = .ref la ∧ la ≠ D ∧ la ≠ W ∧ H4 la = some (.lst zs) ∧ Paired (TriAt K H) zs us ∧ (∀ t ∈ us, t ∈ TT) ∧ ∀ t ∈ TT, th ∈ tri t → t ∈ us := by
              cases e : valV ku (tk th) with
              | none =>
                refine ⟨el, [], [], rfl, ne_of he4 hk4 (by intro z; cases z), ?_, he4, .nil, fun t ht => absurd ht List.not_mem_nil, fun t ht hx => ?_⟩
                · intro e
                  rw [e] at hel
                  rw [upd_same] at hel
                  cases hel
                · have := hus.some_ t th ⟨ht, hx⟩
                  rw [e] at this
                  cases this
              | some v =>
                obtain ⟨u, zs, us, rfl, h0, h1, h2, h3, h4, h5⟩ := hus.ok _ v e
                have nD : u ≠ D := ne_of h1 hk2 (by intro z; cases z)
                exact ⟨u, zs, us, rfl, nD, ne_of_none h1 hW, B4 _ _ h1 nD, h3, h4, fun t ht hx => h5 t th rfl ⟨ht, hx⟩⟩
            obtain ⟨la, zs, us, eo, nlD, nlW, hla, hpz, husT, hall⟩ := hgot
            refine ⟨_, DGet.t (k := tk th) hu4 ha4, la, eo, ⟨_, .inl (.inl hla)⟩, ?_⟩
            have zl : zs.length = us.length := Paired.length hpz
            refine for_it walk_list (fun j σ H' => (∃ x4 x5 x7, σ = [some (.ref l1), some (.ref l2), some (.ref D), some (.ref U), x4, x5, some (.ref W), x7]) ∧ But2 D W H4 H' ∧ ∃ kvs' ws ths, H' D = some (.dT kvs') ∧ H' W = some (.lst ws) ∧ Paired (ThAt H2) ws ths ∧ Snd TT B (kn kvs') ∧ WorkJ TT (kn kvs') ths us j ∧
                kvs'.length + cnt TT kvs' ≤ 500 ∧ ws.length + cnt TT kvs' ≤ 500 ∧ 2 * cnt TT kvs' + ws.length < 2 * cnt TT kvs + (ws' ++ [V.ref a]).length)
              ⟨⟨_, _, _, rfl⟩, fun b o e _ _ => e, kvs, ws', ths', hk4, hw4, hps', hsnd, work_pop hwork hall, hc1, by rw [List.length_append] at hc2; omega, by rw [List.length_append]; show _ < _ + (_ + 1); omega⟩ (fun j σ H' _ h => .inl (.inl (h.2.1 _ _ hla nlD nlW))) ?_ ?_
            · rintro j y σ _ H5 hj5 ⟨⟨x4, x5, x7, rfl⟩, B5, kv5, ws5, th5, hk5, hw5, hp5, hs5, hwk5, hc51, hc52, hm5⟩ ⟨rfl, ey⟩
              have S5 : Same H H5 := fun b o e => B5 _ _ (S4 _ _ e) (ne_of_none e hD) (ne_of_none e hW0)
              have B52 : But D H2 H5 := fun b o e n => B5 _ _ (B4 _ _ e n) n (ne_of_none e hW)
              obtain ⟨t, et, ht⟩ := paired_at hpz ey
              have htT := husT t (List.mem_of_getElem? et)
              obtain ⟨r, cs, rfl, hr', hcs⟩ := id ht
              have csl : cs.length = 3 := Paired.length hcs
              refine ⟨_, rfl, r, rfl, ⟨_, S5.tup hr'⟩, fun L hL => ?_⟩
              have nLD : D ≠ L := ne_of_none hk5 hL
              have nLW : W ≠ L := ne_of_none hw5 hL
              refine cc_it walk_tup (fun i H' => Same H5 H' ∧ ∃ acc, H' L = some (.lst acc) ∧ acc.length ≤ i ∧ Paired (ThAt H) acc (((tri t).take i).filter fun x => !kn kv5 x)) ⟨.new hL, [], upd_same, Nat.zero_le _, .nil⟩ (fun i H' _ h => (S5.trans h.1).tup hr') ?_ ?_
              · rintro i y _ H6 hi6 ⟨S6, acc, hac, hal, hpa⟩ ⟨rfl, ey6⟩
                obtain ⟨th6, e6, hy6⟩ := paired_at hcs ey6
                obtain ⟨a6, rfl, ha6⟩ := id (hy6.same (S5.trans S6))
                have e7 : (tri t).take (i + 1) = (tri t).take i ++ [th6] := by rw [List.take_succ, e6]; rfl
                refine ⟨rfl, _, rfl, _, rfl, D, _, rfl, DGet.t (k := tk th6) (S6 _ _ hk5) ha6, _, rfl, ?_⟩
                cases ek : kn kv5 th6 with
                | true =>
                  refine iteBN (by show (!kn kv5 th6) = false; rw [ek]; rfl) ⟨S6, acc, hac, by omega, ?_⟩
                  rw [e7, List.filter_append]
                  simp only [List.filter, ek, Bool.not_true]
                  rw [List.append_nil]
                  exact hpa
                | false =>
                  refine iteB (by show (!kn kv5 th6) = true; rw [ek]; rfl) ⟨_, rfl, acc, hac, small1000 (by omega), S6.at hL, _, upd_same, by simp; omega, ?_⟩
                  rw [e7, List.filter_append]
                  simp only [List.filter, ek, Bool.not_false]
                  exact paired_snoc hy6 hpa
              · rintro H6 ⟨S6, acc, hac, hal, hpa⟩
                rw [csl] at hpa
                have e8 : (tri t).take 3 = tri t := rfl
                rw [e8] at hpa
                have hk6 := S6 _ _ hk5
                have hw6 := S6 _ _ hw5
                refine ⟨_, rfl, _, acc.length, rfl, .inl ⟨acc, .inl (.inl hac), rfl⟩, rfl, _, rfl, ?_⟩
                by_cases h1 : acc.length = 1
                · refine iteD (by rw [h1]; rfl) ?_
                  obtain ⟨y1, rfl⟩ := List.length_eq_one_iff.mp h1
                  have hfl := Paired.length hpa
                  obtain ⟨z, hz⟩ := List.length_eq_one_iff.mp (hfl.symm.trans h1)
                  rw [hz] at hpa
                  obtain ⟨p0, hv, rfl⟩ := lack_one hz
                  obtain ⟨z', ez', hy1⟩ := paired_at hpa (i := 0) (x := y1) rfl
                  cases ez'
                  obtain ⟨a1, rfl, ha1⟩ := id (hy1.same (S5.trans S6))
                  have nkW : D ≠ W := nDW
                  have hcnt : cnt TT (putK kv5 (tk (pick t p0)) (.bl true)) < cnt TT kv5 := by
                    refine cnt_lt (z := pick t p0) (fun x hx => ?_) (List.mem_flatMap.mpr ⟨t, htT, pick_tri hv.1⟩) (by rw [hv.2.2.2]; rfl) (by rw [(kn_put kv5 (pick t p0) (pick t p0) (.bl true)).mpr (.inr rfl)]; rfl)
                    cases q : kn kv5 x with
                    | false => rfl
                    | true =>
                      rw [(kn_put kv5 (pick t p0) x (.bl true)).mpr (.inl q)] at hx
                      cases hx
                  have hlp := length_putK kv5 (tk (pick t p0)) (.bl true)
                  refine ⟨_, rfl, _, rfl, L, _, 0, _, rfl, rfl, .inl (.inl hac), atI_nat (j := 0) rfl, D, _, rfl, DPut.t (k := tk (pick t p0)) hk6 ha1 (small1000 (by omega)), ?_⟩
                  have hw7 : upd H6 D (.dT (putK kv5 (tk (pick t p0)) (.bl true))) W = some (.lst ws5) := by rw [upd_ne nDW.symm]; exact hw6
                  refine ⟨_, rfl, .inl ⟨rfl, _, .inl (.inl hw7)⟩, _, rfl, L, _, 0, .ref a1, rfl, rfl, .inl (.inl (by rw [upd_ne nLD.symm]; exact hac)), atI_nat (j := 0) rfl, W, ws5, _, rfl, rfl, hw7, small1000 (by omega), ?_⟩
                  refine ⟨⟨_, _, _, rfl⟩, fun b o e n1 n2 => ?_, putK kv5 (tk (pick t p0)) (.bl true), _, th5 ++ [pick t p0], by rw [upd_ne nDW, upd_same], upd_same, paired_snoc ((hy1.same S2)) hp5, snd_add hs5 htT hv fun x => kn_put kv5 _ x _, work_add hwk5 et hv fun x => kn_put kv5 _ x _, by omega, by rw [List.length_append]; show _ + 1 + _ ≤ _; omega, ?_⟩
                  · rw [upd_ne n2, upd_ne n1]
                    exact S6 _ _ (B5 _ _ e n1 n2)
                  · rw [List.length_append]
                    show _ + (_ + 1) < _
                    omega
                · refine iteDN (fun e => h1 (by injection e with e; omega)) ⟨⟨_, _, _, rfl⟩, fun b o e n1 n2 => S6 _ _ (B5 _ _ e n1 n2), kv5, ws5, th5, hk6, hw6, hp5, hs5, work_skip hwk5 et fun p hv => h1 ?_, hc51, hc52, hm5⟩
                  rw [Paired.length hpa, lack_viol hv]
                  rfl
            · rintro σ H5 ⟨hσ, B5, kv5, ws5, th5, hk5, hw5, hp5, hs5, hwk5, hc51, hc52, hm5⟩
              rw [zl] at hwk5
              refine ⟨_, hm5, hσ, fun b o e => ?_, fun b o e n => ?_, kv5, ws5, th5, hk5, hw5, hp5, hs5, work_end hwk5, hc51, hc52, rfl⟩
              · exact B5 _ _ (S4 _ _ e) (ne_of_none e hD) (ne_of_none e hW0)
              · exact B5 _ _ (B4 _ _ e n) n (ne_of_none e hW)
theorem g59 (T : Txt K mg Z) (G : GTxt K mg "got_things" (top 59) [] []) : GDef P w K mg base CX0 1 "got_things" ["triples", "things"] [] (spGot K) := gdef G (fun _ _ _ _ _ _ us hl => match us, hl with | [_, _], _ => rfl) fun f fd F => ok59 T F
end
end K85
/-! K85R6: a tuple whose own object is known to carry no dict; its method index. -/
namespace K85
open PySem PySem.Spec PyProof.Rows L2
section
variable {X : Cx} {es : List Expr} {t : TA} {pos : Pos}
/-- (a, ..): a new tuple, with its object -/
def tTupF (t : TA) : TE := fun σ H Q => t σ H fun xs H1 => xs.length ≤ sizeLine ∧ ∀ (p : Addr) (ob : Obj), H1 p = none → ob.dict = none → Q (.ref p) (upd H1 p (.frz ob (.tup xs)))
theorem pe_tupF {x1} (h : PA X es t) : PE X (.Tuple es x1 pos) (tTupF t) := by
  refine ⟨fun pins s σ H Q I hq => ?_⟩
  refine wpAny_Tuple_spliced (thn (h.run pos pins s σ H _ I hq) fun us s1 ⟨xs, H1, I1, r, z, q⟩ => ⟨by rw [← r.length]; exact z, ?_⟩)
  have hf : H1 s1.heap.objs.size = none := I1.hok.fresh (Nat.le_refl _)
  refine ⟨.ref s1.heap.objs.size, upd H1 s1.heap.objs.size (.frz _ (.tup xs)), I1.laid (t' := s1.toks) (fun b u e => Heap.get?_push_of_some _ e) (Nat.le_refl _) ⟨Heap.get?_push_size _ rfl, ?_⟩, rfl, q _ _ hf rfl⟩
  exact ⟨z, us, r, ⟨_, Heap.get?_push_size _ rfl, rfl, _, rfl⟩⟩
variable {o e : Expr} {to : TE} {name : Str} {apos cpos : Pos} {id : String} {r : V → List V → Hp → VK → Prop}
/-- a method of such a tuple -/
def tBMF (r : V → List V → Hp → VK → Prop) (to : TE) (t : TA) : TE := fun σ H Q => to σ H fun x H1 => (∃ (p : Addr) (ob : Obj) (xs : List V), x = .ref p ∧ H1 p = some (.frz ob (.tup xs)) ∧ ob.dict = none) ∧ t σ H1 fun xs H2 => r x xs H2 Q
theorem pe_bmF (pa : PlainAttrs "tuple") (slot : Slot "tuple" name id) (hty : typeOf (.builtin id) = pure (.type "method_descriptor")) (hm : MtR X id r) (ho : PE X o to) (ha : PA X (e :: es) t)
    (hbase : attributeBase o name X.env (eval o X.env) = eval o X.env := by rfl)
    (hfew : ((backTo cpos (starEach (e :: es) X.env)).all (fun x => !x.1) && (backToKw cpos (keywordEach [] X.env)).all (fun x => x.1.isSome)
      && decide ((e :: es).length + ([] : List Keyword).length + (if ([] : List Keyword).isEmpty then 0 else 1) < 30)) = true := by rfl)
    (hline : (apos.endLine == cpos.line) = true := by rfl) (hs : starEach (e :: es) X.env = (false, eval e X.env) :: starEach es X.env := by rfl) (hplain : (backTo cpos (starEach es X.env)).any (·.1) = false := by rfl) :
    PE X (.Call (.Attribute o name apos) (e :: es) [] cpos) (tBMF r to t) := by
  refine ⟨fun pins s σ H Q I h => ?_⟩
  refine wpAny_Call_method_late hbase hfew hline rfl (thn (ho.run pins s σ H _ I h) fun v s1 ⟨x, H1, I1, r1, ⟨p, ob, xs, ex, ep, ed⟩, q1⟩ => ?_)
  have k := I1.hok p _ ep
  have k1 : s1.heap.get? p = some ob := k.1
  obtain ⟨_, its, _, o2, g2, c2, _⟩ := k.2
  rw [k1] at g2
  cases g2
  have r1' := r1
  subst ex
  obtain rfl : v = Value.ref p := r1'
  refine ⟨"tuple", id, pa, slot, hty, ⟨ob, k1, c2⟩, fun a e => by cases e; exact ⟨ob, k1, ed⟩, ?_⟩
  have hA := ha.run cpos pins s1 σ H1 _ I1 q1
  rw [hs] at hA ⊢
  refine Calls.callWith_builtin (by show (false || (backTo cpos (starEach es X.env)).any (·.1)) = false; rw [hplain] <;> rfl) (Calls.evalArgs_plain ?_)
  exact thn hA fun us s2 ⟨vs, H2, I2, r2, q2⟩ => hm pins s2 σ H2 (.ref p) vs (.ref p) us Q I2 r1 r2 q2
end
end K85
/-! K85C: cells: check_sides, check_cell_triples, thing_of, copies_of, chain_triples. -/
namespace K85
open PySem PySem.Spec PyProof.Rows L2
/-- what a cell of this law is made of -/
structure CD where
  k : Str × List (T3 Nat)
  c : Bool
  inner : List Str
  rows : List (T3 Str)
  stored : List Str
  wanted : List Str
  start : List Str
  stop : List Str
abbrev nP : List Str := ["p"]
abbrev nQ : List Str := ["q"]
abbrev nX : List Str := ["x"]
abbrev nXY : List Str := ["x", "y"]
def CD.names (D : CD) : List Str := nP ++ D.inner ++ nQ
structure CD.Ok (D : CD) : Prop where
  kin : D.k ∈ lots
  inn : D.inner = nX ∨ D.inner = nXY
  rows : D.rows.length ≤ 2
  names : ∀ r ∈ D.rows, ∀ n ∈ tri r, n ∈ D.names
  stored : ∀ n ∈ D.stored, n ∈ D.inner ++ nQ
  storedN : D.stored.Nodup
  storedL : D.stored.length ≤ 6
  wanted : ∀ n ∈ D.wanted, n ∈ D.inner ++ nQ
  wantedN : D.wanted.Nodup
  wanted0 : (∃ a, D.wanted = [a]) ∨ ∃ a b, D.wanted = [a, b]
  start : D.start = nP ∨ D.start = []
  stop : D.stop = nQ ∨ D.stop = []
def RowAt (K : PySem.W.Frag) (H : Hp) (x : V) (r : T3 Str) : Prop := ∃ b, x = .ref b ∧ SqT K H b ((tri r).map V.str)
def RowsAt (K : PySem.W.Frag) (H : Hp) (a : Addr) (rows : List (T3 Str)) : Prop := ∃ xs, SqT K H a xs ∧ Paired (RowAt K H) xs rows
theorem RowAt.same {K : PySem.W.Frag} {H H' : Hp} {x : V} {r : T3 Str} (h : RowAt K H x r) (S : Same H H') : RowAt K H' x r := by
  obtain ⟨b, e, h⟩ := h
  exact ⟨b, e, S.tup h⟩
theorem RowsAt.same {K : PySem.W.Frag} {H H' : Hp} {a : Addr} {rows : List (T3 Str)} (h : RowsAt K H a rows) (S : Same H H') : RowsAt K H' a rows := by
  obtain ⟨xs, h1, h2⟩ := h
  exact ⟨xs, S.tup h1, paired_imp (fun _ _ q => q.same S) h2⟩
/-- a tuple of texts -/
abbrev TxS (K : PySem.W.Frag) (H : Hp) (a : Addr) (ns : List Str) : Prop := SqT K H a (ns.map V.str)
/-- an object Cell -/
structure CellAt (Z : Cs) (K : PySem.W.Frag) (H : Hp) (p : Addr) (D : CD) : Prop where
  ex : ∃ dx pk ti tn to tt ts tw tb te ob, H p = some (.ins Z.C dx (cfs (.ref pk) (.ref ti) (.ref tn) (.ref to) (.ref tt) (.ref ts) (.ref tw) (.ref tb) (.ref te))) ∧ KindAt Z.K H pk D.k.1 D.c ∧ H ti = some (.frz ob (.tup [.str "p"])) ∧ ob.dict = none ∧ TxS K H tn D.inner ∧ SqT K H to [.str "q"] ∧
    RowsAt K H tt D.rows ∧ TxS K H ts D.stored ∧ TxS K H tw D.wanted ∧ TxS K H tb D.start ∧ TxS K H te D.stop
theorem CellAt.same {Z : Cs} {K : PySem.W.Frag} {H H' : Hp} {p : Addr} {D : CD} (h : CellAt Z K H p D) (S : Same H H') : CellAt Z K H' p D := by
  obtain ⟨dx, pk, ti, tn, to, tt, ts, tw, tb, te, ob, h1, h2, h3, h4, h5, h6, h7, h8, h9, h10, h11⟩ := h.ex
  exact ⟨dx, pk, ti, tn, to, tt, ts, tw, tb, te, ob, S _ _ h1, h2.kp S.kp, S _ _ h3, h4, S.tup h5, S.tup h6, h7.same S, S.tup h8, S.tup h9, S.tup h10, S.tup h11⟩
def nameOkB (s : Str) : Bool := match s.cps.toList with
  | [] => false
  | c :: r => decide (r.length ≤ 7) && decide (c ∈ lits.cps.toList) && (c :: r).all fun d => decide (d ∈ signs.cps.toList)
theorem nameOk_of {s : Str} (h : nameOkB s = true) : NameOk s := by
  unfold nameOkB at h
  split at h
  · cases h
  · rename_i c r e
    simp only [Bool.and_eq_true, decide_eq_true_eq, List.all_eq_true] at h
    exact ⟨c, r, e, h.1.1, h.1.2, h.2⟩
theorem okP : ∀ n ∈ (["p", "x", "y", "q", "p0", "x0", "y0", "q0", "x1", "y1", "q1"] : List Str), NameOk n := by
  have h : (["p", "x", "y", "q", "p0", "x0", "y0", "q0", "x1", "y1", "q1"] : List Str).all nameOkB = true := by decide +kernel
  exact fun n hn => nameOk_of (List.all_eq_true.mp h n hn)
theorem CD.Ok.inNames {D : CD} (h : D.Ok) {n : Str} (hn : n ∈ D.inner ++ nQ) : n = "x" ∨ n = "y" ∨ n = "q" := by
  rcases h.inn with e | e <;> rw [e] at hn <;> simp at hn <;> rcases hn with rfl | rfl | rfl <;> simp
theorem CD.Ok.nameOk {D : CD} (h : D.Ok) {n : Str} (hn : n ∈ D.inner ++ nQ) : NameOk n := by
  rcases h.inNames hn with rfl | rfl | rfl <;> exact okP _ (by simp)
/-- a name's thing in the copy i -/
def thg (i : Nat) (n : Str) : Th := if i > 0 ∧ n = "p" then ((i : Int) - 1, "q") else (i, n)
def thg3 (i : Nat) (r : T3 Str) : T3 Th := (thg i r.1, thg i r.2.1, thg i r.2.2)
def chain (rows : List (T3 Str)) : List (T3 Th) := rows.flatMap fun r => [thg3 0 r, thg3 1 r]
section
variable {P : Program} {w : World} {K : PySem.W.Frag} {mg : Str → Option Value} {base : Heap} {Z : Cs} {f : Addr} {fd : FuncData}
abbrev PCN : List Str := ["names", "most", "allowed", "barred"]
/-! check_sides -/
theorem sc61 : FnScope ["ins", "inner", "outs"] ["ins", "inner", "outs"] (defScope (top 61)) := ⟨rfl, rfl, rfl, by decide +kernel, rfl, by decide +kernel, by decide +kernel⟩
def spSides (K : PySem.W.Frag) : Sp := fun vs H Q _ => ∃ (a b c : Addr) (inner : List Str), vs = [.ref a, .ref b, .ref c] ∧ TxS K H a nP ∧ TxS K H b inner ∧ TxS K H c nQ ∧ (inner = nX ∨ inner = nXY) ∧ ∀ H', Same H H' → Q .non H'
theorem ok61 (T : Txt K mg Z) (G2 : GDef P w K mg base CX0 2 "check_names" PCN [.non, .ref Z.E] (spNames K)) (G4 : GDef P w K mg base CX0 2 "check_names" PCN [] (spNames K)) (F : TF K "check_sides" "check_sides" (top 61) [] [] f fd) :
    FnOk P w K mg base CX0 3 f fd ["ins", "inner", "outs"] (spSides K) := by
  refine F.ok sc61 (fun vs H Q E h => ?_) (fun cdv A outer s H vs Q E hr h => ?_)
  · obtain ⟨_, _, _, _, rfl, _⟩ := h
    rfl
  · obtain ⟨a, b, c, inner, rfl, ha, hb, hc, hin, q⟩ := h
    refine ⟨_, PSs.nox <| pss_cons (ps_expr (pe_g G2 hr pass0 (pa_cons (pv 0) (pa_cons (C8.pe_gc (by rfl) T.mSIDE) pa_nil))))
      (pss_cons (ps_expr (pe_g G4 hr pass0 (pa_cons (pv 1) (pa_cons (C8.pe_gc (by rfl) T.mINNER) (pa_cons pe_non (pa_cons (pv 0) pa_nil))))))
      (pss_cons (ps_if (PW.pt (pw_or (pt_not (pt_val (pe_isT T T.tup boot_tuple (pv 2)))) (pw_or1 (pt_cmpR op_ne (pe_b call_len T.len PySem.boot_len (pa_cons (pv 2) pa_nil)) (pe_b call_len T.len PySem.boot_len (pa_cons (pv 0) pa_nil)) (nomark _))))) pss_never pss_nil)
      (pss_one (ps_expr (pe_g G4 hr pass0 (pa_cons (pv 2) (pa_cons pe_non (pa_cons pe_non (pa_cons (pe_op op_catT (pv 0) (pv 1)) pa_nil))))))))), ?_⟩
    have hin' : ∀ n ∈ inner, NameOk n ∧ n ∉ nP ∧ n ≠ "q" := by
      rcases hin with rfl | rfl <;> intro n hn <;> simp only [List.mem_cons, List.not_mem_nil, or_false] at hn
      · subst hn; exact ⟨okP _ (by simp), by decide +kernel, by decide +kernel⟩
      · rcases hn with rfl | rfl
        · exact ⟨okP _ (by simp), by decide +kernel, by decide +kernel⟩
        · exact ⟨okP _ (by simp), by decide +kernel, by decide +kernel⟩
    have hnd : inner.Nodup := by rcases hin with rfl | rfl <;> decide +kernel
    have hl6 : inner.length ≤ 6 ∧ inner ≠ [] := by rcases hin with rfl | rfl <;> exact ⟨by decide, by simp⟩
    refine ⟨_, rfl, a, Z.E, _, _, nP, [], rfl, ha, T.eT _, fun n hn => by rw [List.mem_singleton.mp hn]; exact okP _ (by simp), by decide +kernel, fun n _ => List.not_mem_nil, .inr ⟨3, rfl, by decide⟩, .inl rfl, fun H1 S1 => ?_⟩
    refine ⟨_, rfl, _, rfl, b, a, _, _, inner, nP, rfl, S1.tup hb, S1.tup ha, fun n hn => (hin' n hn).1, hnd, fun n hn => (hin' n hn).2.1, .inr ⟨6, rfl, hl6.1⟩, .inl rfl, fun H2 S2 => ?_⟩
    have S12 := S1.trans S2
    refine ⟨_, rfl, _, _, _, _, true, rfl, .ty _, ty_tup (S12.tup hc), kit_ty (by decide +kernel), true, rfl, iteF ⟨_, rfl, _, 1, rfl, .inr ⟨_, S12.tup hc, rfl⟩, _, rfl, _, 1, rfl, .inr ⟨_, S12.tup ha, rfl⟩, rfl, _, rfl, iteNS rfl ?_⟩⟩
    refine ⟨_, rfl, _, rfl, _, rfl, a, b, _, _, rfl, rfl, S12.tup ha, S12.tup hb, by simp, line1000 (by simp; omega), fun e => absurd (List.map_eq_nil_iff.mp e) hl6.2, fun _ t ht => ?_⟩
    have S3 := S12.trans (Same.new (o := .tup (nP.map V.str ++ inner.map V.str)) ht)
    refine ⟨c, t, _, _, nQ, nP ++ inner, rfl, S3.tup hc, .inl (.inl (by rw [upd_same, List.map_append])), fun n hn => by rw [List.mem_singleton.mp hn]; exact okP _ (by simp), by decide +kernel, fun n hn hm => ?_, .inl rfl, .inl rfl, fun H4 S4 => q H4 (S3.trans S4)⟩
    rw [List.mem_singleton.mp hn] at hm
    rcases List.mem_append.mp hm with h | h
    · exact absurd (List.mem_singleton.mp h) (by decide +kernel)
    · exact (hin' _ h).2.2 rfl
theorem g61 (T : Txt K mg Z) (G2 : GDef P w K mg base CX0 2 "check_names" PCN [.non, .ref Z.E] (spNames K)) (G4 : GDef P w K mg base CX0 2 "check_names" PCN [] (spNames K)) (G : GTxt K mg "check_sides" (top 61) [] []) :
    GDef P w K mg base CX0 3 "check_sides" ["ins", "inner", "outs"] [] (spSides K) := gdef G (fun _ _ _ _ _ _ us hl => match us, hl with | [_, _, _], _ => rfl) fun f fd F => ok61 T G2 G4 F
/-! check_cell_triples -/
abbrev N62 : List Str := ["triples", "names", "index", "triple", "name"]
theorem sc62 : FnScope N62 ["triples", "names"] (defScope (top 62)) := ⟨rfl, rfl, rfl, by decide +kernel, rfl, by decide +kernel, by decide +kernel⟩
def spCT (K : PySem.W.Frag) : Sp := fun vs H Q _ => ∃ (a b : Addr) (rows : List (T3 Str)) (ns : List Str), vs = [.ref a, .ref b] ∧ RowsAt K H a rows ∧ TxS K H b ns ∧ rows.length ≤ 8 ∧ (∀ r ∈ rows, ∀ n ∈ tri r, n ∈ ns) ∧ ∀ H', Same H H' → Q .non H'
theorem ok62 (T : Txt K mg Z) (G36 : GDef P w K mg base CX0 1 "is_row" ["value", "length"] [] (spRow K)) (F : TF K "check_cell_triples" "check_cell_triples" (top 62) [] [] f fd) : FnOk P w K mg base CX0 2 f fd ["triples", "names"] (spCT K) := by
  refine F.ok sc62 (fun vs H Q E h => ?_) (fun cdv A outer s H vs Q E hr h => ?_)
  · obtain ⟨_, _, _, _, rfl, _⟩ := h
    rfl
  · obtain ⟨a, b, rows, ns, rfl, ⟨xs, hxs, hpx⟩, hb, hl, hn, q⟩ := h
    refine ⟨_, PSs.nox <| pss_cons (ps_if (pt_not (pt_val (pe_isT T T.tup boot_tuple (pv 0)))) pss_never pss_nil)
      (pss_one (ps_for PassesOwn.never rfl (pi_enumT T.enu (pa_cons (pv 0) pa_nil)) (pg_tup rfl (pgs_cons (pg_name (i := 2) sc62.nd rfl (Or.inl rfl)) (pgs_cons (pg_name (i := 3) sc62.nd rfl (Or.inl rfl)) pgs_nil)))
        (pss_cons (ps_if (PW.pt (pw_or (pt_cmpR op_eq (pv 2) (C8.pe_gc (by rfl) T.mTRI) (nomark _)) (pw_or1 (pt_not (pt_val (pe_g G36 hr pass0 (pa_cons (pv 3) (pa_cons pe_int pa_nil)))))))) pss_never pss_nil)
        (pss_one (ps_if (pt_not (pt_val (pe_b (cr_all rfl) T.all (by decide +kernel) (pa_cons (pe_lc (own := [("name", 4)]) (g := gName 4) (tt := tYes) (te := tAndV (tCB (rIsi K) (tCons (tVar 4) (tCons (tC (.ty "str")) tNil))) (tOp (rIn K false) (tVar 4) (tVar 1))) (by rfl) sc62.nd (pi_tup (pv 3)) (blkOk_by (N := N62) (sc := defScope (top 62)) (by decide +kernel))
            (fun _ _ _ _ _ => pg_name (i := 4) sc62.nd rfl (Or.inl rfl)) (fun _ _ _ _ _ => pts_nil) (fun _ _ _ _ _ => pe_and (pe_isT T T.str boot_str (pv 4)) (pe_one (pe_cmpR op_in_seq (pv 4) (pv 1) rfl)))) pa_nil)))) pss_never pss_nil))))), ?_⟩
    refine ⟨_, rfl, _, _, _, _, true, rfl, .ty _, ty_tup hxs, kit_ty (by decide +kernel), true, rfl, iteF ?_⟩
    have xl : xs.length = rows.length := Paired.length hpx
    refine ⟨_, rfl, a, _, rfl, hxs, for_it walk_enumT (fun i σ H' => (∃ x y z, σ = [some (.ref a), some (.ref b), x, y, z]) ∧ Same H H') ⟨⟨_, _, _, rfl⟩, .refl H⟩ (fun i σ H' _ h => h.2.tup hxs) ?_ ?_⟩
    · rintro i x σ H1 H2 hi ⟨⟨x0, y0, z0, rfl⟩, S⟩ ⟨T0, a1, a2, rfl, hT, rfl, e1, e2⟩
      cases e1
      have e2 : xs[i]? = some a2 := e2
      have S1 := S.trans (Same.new (o := .tup [.int (i : Nat), a2]) hT)
      obtain ⟨row, er, r, rfl, hr'⟩ := paired_at hpx e2
      have hr1 := S1.tup hr'
      refine ⟨T0, _, rfl, .inl (.inl upd_same), rfl, _, _, rfl, _, _, rfl, rfl, ?_⟩
      refine ⟨_, rfl, rfl, _, rfl, iteDN (fun z => by injection z with z; omega) ⟨_, rfl, r, _, 3, rfl, hr1, rfl, true, rfl, iteF ?_⟩⟩
      have hb1 := S1.tup hb
      generalize upd H1 T0 (.tup [.int (i : Nat), .ref r]) = H2 at S1 hr1 hb1 ⊢
      refine ⟨_, rfl, r, rfl, ⟨_, hr1⟩, fun D hD => ?_⟩
      refine cc_it walk_tup (fun i H' => Same H2 H' ∧ H' D = some (.lst ((List.replicate i true).map V.bl))) ⟨.new hD, upd_same⟩ (fun i H' _ h => h.1.tup hr1) ?_ ?_
      · rintro j x _ H3 hj ⟨S3, e⟩ ⟨rfl, ex⟩
        rw [List.getElem?_map] at ex
        obtain ⟨n, en, rfl⟩ := Option.map_eq_some_iff.mp ex
        have hnn := hn row (List.mem_of_getElem? er) n (List.mem_of_getElem? en)
        refine ⟨rfl, _, rfl, _, _, _, _, true, rfl, .ty _, .base (.str n), kit_ty (by decide +kernel), true, rfl, iteT ⟨_, rfl, _, rfl, b, _, rfl, .inr (S3.tup hb1), rfl, flat_strs _, _, e, small1000 (by simp [tri] at hj ⊢; omega), S3.at hD, ?_⟩⟩
        rw [upd_same]
        have e1 : inV (V.str n) (ns.map V.str) = true := by rw [inV_str, decide_eq_true hnn]
        have e0 : (if false then !inV (V.str n) (ns.map V.str) else inV (V.str n) (ns.map V.str)) = true := e1
        rw [e0, List.replicate_succ', List.map_append]
        rfl
      · rintro H3 ⟨S3, e⟩
        refine ⟨D, _, rfl, .inl (.inl e), ?_⟩
        rw [show ∀ n, (List.replicate n true).all id = true from fun n => by simp]
        exact ⟨true, rfl, iteF ⟨⟨_, _, _, rfl⟩, S1.trans S3⟩⟩
    · rintro σ' H' ⟨_, S⟩
      exact q H' S
theorem g62 (T : Txt K mg Z) (G36 : GDef P w K mg base CX0 1 "is_row" ["value", "length"] [] (spRow K)) (G : GTxt K mg "check_cell_triples" (top 62) [] []) : GDef P w K mg base CX0 2 "check_cell_triples" ["triples", "names"] [] (spCT K) :=
  gdef G (fun _ _ _ _ _ _ us hl => match us, hl with | [_, _], _ => rfl) fun f fd F => ok62 T G36 F
end
end K85
/-! K85C2: thing_of, copies_of, chain_triples. -/
namespace K85
open PySem PySem.Spec PyProof.Rows L2
theorem lst_noT {H : Hp} {D : Addr} {xs : List V} (h : H D = some (.lst xs)) : ∀ o, H D = some o → ¬ TupO o := fun o e => by
  rw [h] at e
  cases e
  exact id
theorem ThAt.upd {D : Addr} {H : Hp} {x : V} {t : Th} {u : HO} (h : ThAt H x t) (hd : ∀ o, H D = some o → ¬ TupO o) : ThAt (upd H D u) x t := h.but (.upd D H u) hd
theorem TriAt.but {K : PySem.W.Frag} {D : Addr} {H H' : Hp} {x : V} {t : T3 Th} (h : TriAt K H x t) (B : But D H H') (hd : ∀ o, H D = some o → ¬ TupO o) : TriAt K H' x t := by
  obtain ⟨r, xs, e, h1, h2⟩ := h
  exact ⟨r, xs, e, B.seqT hd h1, paired_imp (fun _ _ q => q.but B hd) h2⟩
theorem paired_append {α β : Type} {R : α → β → Prop} : ∀ {xs xs' : List α} {ys ys' : List β}, Paired R xs ys → Paired R xs' ys' → Paired R (xs ++ xs') (ys ++ ys')
  | _, _, _, _, .nil, h => h
  | _, _, _, _, .cons q r, h => .cons q (paired_append r h)
section
variable {P : Program} {w : World} {K : PySem.W.Frag} {mg : Str → Option Value} {base : Heap} {Z : Cs} {f : Addr} {fd : FuncData}
abbrev N65 : List Str := ["cell", "number", "name"]
theorem sc65 : FnScope N65 N65 (defScope (top 65)) := ⟨rfl, rfl, rfl, by decide +kernel, rfl, by decide +kernel, by decide +kernel⟩
def spThing (Z : Cs) (K : PySem.W.Frag) : Sp := fun vs H Q _ => ∃ (p i : Nat) (n : Str) (D : CD), vs = [.ref p, .int i, .str n] ∧ CellAt Z K H p D ∧ ∀ t, H t = none → Q (.ref t) (upd H t (.tup [.int (thg i n).1, .str (thg i n).2]))
theorem ok65 (T : Txt K mg Z) (F : TF K "thing_of" "thing_of" (top 65) [] [] f fd) : FnOk P w K mg base CX0 1 f fd N65 (spThing Z K) := by
  refine F.ok sc65 (fun vs H Q E h => ?_) (fun cdv A outer s H vs Q E hr h => ?_)
  · obtain ⟨_, _, _, _, rfl, _⟩ := h
    rfl
  · obtain ⟨p, i, n, D, rfl, hp, q⟩ := h
    have c := T.iC.cl
    refine ⟨_, PSs.nox <| pss_cons (ps_if (PW.pt (pw_and (pt_cmpR op_gt (pv 1) pe_int (nomark _)) (pw_and1 (pt_cmpR op_in_seq (pv 2) (pe_at c T.c_ins (pv 0)) rfl))))
        (pss_one (ps_ret (pe_tup (pa_cons (pe_op op_sub (pv 1) pe_int) (pa_cons (pe_ix ix_tup (pe_at c T.c_outs (pv 0)) (pe_bmF PySem.F.plainAttrs_tuple PySem.F.slot_tuple_index PySem.F.type_tuple_index mt_tup_index (pe_at c T.c_ins (pv 0)) (pa_cons (pv 2) pa_nil)) (fun _ _ => rfl)) pa_nil))))) pss_nil)
      (pss_one (ps_ret (pe_tup (pa_cons (pv 1) (pa_cons (pv 2) pa_nil))))), ?_⟩
    obtain ⟨dx, pk, ti, tn, to, tt, ts, tw, tb, te, ob, h1, h2, h3, h4, h5, h6, h7, h8, h9, h10, h11⟩ := hp.ex
    have hti : SqT K H ti (nP.map V.str) := .inl (.inr ⟨ob, h3⟩)
    refine ⟨_, rfl, _, _, rfl, rfl, _, rfl, ?_⟩
    by_cases hi : i > 0
    · refine iteD (by omega) ⟨_, rfl, _, rfl, p, dx, _, _, rfl, h1, cfs_ins .., ti, _, rfl, .inr hti, rfl, flat_strs _, _, rfl, ?_⟩
      by_cases hn : n = "p"
      · subst hn
        refine iteB (by show inV _ _ = true; rw [inV_str]; decide +kernel) ?_
        refine ⟨_, rfl, _, _, rfl, rfl, _, rfl, p, dx, _, _, rfl, h1, cfs_outs .., _, rfl, p, dx, _, _, rfl, h1, cfs_ins .., ⟨ti, ob, _, rfl, h3, h4⟩, _, rfl, ti, nP, "p", 0, rfl, rfl, hti, rfl, (fun m hm => absurd hm (Nat.not_lt_zero _)), to, _, _, _, rfl, rfl, h6, atI_nat (j := 0) rfl, line1000 (by simp), fun t ht => ?_⟩
        have e : thg i "p" = (((i : Int) - 1, ("q" : Str)) : Th) := if_pos ⟨hi, rfl⟩
        have := q t ht
        rw [e] at this
        exact this
      · refine iteBN (by show inV _ _ = false; rw [inV_str, decide_eq_false]; exact fun z => hn (List.mem_singleton.mp z)) ⟨_, rfl, _, rfl, line1000 (by simp), fun t ht => ?_⟩
        have e : thg i n = ((i : Int), n) := if_neg fun z => hn z.2
        have := q t ht
        rw [e] at this
        exact this
    · refine iteDN (by omega) (iteF ⟨_, rfl, _, rfl, line1000 (by simp), fun t ht => ?_⟩)
      have e : thg i n = ((i : Int), n) := if_neg fun z => hi z.1
      have := q t ht
      rw [e] at this
      exact this
theorem g65 (T : Txt K mg Z) (G : GTxt K mg "thing_of" (top 65) [] []) : GDef P w K mg base CX0 1 "thing_of" N65 [] (spThing Z K) := gdef G (fun _ _ _ _ _ _ us hl => match us, hl with | [_, _, _], _ => rfl) fun f fd F => ok65 T F
/-! copies_of -/
abbrev N66 : List Str := ["cell", "count", "triple", "number", "name"]
abbrev rTo (K : PySem.W.Frag) : List V → Hp → VK → Prop := fun xs H Q => ∃ p ys, xs = [.ref p] ∧ ((SqL K H p ys ∧ ∀ l, H l = none → Q (.ref l) (upd H l (.tup ys))) ∨ (SqT K H p ys ∧ Q (.ref p) H))
theorem sc66 : FnScope N66 ["cell", "count", "triple"] (defScope (top 66)) := ⟨rfl, rfl, rfl, by decide +kernel, rfl, by decide +kernel, by decide +kernel⟩
def spCopies (Z : Cs) (K : PySem.W.Frag) : Sp := fun vs H Q _ => ∃ (p r : Addr) (D : CD) (row : T3 Str), vs = [.ref p, .int 2, .ref r] ∧ CellAt Z K H p D ∧ TxS K H r (tri row) ∧ ∀ H' l xs, Same H H' → H l = none → H' l = some (.lst xs) → Paired (TriAt K H') xs [thg3 0 row, thg3 1 row] → Q (.ref l) H'
theorem ok66 (T : Txt K mg Z) (G65 : GDef P w K mg base CX0 1 "thing_of" N65 [] (spThing Z K)) (F : TF K "copies_of" "copies_of" (top 66) [] [] f fd) : FnOk P w K mg base CX0 2 f fd ["cell", "count", "triple"] (spCopies Z K) := by
  refine F.ok sc66 (fun vs H Q E h => ?_) (fun cdv A outer s H vs Q E hr h => ?_)
  · obtain ⟨_, _, _, _, rfl, _⟩ := h
    rfl
  · obtain ⟨p, r, D, row, rfl, hp, hr', q⟩ := h
    refine ⟨_, PSs.nox <| pss_one (ps_ret (pe_lc (own := [("number", 3)]) (g := gName 3) (tt := tYes) (te := tCB (rTo K) (tCons (tLc (iTup K (tVar 2)) (gName 4) tYes (tCall (spThing Z K) [] E0 (tCons (tVar 0) (tCons (tVar 3) (tCons (tVar 4) tNil)))) [4]) tNil)) (by rfl) sc66.nd
        (pi_range1 rfl T.ran (pa_cons (pv 1) pa_nil)) (blkOk_by (N := N66) (sc := defScope (top 66)) (by decide +kernel)) (fun _ _ _ _ _ => pg_name (i := 3) sc66.nd rfl (Or.inr rfl)) (fun _ _ _ _ _ => pts_nil)
        (fun _ _ _ _ _ => pe_callTy call_tuple_of (by rfl) T.tup boot_tuple (pa_cons (pe_lc (own := [("name", 4)]) (g := gName 4) (tt := tYes) (by rfl) sc66.nd (pi_tup (pv 2)) (by exact blkOk_by (N := N66) (sc := { kind := .function, names := [(".0", .local), ("number", .cell), ("tuple", .globalImplicit), ("cell", .cell), ("triple", .cell)], isGenerator := false, isCoroutine := false }) (by decide +kernel)) (fun _ _ _ _ _ => pg_name (i := 4) sc66.nd rfl (Or.inl rfl)) (fun _ _ _ _ _ => pts_nil)
          (fun _ _ _ _ _ => pe_g G65 hr pass0 (pa_cons (pv 0) (pa_cons (pv 3) (pa_cons (pv 4) pa_nil))))) pa_nil)))), ?_⟩
    refine ⟨_, rfl, 2, rfl, by decide, by decide, fun L hL => ?_⟩
    refine cc_it (walk_range (lo := 0) (n := 2)) (fun i H' => Same H H' ∧ ∃ acc, H' L = some (.lst acc) ∧ acc.length = i ∧ Paired (TriAt K H') acc ((List.range i).map fun n => thg3 n row)) ⟨.new hL, [], upd_same, rfl, .nil⟩ (fun _ _ _ _ => trivial) ?_ ?_
    · rintro i x _ H1 hi ⟨S1, acc, hac, hal, hpa⟩ ⟨rfl, ex⟩
      have ex : x = .int (i : Nat) := by rw [ex]; simp
      subst ex
      refine ⟨rfl, _, rfl, r, rfl, ⟨_, S1.tup hr'⟩, fun M hM => ?_⟩
      refine cc_it walk_tup (fun j H' => Same H1 H' ∧ ∃ ac2, H' M = some (.lst ac2) ∧ ac2.length = j ∧ Paired (ThAt H') ac2 (((tri row).take j).map (thg i))) ⟨.new hM, [], upd_same, rfl, .nil⟩ (fun j H' _ h => (S1.trans h.1).tup hr') ?_ ?_
      · rintro j y _ H2 hj ⟨S2, ac2, hac2, hal2, hpa2⟩ ⟨rfl, ey⟩
        rw [List.getElem?_map] at ey
        obtain ⟨n, en, rfl⟩ := Option.map_eq_some_iff.mp ey
        refine ⟨rfl, _, rfl, _, rfl, _, rfl, p, i, n, D, rfl, hp.same (S1.trans S2), fun t ht => ?_⟩
        have nMt : M ≠ t := ne_of_none hac2 ht
        refine ⟨ac2, by rw [upd_ne nMt]; exact hac2, small1000 (by simp [tri] at hj; omega), (S2.trans (.new ht)).at hM, _, upd_same, by simp [hal2], ?_⟩
        have e7 : (tri row).take (j + 1) = (tri row).take j ++ [n] := by rw [List.take_succ, en]; rfl
        rw [e7, List.map_append]
        have hno : ∀ o, upd H2 t (HO.tup [V.int (thg i n).fst, V.str (thg i n).snd]) M = some o → ¬ TupO o := lst_noT (xs := ac2) (by rw [upd_ne nMt]; exact hac2)
        refine paired_snoc (ThAt.upd ⟨t, rfl, upd_same⟩ hno) (paired_imp (fun _ _ q => (q.same (.new ht)).upd hno) hpa2)
      · rintro H2 ⟨S2, ac2, hac2, hal2, hpa2⟩
        refine ⟨M, ac2, rfl, .inl ⟨.inl (.inl hac2), fun t ht => ?_⟩⟩
        have nLt : L ≠ t := ne_of_none (S2 _ _ hac) ht
        have hac3 : upd H2 t (.tup ac2) L = some (.lst acc) := by rw [upd_ne nLt]; exact S2 _ _ hac
        have hno := lst_noT hac3
        refine ⟨acc, hac3, small1000 (by omega), ((S1.trans S2).trans (.new ht)).at hL, _, upd_same, by simp [hal], ?_⟩
        rw [List.range_succ, List.map_append]
        have e3 : (tri row).map V.str = [V.str row.1, V.str row.2.1, V.str row.2.2] := rfl
        have e8 : (tri row).take ((tri row).map V.str).length = tri row := rfl
        rw [e8] at hpa2
        refine paired_snoc (TriAt.but ⟨t, ac2, rfl, .inl (.inl upd_same), paired_imp (fun _ _ q => q.same (.new ht)) hpa2⟩ (.upd L _ _) hno) (paired_imp (fun _ _ q => ((q.same S2).same (.new ht)).but (.upd L _ _) hno) hpa)
    · rintro H1 ⟨S1, acc, hac, hal, hpa⟩
      exact q H1 L acc S1 hL hac hpa
theorem g66 (T : Txt K mg Z) (G65 : GDef P w K mg base CX0 1 "thing_of" N65 [] (spThing Z K)) (G : GTxt K mg "copies_of" (top 66) [] []) : GDef P w K mg base CX0 2 "copies_of" ["cell", "count", "triple"] [] (spCopies Z K) :=
  gdef G (fun _ _ _ _ _ _ us hl => match us, hl with | [_, _, _], _ => rfl) fun f fd F => ok66 T G65 F
/-! chain_triples -/
abbrev N67 : List Str := ["cell", "count", "triple", "copy"]
theorem sc67 : FnScope N67 ["cell", "count"] (defScope (top 67)) := ⟨rfl, rfl, rfl, by decide +kernel, rfl, by decide +kernel, by decide +kernel⟩
def spChain (Z : Cs) (K : PySem.W.Frag) : Sp := fun vs H Q _ => ∃ (p : Addr) (D : CD), vs = [.ref p, .int 2] ∧ CellAt Z K H p D ∧ D.rows.length ≤ 8 ∧ ∀ H' l xs, Same H H' → H l = none → H' l = some (.lst xs) → Paired (TriAt K H') xs (chain D.rows) → Q (.ref l) H'
theorem ok67 (T : Txt K mg Z) (G66 : GDef P w K mg base CX0 2 "copies_of" ["cell", "count", "triple"] [] (spCopies Z K)) (F : TF K "chain_triples" "chain_triples" (top 67) [] [] f fd) : FnOk P w K mg base CX0 3 f fd ["cell", "count"] (spChain Z K) := by
  refine F.ok sc67 (fun vs H Q E h => ?_) (fun cdv A outer s H vs Q E hr h => ?_)
  · obtain ⟨_, _, rfl, _⟩ := h
    rfl
  · obtain ⟨p, D, rfl, hp, r8, q⟩ := h
    refine ⟨_, PSs.nox <| pss_one (ps_ret (pe_lc2 (own := [("triple", 2), ("copy", 3)]) (vs1 := [3]) (g := gName 2) (tt := tYes) (wi1 := iList K (tCall (spCopies Z K) [] E0 (tCons (tVar 0) (tCons (tVar 1) (tCons (tVar 2) tNil))))) (g1 := gName 3) (tt1 := tYes) (by rfl) sc67.nd (pi_tup (pe_at T.iC.cl T.c_triples (pv 0)))
        (blkOk_by (N := N67) (sc := defScope (top 67)) (by decide +kernel)) (by simp) (fun _ _ _ _ _ => pg_name (i := 2) sc67.nd rfl (Or.inl rfl)) (fun _ _ _ _ _ => pts_nil)
        (fun _ _ _ _ _ => pi_list (pe_g G66 hr pass0 (pa_cons (pv 0) (pa_cons (pv 1) (pa_cons (pv 2) pa_nil))))) (fun _ _ _ _ _ => pg_name (i := 3) sc67.nd rfl (Or.inl rfl)) (fun _ _ _ _ _ => pts_nil) (fun _ _ _ _ _ => pv 3))), ?_⟩
    obtain ⟨dx, pk, ti, tn, to, tt, ts, tw, tb, te, ob, h1, h2, h3, h4, h5, h6, ⟨xs, hxs, hpx⟩, h8, h9, h10, h11⟩ := hp.ex
    have xl : xs.length = D.rows.length := Paired.length hpx
    refine ⟨_, rfl, p, dx, _, _, rfl, h1, cfs_triples .., tt, rfl, ⟨_, hxs⟩, fun L hL => ?_⟩
    refine cc_it walk_tup (fun i H' => Same H H' ∧ ∃ acc, H' L = some (.lst acc) ∧ acc.length = 2 * i ∧ Paired (TriAt K H') acc ((D.rows.take i).flatMap fun r => [thg3 0 r, thg3 1 r])) ⟨.new hL, [], upd_same, rfl, .nil⟩ (fun i H' _ h => h.1.tup hxs) ?_ ?_
    · rintro i x _ H1 hi ⟨S1, acc, hac, hal, hpa⟩ ⟨rfl, ex⟩
      obtain ⟨row, er, b, rfl, hb⟩ := paired_at hpx ex
      refine ⟨rfl, _, rfl, _, rfl, _, rfl, p, b, D, row, rfl, hp.same S1, S1.tup hb, fun H2 l ys S2 hln hl hys => ⟨l, rfl, ⟨_, .inl (.inl hl)⟩, ?_⟩⟩
      have hlL : l ≠ L := fun e => by rw [e, hac] at hln; cases hln
      have hac2 := S2 _ _ hac
      have yl : ys.length = 2 := Paired.length hys
      refine cc_it walk_list (fun j H' => But L H2 H' ∧ Same H H' ∧ ∃ acc, H' L = some (.lst acc) ∧ acc.length = 2 * i + j ∧ Paired (TriAt K H') acc (((D.rows.take i).flatMap fun r => [thg3 0 r, thg3 1 r]) ++ ([thg3 0 row, thg3 1 row].take j)))
        ⟨.refl L H2, S1.trans S2, acc, hac2, hal, by rw [List.take_zero, List.append_nil]; exact paired_imp (fun _ _ q => q.same S2) hpa⟩ (fun j H' _ h => .inl (.inl (h.1 _ _ hl hlL))) ?_ ?_
      · rintro j y _ H3 hj ⟨B3, S3, ac3, hac3, hal3, hpa3⟩ ⟨rfl, ey⟩
        obtain ⟨t, et, ht⟩ := paired_at hys ey
        have hno := lst_noT hac3
        refine ⟨rfl, _, rfl, ac3, hac3, small1000 (by omega), B3.trans (.upd L _ _), S3.at hL, _, upd_same, by simp; omega, ?_⟩
        have e7 : [thg3 0 row, thg3 1 row].take (j + 1) = [thg3 0 row, thg3 1 row].take j ++ [t] := by rw [List.take_succ, et]; rfl
        rw [e7, ← List.append_assoc]
        exact paired_snoc ((ht.but B3 (lst_noT hac2)).but (.upd L _ _) hno) (paired_imp (fun _ _ q => q.but (.upd L _ _) hno) hpa3)
      · rintro H3 ⟨B3, S3, ac3, hac3, hal3, hpa3⟩
        refine ⟨S3, ac3, hac3, by omega, ?_⟩
        have e7 : D.rows.take (i + 1) = D.rows.take i ++ [row] := by rw [List.take_succ, er]; rfl
        rw [e7, List.flatMap_append]
        rw [yl] at hpa3
        exact hpa3
    · rintro H1 ⟨S1, acc, hac, hal, hpa⟩
      rw [xl, List.take_length] at hpa
      exact q H1 L acc S1 hL hac hpa
theorem g67 (T : Txt K mg Z) (G66 : GDef P w K mg base CX0 2 "copies_of" ["cell", "count", "triple"] [] (spCopies Z K)) (G : GTxt K mg "chain_triples" (top 67) [] []) : GDef P w K mg base CX0 3 "chain_triples" ["cell", "count"] [] (spChain Z K) :=
  gdef G (fun _ _ _ _ _ _ us hl => match us, hl with | [_, _], _ => rfl) fun f fd F => ok67 T G66 F
end
end K85
/-! K85X: Clash, check_clash. -/
namespace K85
open PySem PySem.Spec PyProof.Rows L2
/-- the exception Clash as it stands behind the top, at X -/
structure XTxt (K : PySem.W.Frag) (mg : Str → Option Value) (C : Addr) : Prop where
  ox : OexC K C
  ini : ∃ fI fd, TF K "__init__" "Clash.__init__" (met 18 0) [] [] fI fd ∧ PySem.W.findIn K (.ref C) "__init__" = some (some (.ref fI)) ∧ PySem.W.typeIn K (.ref fI) = some (.type "function")
  no : PySem.W.findIn K (.ref C) "index" = some none
  g : mg "Clash" = some (.ref C)
section
variable {P : Program} {w : World} {K : PySem.W.Frag} {mg : Str → Option Value} {base : Heap} {Z : Cs} {f C : Addr} {fd : FuncData}
theorem sc18 : FnScope ["self", "index"] ["self", "index"] (defScope (met 18 0)) := ⟨rfl, rfl, rfl, by decide +kernel, rfl, by decide +kernel, by decide +kernel⟩
def spCI (C : Addr) : Sp := fun vs H Q _ => ∃ (a : Addr) (v : V), vs = [.ref a, v] ∧ H a = some (exo a C none) ∧ ∀ dx, H dx = none → dx ≠ a → Q .non (upd (upd H dx (exd dx [("index", v)])) a (exo a C (some dx)))
theorem ok18 (X : XTxt K mg C) (F : TF K "__init__" "Clash.__init__" (met 18 0) [] [] f fd) : FnOk P w K mg base CX0 1 f fd ["self", "index"] (spCI C) := by
  refine F.ok sc18 (fun vs H Q E h => ?_) (fun cdv A outer s H vs Q E hr h => ?_)
  · obtain ⟨_, _, rfl, _⟩ := h
    rfl
  · obtain ⟨a, v, rfl, ha, q⟩ := h
    exact ⟨_, PSs.nox <| pss_one (ps_ost (pv 0) (pv 1)), _, rfl, _, rfl, a, C, rfl, X.ox, X.no, .inl ⟨ha, q⟩⟩
/-- Clash(e) as it is made for a raise -/
theorem pmk_clash {X : Cx} {CX : CXT} {e : Expr} {es : List Expr} {ta : TA} {p pos : Pos} (XT : XTxt X.K X.mg C) (hr : Room 2 X.A) (ha : PA X (e :: es) ta) (hg : Gl X "Clash" := by rfl)
    (he : starEach (e :: es) X.env = (false, eval e X.env) :: starEach es X.env := by rfl) (hpl : (backTo pos (starEach es X.env)).any (·.1) = false := by rfl) :
    PMk X (.Call (.Name "Clash" p) (e :: es) [] pos) (tMkO C (spCI C) [] ta) := by
  obtain ⟨fI, fd, F, hi, ht⟩ := XT.ini
  exact pmk_oex (CX := CX0) XT.ox hi ht (ok18 XT F) hr (F.bindsN fun _ _ _ _ _ _ us hl => match us, hl with | [_, _], _ => rfl) .nil pass0 hg XT.g ha (by decide) he hpl
theorem mk_clash {H1 : Hp} {i : Int} {W : XK} (q : ∀ d H', Same H1 H' → W (.ref C) (some d) H') : ([V.int i] : List V).length ≤ 1000 ∧ ∀ a, H1 a = none → spCI C (.ref a :: ([V.int i] ++ [])) (upd H1 a (exo a C none))
    (fun v H2 => v = .non ∧ ∃ (d : Addr) (fs : List (Str × V)), H2 a = some (exo a C (some d)) ∧ H2 d = some (exd d fs) ∧ H1 d = none ∧ W (.ref C) (some d) (upd (del H2 a) d (.xd fs))) (fun _ _ _ => False) := by
  refine ⟨by simp, fun a ha => ⟨a, .int i, rfl, upd_same, fun dx hdx ne => ⟨rfl, dx, _, upd_same, by rw [upd_ne ne]; exact upd_same, by rwa [upd_ne ne] at hdx, q dx _ fun b o e => ?_⟩⟩⟩
  have n1 : b ≠ a := ne_of_none e ha
  have n2 : b ≠ dx := ne_of_none e (by rwa [upd_ne ne] at hdx)
  rw [upd_ne n2, del_ne n1, upd_ne n1, upd_ne n2, upd_ne n1]
  exact e
/-! check_clash -/
/-- numbers: each thing its own -/
structure NumOk (kvs : List (List Key × V)) : Prop where
  bnd : ∀ k v, valV kvs k = some v → ∃ m : Nat, v = .int m ∧ m < kvs.length
  inj : ∀ a b v, valV kvs a = some v → valV kvs b = some v → a = b
def Rn (kvs : List (List Key × V)) (t : Th) (m : Nat) : Prop := valV kvs (tk t) = some (.int (m : Nat))
theorem NumOk.put {kvs : List (List Key × V)} (h : NumOk kvs) {k : List Key} (hn : valV kvs k = none) : NumOk (putK kvs k (.int (kvs.length : Nat))) := by
  have hl : (putK kvs k (.int (kvs.length : Nat))).length = kvs.length + 1 := by rw [putK_new _ hn]; simp
  refine ⟨fun k' v e => ?_, fun a b v ea eb => ?_⟩
  · rw [valV_put] at e
    split at e
    · cases e
      exact ⟨_, rfl, by omega⟩
    · obtain ⟨m, e1, e2⟩ := h.bnd k' v e
      exact ⟨m, e1, by omega⟩
  · rw [valV_put] at ea eb
    split at ea <;> split at eb
    · rename_i h1 h2
      rw [h1, h2]
    · cases ea
      obtain ⟨m, e1, e2⟩ := h.bnd b _ eb
      injection e1 with e1
      omega
    · cases eb
      obtain ⟨m, e1, e2⟩ := h.bnd a _ ea
      injection e1 with e1
      omega
    · exact h.inj a b v ea eb
def Ext (kvs kvs' : List (List Key × V)) : Prop := ∀ k v, valV kvs k = some v → valV kvs' k = some v
theorem Ext.trans {a b c : List (List Key × V)} (h : Ext a b) (g : Ext b c) : Ext a c := fun k v e => g k v (h k v e)
theorem ext_put {kvs : List (List Key × V)} {k : List Key} {v : V} (hn : valV kvs k = none) : Ext kvs (putK kvs k v) := fun k' v' e => by
  rw [valV_put]
  split
  · rename_i ek
    rw [ek, hn] at e
    cases e
  · exact e
theorem ext_len {kvs : List (List Key × V)} {k : List Key} {v : V} : kvs.length ≤ (putK kvs k v).length := by
  unfold putK
  split
  · simp
  · simp
/-- tuples are kept -/
def Tp (K : PySem.W.Frag) (H H' : Hp) : Prop := ∀ t xs, SqT K H t xs → SqT K H' t xs
theorem TupN.tp {H H' : Hp} {x : V} {t : T3 Nat} (h : TupN K H x t) (S : Tp K H H') : TupN K H' x t := by
  obtain ⟨b, e, h⟩ := h
  exact ⟨b, e, S _ _ h⟩
theorem ThAt.but2 {D W : Addr} {H H' : Hp} {x : V} {t : Th} (h : ThAt H x t) (B : But2 D W H H') (hd : ∀ o, H D = some o → ¬ TupO o) (hw : ∀ o, H W = some o → ¬ TupO o) : ThAt H' x t := by
  obtain ⟨a, e, h⟩ := h
  exact ⟨a, e, B _ _ h (fun e => hd (.tup [.int t.1, .str t.2]) (by rw [← e]; exact h) trivial) (fun e => hw (.tup [.int t.1, .str t.2]) (by rw [← e]; exact h) trivial)⟩
theorem But2.seqT {K : PySem.W.Frag} {D W : Addr} {H H' : Hp} {a : Addr} {xs : List V} (B : But2 D W H H') (hd : ∀ o, H D = some o → ¬ TupO o) (hw : ∀ o, H W = some o → ¬ TupO o) (h : SqT K H a xs) : SqT K H' a xs := by
  rcases h with (h | ⟨o, h⟩) | h
  · exact .inl (.inl (B _ _ h (fun e => hd (.tup xs) (by rw [← e]; exact h) trivial) (fun e => hw (.tup xs) (by rw [← e]; exact h) trivial)))
  · exact .inl (.inr ⟨o, B _ _ h (fun e => hd (.frz o (.tup xs)) (by rw [← e]; exact h) trivial) (fun e => hw (.frz o (.tup xs)) (by rw [← e]; exact h) trivial)⟩)
  · exact .inr h
theorem nc_num {L : List (T3 Nat)} {c : Bool} {T : List (T3 Th)} {us : List (T3 Nat)} {kvs : List (List Key × V)} (h : NC L c us) (hn : NumOk kvs) (hR : ∀ (a : Nat) (t : T3 Th), T[a]? = some t → ∃ u, us[a]? = some u ∧ R3 (Rn kvs) t u) : NC L c T := by
  refine h.rel (R := Rn kvs) (fun x y y' e e' => ?_) (fun x x' y e e' => tk_inj (hn.inj _ _ _ e e')) fun t ht => ?_
  · unfold Rn at e e'
    rw [e] at e'
    injection e' with e'
    injection e' with e'
    omega
  · obtain ⟨a, ea⟩ := List.mem_iff_getElem?.mp ht
    obtain ⟨u, eu, r⟩ := hR a t ea
    exact ⟨u, List.mem_of_getElem? eu, r⟩
theorem R3.ext {kvs kvs' : List (List Key × V)} {t : T3 Th} {u : T3 Nat} (h : R3 (Rn kvs) t u) (e : Ext kvs kvs') : R3 (Rn kvs') t u := ⟨e _ _ h.1, e _ _ h.2.1, e _ _ h.2.2⟩
abbrev N68 : List Str := ["cell", "numbers", "triples", "triple", "thing", "table", "index"]
theorem sc68 : FnScope N68 ["cell"] (defScope (top 68)) := ⟨rfl, rfl, rfl, by decide +kernel, rfl, by decide +kernel, by decide +kernel⟩
def spClash (Z : Cs) (K : PySem.W.Frag) (C : Addr) : Sp := fun vs H Q E => ∃ (p : Addr) (D : CD), vs = [.ref p] ∧ CellAt Z K H p D ∧ D.rows.length ≤ 2 ∧ D.k ∈ lots ∧ (∀ H', Same H H' → NC D.k.2 D.c (chain D.rows) → Q .non H') ∧ ∀ d H', Same H H' → E (.ref C) (some d) H'
theorem ok68 (T : Txt K mg Z) (X : XTxt K mg C) (G67 : GDef P w K mg base CX0 3 "chain_triples" ["cell", "count"] [] (spChain Z K)) (G57 : GDef P w K mg base CX0 4 "table_of" ["kind", "size", "triples"] [] (spTable K Z.K))
    (F : TF K "check_clash" "check_clash" (top 68) [] [] f fd) : FnOk P w K mg base (L2.CX P w) 5 f fd ["cell"] (spClash Z K C) := by
  refine F.ok sc68 (fun vs H Q E h => ?_) (fun cdv A outer s H vs Q E hr h => ?_)
  · obtain ⟨_, _, rfl, _⟩ := h
    rfl
  · obtain ⟨p, D, rfl, hp, r2, hk, q1, q2⟩ := h
    have hu := hu_of hr
    have c := T.iC.cl
    refine ⟨_, pss_cons (ps_set (i := 1) sc68.nd rfl (Or.inr rfl) pe_dnewT) (pss_cons (ps_set (i := 2) sc68.nd rfl (Or.inl rfl) (pe_lst pa_nil))
      (pss_cons (ps_for (passes_of rfl) rfl (pi_list (pe_g G67 (hr.mono (by decide)) pass0 (pa_cons (pv 0) (pa_cons pe_int pa_nil)))) (pg_name (i := 3) sc68.nd rfl (Or.inl rfl))
        (pss_one (ps_expr (pe_bm PySem.F.plainAttrs_list PySem.F.slot_list_append PySem.F.type_list_append mt_append (pv 2) (pa_cons (pe_callTy call_tuple_of (by rfl) T.tup boot_tuple (pa_cons
          (pe_lc (own := [("thing", 4)]) (g := gName 4) (tt := tYes) (by rfl) sc68.nd (pi_tup (pv 3)) (blkOk_by (N := N68) (sc := defScope (top 68)) (by decide +kernel)) (fun _ _ _ _ _ => pg_name (i := 4) sc68.nd rfl (Or.inl rfl)) (fun _ _ _ _ _ => pts_nil)
            (fun _ _ _ _ _ => pe_dsetT hu (pv 1) (pv 4) (pe_b (r := rLenT) call_len_dT T.len PySem.boot_len (pa_cons (pv 1) pa_nil)) ⟨by rfl, by rfl, by rfl, by rfl⟩)) pa_nil)) pa_nil)))))
      (pss_cons (ps_asg (pe_g G57 (hr.mono (by decide)) pass0 (pa_cons (pe_at c T.c_kind (pv 0)) (pa_cons (pe_b call_len_dT T.len PySem.boot_len (pa_cons (pv 1) pa_nil)) (pa_cons (pv 2) pa_nil)))) (pg_tup rfl (pgs_cons (pg_name (i := 5) sc68.nd rfl (Or.inl rfl)) (pgs_cons (pg_name (i := 6) sc68.nd rfl (Or.inl rfl)) pgs_nil))))
      (pss_one (ps_if (pt_cmpR op_notN (pv 6) pe_non (nomark _)) (pss_one (ps_raise rfl (takes_of rfl rfl rfl rfl) (pmk_clash (CX := CX0) X (hr.mono (by decide)) (pa_cons (pe_op op_fdiv (pv 6) pe_int) pa_nil)))) pss_nil))))), ?_⟩
    intro Dn hDn
    refine ⟨line1000 (by simp), fun Tl hTl => ?_⟩
    have SA : Same H (upd (upd H Dn (.dT [])) Tl (.lst [])) := (Same.new hDn).trans (.new hTl)
    have nDT : Dn ≠ Tl := ne_of_none (upd_same (H := H) (a := Dn) (o := .dT [])) hTl
    have hTl0 : H Tl = none := by rwa [upd_ne nDT.symm] at hTl
    refine ⟨_, rfl, p, D, rfl, hp.same SA, by omega, fun H1 l xs S1 hln hl hxs => ⟨l, rfl, ⟨_, .inl (.inl hl)⟩, ?_⟩⟩
    have hD1 : H1 Dn = some (.dT []) := S1 _ _ (by rw [upd_ne nDT]; exact upd_same)
    have hT1 : H1 Tl = some (.lst []) := S1 _ _ upd_same
    have S01 := SA.trans S1
    have nlD : l ≠ Dn := ne_of hl hD1 (by intro z; cases z)
    have nlT : l ≠ Tl := fun e => by rw [e, upd_same] at hln; cases hln
    have dD := dT_noT hD1
    have dT := lst_noT hT1
    have xl : xs.length = (chain D.rows).length := Paired.length hxs
    have cl : (chain D.rows).length = 2 * D.rows.length := by
      unfold chain
      induction D.rows with
      | nil => rfl
      | cons a r ih => rw [List.flatMap_cons, List.length_append, ih]; simp; omega
    refine for_it walk_list (fun i σ H' => (∃ x3 x4 x5 x6, σ = [some (.ref p), some (.ref Dn), some (.ref Tl), x3, x4, x5, x6]) ∧ Same H H' ∧ But2 Dn Tl H1 H' ∧ ∃ kvs acc us, H' Dn = some (.dT kvs) ∧ H' Tl = some (.lst acc) ∧ Paired (TupN K H') acc us ∧ us.length = i ∧ kvs.length ≤ 3 * i ∧ NumOk kvs ∧
        (∀ a t, a < i → (chain D.rows)[a]? = some t → ∃ u, us[a]? = some u ∧ R3 (Rn kvs) t u) ∧ ∀ u ∈ us, u.1 < kvs.length ∧ u.2.1 < kvs.length ∧ u.2.2 < kvs.length)
      ⟨⟨_, _, _, _, rfl⟩, S01, fun b o e _ _ => e, [], [], [], hD1, hT1, .nil, rfl, Nat.le_refl _, ⟨(fun k v e => nomatch e), (fun a b v e => nomatch e)⟩, fun a t h => absurd h (Nat.not_lt_zero _), fun u h => absurd h List.not_mem_nil⟩ (fun i σ H' _ h => .inl (.inl (h.2.2.1 _ _ hl nlD nlT))) ?_ ?_
    · rintro i x σ _ H2 hi ⟨⟨x3, x4, x5, x6, rfl⟩, S2, B2, kvs, acc, us, hD2, hT2, hpa, hul, hkl, hno, hR, hub⟩ ⟨rfl, ex⟩
      obtain ⟨t, et, r, zs, rfl, hr1, hzs⟩ := paired_at hxs ex
      have zl : zs.length = 3 := Paired.length hzs
      refine ⟨_, rfl, .inl ⟨rfl, acc, .inl (.inl hT2)⟩, _, rfl, r, rfl, ⟨_, B2.seqT dD dT hr1⟩, fun L hL => ?_⟩
      have nDL : Dn ≠ L := ne_of_none hD2 hL
      have nTL : Tl ≠ L := ne_of_none hT2 hL
      have hL0 : H L = none := S2.free hL
      refine cc_it walk_tup (fun j H3 => Same H H3 ∧ But2 Dn Tl H1 H3 ∧ Tp K H2 H3 ∧ H3 Tl = some (.lst acc) ∧ ∃ (kv3 : List (List Key × V)) (ms : List Nat), H3 Dn = some (.dT kv3) ∧ H3 L = some (.lst (ms.map fun m : Nat => V.int m)) ∧ ms.length = j ∧ kv3.length ≤ 3 * i + j ∧ NumOk kv3 ∧ Ext kvs kv3 ∧ kvs.length ≤ kv3.length ∧
          (∀ m ∈ ms, m < kv3.length) ∧ ∀ a th, a < j → (tri t)[a]? = some th → ∃ m : Nat, ms[a]? = some m ∧ Rn kv3 th m)
        ⟨S2.at hL0, fun b o e n1 n2 => by rw [upd_ne (ne_of_none (B2 _ _ e n1 n2) hL)]; exact B2 _ _ e n1 n2, fun t xs h => (Same.new hL).tup h, by rw [upd_ne nTL]; exact hT2, kvs, [], by rw [upd_ne nDL]; exact hD2, upd_same, rfl, hkl, hno, fun k v e => e, Nat.le_refl _, fun m h => absurd h List.not_mem_nil, fun a th h => absurd h (Nat.not_lt_zero _)⟩
        (fun j H' _ h => h.2.1.seqT dD dT hr1) ?_ ?_
      · rintro j y _ H3 hj ⟨S3, B3, T3', hT3, kv3, ms, hD3, hL3, hml, hk3, hno3, hext, hle, hmb, hm⟩ ⟨rfl, ey⟩
        obtain ⟨th, eth, hth⟩ := paired_at hzs ey
        obtain ⟨a, rfl, ha⟩ := hth.but2 B3 dD dT
        have key : ∀ (kv4 : List (List Key × V)) (H4 : Hp) (m : Nat), Same H H4 → But2 Dn Tl H1 H4 → Tp K H2 H4 → H4 Tl = some (.lst acc) → H4 Dn = some (.dT kv4) → H4 L = some (.lst (ms.map fun m : Nat => V.int m)) → kv4.length ≤ 3 * i + j + 1 → NumOk kv4 → Ext kv3 kv4 → kv3.length ≤ kv4.length → m < kv4.length → Rn kv4 th m →
            ∃ acc', H4 L = some (.lst acc') ∧ acc'.length < sizeLine ∧ (Same H (upd H4 L (.lst (acc' ++ [V.int m]))) ∧ But2 Dn Tl H1 (upd H4 L (.lst (acc' ++ [V.int m]))) ∧ Tp K H2 (upd H4 L (.lst (acc' ++ [V.int m]))) ∧ upd H4 L (.lst (acc' ++ [V.int m])) Tl = some (.lst acc) ∧ ∃ (kv3 : List (List Key × V)) (ms : List Nat), upd H4 L (.lst (acc' ++ [V.int m])) Dn = some (.dT kv3) ∧ upd H4 L (.lst (acc' ++ [V.int m])) L = some (.lst (ms.map fun m : Nat => V.int m)) ∧ ms.length = j + 1 ∧ kv3.length ≤ 3 * i + (j + 1) ∧ NumOk kv3 ∧ Ext kvs kv3 ∧ kvs.length ≤ kv3.length ∧
              (∀ m ∈ ms, m < kv3.length) ∧ ∀ a th, a < j + 1 → (tri t)[a]? = some th → ∃ m : Nat, ms[a]? = some m ∧ Rn kv3 th m) := by
          intro kv4 H4 m S4 B4 T4 hT4 hD4 hL4 hk4 hno4 hx4 hl4 hmk hRm
          refine ⟨_, hL4, small1000 (by rw [List.length_map]; omega), S4.at hL0, fun b o e n1 n2 => ?_, fun t' xs' h => tup_upd (lst_noT hL4) (T4 _ _ h), by rw [upd_ne nTL]; exact hT4, kv4, ms ++ [m], by rw [upd_ne nDL]; exact hD4, by rw [upd_same, List.map_append]; rfl, by simp [hml], by omega, hno4, hext.trans hx4, by omega, fun m' hm' => ?_, fun a' th' ha' eth' => ?_⟩
          · rw [upd_ne (ne_of_none (B2 _ _ e n1 n2) hL)]
            exact B4 _ _ e n1 n2
          · rcases List.mem_append.mp hm' with h | h
            · have := hmb m' h
              omega
            · rw [List.mem_singleton.mp h]
              exact hmk
          · by_cases h : a' < j
            · obtain ⟨m', e1, e2⟩ := hm a' th' h eth'
              exact ⟨m', by rw [List.getElem?_append_left (by omega)]; exact e1, hx4 _ _ e2⟩
            · have : a' = j := by omega
              subst this
              rw [eth] at eth'
              cases eth'
              exact ⟨m, by rw [List.getElem?_append_right (by omega)]; simp [hml], hRm⟩
        refine ⟨rfl, _, rfl, Dn, rfl, .inr ⟨kv3, .inl hD3⟩, _, rfl, _, rfl, Dn, kv3, rfl, hD3, kv3, tk th, a, hD3, rfl, ha, small1000 (by omega), fun v hv => ?_, fun hn => ?_⟩
        · obtain ⟨m, rfl, hm'⟩ := hno3.bnd _ v hv
          exact key kv3 H3 m S3 B3 T3' hT3 hD3 hL3 (by omega) hno3 (fun k v e => e) (Nat.le_refl _) hm' hv
        · have hl2 : (putK kv3 (tk th) (.int (kv3.length : Nat))).length = kv3.length + 1 := by rw [putK_new _ hn]; simp
          refine key (putK kv3 (tk th) (.int (kv3.length : Nat))) _ kv3.length (S3.at hDn) (fun b o e n1 n2 => by rw [upd_ne n1]; exact B3 _ _ e n1 n2) (fun t' xs' h => tup_upd (dT_noT hD3) (T3' _ _ h)) (by rw [upd_ne nDT.symm]; exact hT3) upd_same (by rw [upd_ne nDL.symm]; exact hL3) (by omega) (hno3.put hn) (ext_put hn) (by omega) (by omega) ?_
          unfold Rn
          rw [valV_put, if_pos rfl]
      · rintro H3 ⟨S3, B3, T3', hT3, kv3, ms, hD3, hL3, hml, hk3, hno3, hext, hle, hmb, hm⟩
        rw [zl] at hml hm hk3
        match ms, hml, hL3, hmb, hm with
        | [m0, m1, m2], _, hL3, hmb, hm =>
          have r0 : Rn kv3 t.1 m0 := by obtain ⟨m, e1, e2⟩ := hm 0 t.1 (by decide) rfl; cases e1; exact e2
          have r1 : Rn kv3 t.2.1 m1 := by obtain ⟨m, e1, e2⟩ := hm 1 t.2.1 (by decide) rfl; cases e1; exact e2
          have r2' : Rn kv3 t.2.2 m2 := by obtain ⟨m, e1, e2⟩ := hm 2 t.2.2 (by decide) rfl; cases e1; exact e2
          refine ⟨L, _, rfl, .inl ⟨.inl (.inl hL3), fun tp htp => ?_⟩⟩
          have SN := Same.new (o := .tup [V.int m0, .int m1, .int m2]) htp
          have hT4 := SN _ _ hT3
          have hno4 := lst_noT hT4
          refine ⟨Tl, acc, _, rfl, rfl, hT4, small1000 (by have : acc.length = us.length := Paired.length hpa; omega), ⟨_, _, _, _, rfl⟩, (S3.trans SN).at hTl0, fun b o e n1 n2 => by rw [upd_ne n2]; exact SN _ _ (B3 _ _ e n1 n2), kv3, _, us ++ [(m0, m1, m2)], by rw [upd_ne nDT]; exact SN _ _ hD3, upd_same, ?_, by simp [hul], by omega, hno3, fun a t' ha et' => ?_, fun u hu' => ?_⟩
          · exact paired_snoc ⟨tp, rfl, tup_upd hno4 (.inl (.inl upd_same))⟩ (paired_imp (fun _ _ q => q.tp fun t' xs' h => tup_upd hno4 (SN.tup (T3' _ _ h))) hpa)
          · by_cases h : a < i
            · obtain ⟨u, eu, hu'⟩ := hR a t' h et'
              exact ⟨u, by rw [List.getElem?_append_left (by omega)]; exact eu, hu'.ext hext⟩
            · have : a = i := by omega
              subst this
              rw [et] at et'
              cases et'
              exact ⟨(m0, m1, m2), by rw [List.getElem?_append_right (by omega)]; simp [hul], r0, r1, r2'⟩
          · rcases List.mem_append.mp hu' with h | h
            · obtain ⟨h1, h2, h3⟩ := hub u h
              exact ⟨by omega, by omega, by omega⟩
            · rw [List.mem_singleton.mp h]
              exact ⟨hmb m0 (by simp), hmb m1 (by simp), hmb m2 (by simp)⟩
    · rintro σ H2 ⟨⟨x3, x4, x5, x6, rfl⟩, S2, B2, kvs, acc, us, hD2, hT2, hpa, hul, hkl, hno, hR, hub⟩
      obtain ⟨dx, pk, ti, tn, to, tt, ts, tw, tb, te, ob, h1, h2, _⟩ := (hp.same S2).ex
      refine ⟨_, rfl, p, dx, _, _, rfl, h1, cfs_kind .., _, rfl, Dn, kvs, rfl, hD2, _, rfl, pk, Tl, kvs.length, D.k, D.c, acc, us, rfl, h2, hk, .inl (.inl hT2), hpa, by omega, by omega, hub, fun H3 r d i S3 hr3 hi => ?_, fun H3 r d S3 hr3 hnc => ?_⟩
      · refine ⟨r, _, rfl, hr3, rfl, _, _, rfl, _, _, rfl, rfl, _, rfl, rfl, _, rfl, iteNSN (by intro z; cases z) ?_⟩
        refine ⟨_, rfl, _, _, rfl, rfl, ⟨by decide, by decide⟩, mk_clash fun d H' S' => q2 d H' ((S2.trans S3).trans S')⟩
      · refine ⟨r, _, rfl, hr3, rfl, _, _, rfl, _, _, rfl, rfl, _, rfl, rfl, _, rfl, iteNS rfl (q1 H3 (S2.trans S3) (nc_num hnc hno fun a t e => hR a t ?_ e))⟩
        have := (List.getElem?_eq_some_iff.mp e).1
        omega
theorem b68 (F : TF K "check_clash" "check_clash" (top 68) [] [] f fd) : Binds K fd ["cell"] [] := F.bindsN fun _ _ _ _ _ _ us hl => match us, hl with | [_], _ => rfl
theorem g68 (T : Txt K mg Z) (X : XTxt K mg C) (G67 : GDef P w K mg base CX0 3 "chain_triples" ["cell", "count"] [] (spChain Z K)) (G57 : GDef P w K mg base CX0 4 "table_of" ["kind", "size", "triples"] [] (spTable K Z.K)) (G : GTxt K mg "check_clash" (top 68) [] []) :
    GDef P w K mg base (L2.CX P w) 5 "check_clash" ["cell"] [] (spClash Z K C) := gdef G (fun _ _ _ _ _ _ us hl => match us, hl with | [_], _ => rfl) fun f fd F => ok68 T X G67 G57 F
end
end K85
/-! K85C3: Cell made. -/
namespace K85
open PySem PySem.Spec PyProof.Rows L2
section
variable {P : Program} {w : World} {K : PySem.W.Frag} {mg : Str → Option Value} {base : Heap} {Z : Cs} {f C : Addr} {fd : FuncData}
abbrev PCI : List Str := ["self", "kind", "ins", "inner", "outs", "triples", "stored", "wanted", "begin", "end"]
theorem sc630 : FnScope PCI PCI (defScope (met 63 0)) := ⟨rfl, rfl, rfl, by decide +kernel, rfl, by decide +kernel, by decide +kernel⟩
def spCellI (Z : Cs) (K : PySem.W.Frag) (C : Addr) : Sp := fun vs H Q E => ∃ (p dx pk ti tn to tt ts tw tb te : Addr) (ob : Obj) (D : CD), vs = [.ref p, .ref pk, .ref ti, .ref tn, .ref to, .ref tt, .ref ts, .ref tw, .ref tb, .ref te] ∧ H p = some (.ins Z.C dx []) ∧ D.Ok ∧
  KindAt Z.K H pk D.k.1 D.c ∧ H ti = some (.frz ob (.tup [.str "p"])) ∧ ob.dict = none ∧ TxS K H tn D.inner ∧ SqT K H to [.str "q"] ∧ RowsAt K H tt D.rows ∧ TxS K H ts D.stored ∧ TxS K H tw D.wanted ∧ TxS K H tb D.start ∧ TxS K H te D.stop ∧
  (∀ H', But p H H' → CellAt Z K H' p D → NC D.k.2 D.c (chain D.rows) → Q .non H') ∧ ∀ d H', But p H H' → E (.ref C) (some d) H'
theorem RowsAt.but {p : Addr} {H H' : Hp} {a : Addr} {rows : List (T3 Str)} (h : RowsAt K H a rows) (B : But p H H') (hd : ∀ o, H p = some o → ¬ TupO o) : RowsAt K H' a rows := by
  obtain ⟨xs, h1, h2⟩ := h
  exact ⟨xs, B.seqT hd h1, paired_imp (fun _ _ ⟨b, e, q⟩ => ⟨b, e, B.seqT hd q⟩) h2⟩
theorem ok630 (T : Txt K mg Z) (G54 : GDef P w K mg base CX0 1 "check_kind" ["value"] [] (spIns Z.K)) (G61 : GDef P w K mg base CX0 3 "check_sides" ["ins", "inner", "outs"] [] (spSides K)) (G62 : GDef P w K mg base CX0 2 "check_cell_triples" ["triples", "names"] [] (spCT K))
    (G2 : GDef P w K mg base CX0 2 "check_names" PCN [.ref Z.E] (spNames K)) (G68 : GDef P w K mg base (L2.CX P w) 5 "check_clash" ["cell"] [] (spClash Z K C)) {kws : List (Str × V)} (F : TF K "__init__" "Cell.__init__" (met 63 0) [] kws f fd) :
    FnOk P w K mg base (L2.CX P w) 6 f fd PCI (spCellI Z K C) := by
  refine F.ok sc630 (fun vs H Q E h => ?_) (fun cdv A outer s H vs Q E hr h => ?_)
  · obtain ⟨_, _, _, _, _, _, _, _, _, _, _, _, _, rfl, _⟩ := h
    rfl
  · obtain ⟨p, dx, pk, ti, tn, to, tt, ts, tw, tb, te, ob, D, rfl, hp, ok, hk, hti, hob, htn, hto, htt, hts, htw, htb, hte, q1, q2⟩ := h
    have c := T.iC.cl
    refine ⟨_, pss_cons (ps_expr (pe_g G54 (hr.mono (by decide)) pass0 (pa_cons (pv 1) pa_nil)))
      (pss_cons (ps_expr (pe_g G61 (hr.mono (by decide)) pass0 (pa_cons (pv 2) (pa_cons (pv 3) (pa_cons (pv 4) pa_nil)))))
      (pss_cons (ps_expr (pe_g G62 (hr.mono (by decide)) pass0 (pa_cons (pv 5) (pa_cons (pe_op op_catT (pe_op op_catT (pv 2) (pv 3)) (pv 4)) pa_nil))))
      (pss_cons (ps_expr (pe_g G2 (hr.mono (by decide)) pass0 (pa_cons (pv 6) (pa_cons (C8.pe_gc (by rfl) T.mSTO) (pa_cons (pe_op op_catT (pv 3) (pv 4)) pa_nil)))))
      (pss_cons (ps_if (pt_cmpR (op_eqD hr.units) (pv 7) (pe_tup pa_nil) (nomark _)) pss_never pss_nil)
      (pss_cons (ps_expr (pe_g G2 (hr.mono (by decide)) pass0 (pa_cons (pv 7) (pa_cons pe_non (pa_cons (pe_op op_catT (pv 3) (pv 4)) pa_nil)))))
      (pss_cons (ps_expr (pe_g G2 (hr.mono (by decide)) pass0 (pa_cons (pv 8) (pa_cons pe_non (pa_cons (pv 2) pa_nil)))))
      (pss_cons (ps_expr (pe_g G2 (hr.mono (by decide)) pass0 (pa_cons (pv 9) (pa_cons pe_non (pa_cons (pv 4) pa_nil)))))
      (pss_cons (ps_at c T.c_kind (pv 0) (pv 1)) (pss_cons (ps_at c T.c_ins (pv 0) (pv 2)) (pss_cons (ps_at c T.c_inner (pv 0) (pv 3)) (pss_cons (ps_at c T.c_outs (pv 0) (pv 4)) (pss_cons (ps_at c T.c_triples (pv 0) (pv 5))
      (pss_cons (ps_at c T.c_stored (pv 0) (pv 6)) (pss_cons (ps_at c T.c_wanted (pv 0) (pv 7)) (pss_cons (ps_at c T.c_begin (pv 0) (pv 8)) (pss_cons (ps_at c T.c_end (pv 0) (pv 9))
      (pss_one (ps_expr (pe_g G68 hr (passes_call (takes_of rfl rfl rfl rfl) fun _ _ _ _ h => h) (pa_cons (pv 0) pa_nil)))))))))))))))))))), ?_⟩
    obtain ⟨dk, hk'⟩ := id hk
    have hin : D.inner ≠ [] ∧ D.inner.length ≤ 2 := by rcases ok.inn with e | e <;> rw [e] <;> exact ⟨by simp, by simp⟩
    have hin0 : D.inner.map V.str ≠ [] := fun e => hin.1 (List.map_eq_nil_iff.mp e)
    have hsl : (D.inner.map V.str).length ≤ 2 := by rw [List.length_map]; exact hin.2
    have htiP : TxS K H ti nP := .inl (.inr ⟨ob, hti⟩)
    refine ⟨_, rfl, pk, dk, _, rfl, hk', ?_⟩
    refine ⟨_, rfl, _, rfl, _, rfl, ti, tn, to, D.inner, rfl, htiP, htn, hto, ok.inn, fun H1 S1 => ?_⟩
    refine ⟨_, rfl, _, rfl, _, rfl, ti, tn, _, _, rfl, rfl, S1.tup htiP, S1.tup htn, by simp, line1000 (by simp; omega), fun e => absurd e hin0, fun _ t1 h1 => ?_⟩
    have S1' := S1.trans (Same.new (o := .tup (nP.map V.str ++ D.inner.map V.str)) h1)
    refine ⟨_, rfl, t1, to, _, _, rfl, rfl, .inl (.inl upd_same), S1'.tup hto, by simp, line1000 (by simp; omega), fun e => absurd e (by simp), fun _ t2 h2 => ?_⟩
    have S2 := S1'.trans (Same.new (o := .tup (nP.map V.str ++ D.inner.map V.str ++ [.str "q"])) h2)
    refine ⟨tt, t2, D.rows, D.names, rfl, htt.same S2, .inl (.inl (by rw [upd_same, CD.names, List.map_append, List.map_append]; rfl)), by have := ok.rows; omega, ok.names, fun H3 S3' => ?_⟩
    have S3 := S2.trans S3'
    refine ⟨_, rfl, _, rfl, _, rfl, tn, to, _, _, rfl, rfl, S3.tup htn, S3.tup hto, hin0, line1000 (by simp; omega), fun e => absurd e (by simp), fun _ t3 h3 => ?_⟩
    have S4 := S3.trans (Same.new (o := .tup (D.inner.map V.str ++ [.str "q"])) h3)
    refine ⟨ts, Z.E, _, _, D.stored, [], rfl, S4.tup hts, T.eT _, fun n hn => ok.nameOk (ok.stored n hn), ok.storedN, fun n _ => List.not_mem_nil, .inr ⟨6, rfl, ok.storedL⟩, .inr ⟨t3, D.inner ++ nQ, rfl, .inl (.inl (by rw [upd_same, List.map_append]; rfl)), ok.stored⟩, fun H5 S5' => ?_⟩
    have S5 := S4.trans S5'
    refine ⟨_, rfl, line1000 (by simp), fun t4 h4 => ?_⟩
    have S6 := S5.trans (Same.new (o := .tup []) h4)
    have hneq : ∃ ds, Dp K (upd H5 t4 (.tup [])) (.ref tw) (.tuple ds) ∧ SeqAt.shaped (.tuple ds) = true ∧ PyData.eqv (.tuple ds) (.tuple []) = false := by
      have hq := S6.tup htw
      have hw := ok.wanted
      rcases ok.wanted0 with ⟨a, e⟩ | ⟨a, b, e⟩
      · rw [e] at hq hw
        refine ⟨[.str a], .tup hq (.cons (.str _) .nil), ?_, rfl⟩
        rcases ok.inNames (hw a (by simp)) with rfl | rfl | rfl <;> decide +kernel
      · rw [e] at hq hw
        refine ⟨[.str a, .str b], .tup hq (.cons (.str _) (.cons (.str _) .nil)), ?_, rfl⟩
        rcases ok.inNames (hw a (by simp)) with rfl | rfl | rfl <;> rcases ok.inNames (hw b (by simp)) with rfl | rfl | rfl <;> decide +kernel
    obtain ⟨ds, hd1, hd2, hd3⟩ := hneq
    refine ⟨.tuple ds, .tuple [], hd1, .tup (.inl (.inl upd_same)) .nil, hd2, rfl, _, rfl, iteBN hd3 ?_⟩
    refine ⟨_, rfl, _, rfl, _, rfl, tn, to, _, _, rfl, rfl, S6.tup htn, S6.tup hto, hin0, line1000 (by simp; omega), fun e => absurd e (by simp), fun _ t5 h5 => ?_⟩
    have S7 := S6.trans (Same.new (o := .tup (D.inner.map V.str ++ [.str "q"])) h5)
    refine ⟨tw, Z.E, _, _, D.wanted, [], rfl, S7.tup htw, T.eT _, fun n hn => ok.nameOk (ok.wanted n hn), ok.wantedN, fun n _ => List.not_mem_nil, .inl rfl, .inr ⟨t5, D.inner ++ nQ, rfl, .inl (.inl (by rw [upd_same, List.map_append]; rfl)), ok.wanted⟩, fun H8 S8' => ?_⟩
    have S8 := S7.trans S8'
    have hst : (∀ n ∈ D.start, NameOk n) ∧ D.start.Nodup ∧ ∀ n ∈ D.start, n ∈ nP := by
      rcases ok.start with e | e <;> rw [e]
      · exact ⟨fun n hn => by rw [List.mem_singleton.mp hn]; exact okP _ (by simp), by decide +kernel, fun n hn => hn⟩
      · exact ⟨fun n hn => absurd hn List.not_mem_nil, List.nodup_nil, fun n hn => absurd hn List.not_mem_nil⟩
    have hsp : (∀ n ∈ D.stop, NameOk n) ∧ D.stop.Nodup ∧ ∀ n ∈ D.stop, n ∈ nQ := by
      rcases ok.stop with e | e <;> rw [e]
      · exact ⟨fun n hn => by rw [List.mem_singleton.mp hn]; exact okP _ (by simp), by decide +kernel, fun n hn => hn⟩
      · exact ⟨fun n hn => absurd hn List.not_mem_nil, List.nodup_nil, fun n hn => absurd hn List.not_mem_nil⟩
    refine ⟨_, rfl, _, rfl, tb, Z.E, _, _, D.start, [], rfl, S8.tup htb, T.eT _, hst.1, hst.2.1, fun n _ => List.not_mem_nil, .inl rfl, .inr ⟨ti, nP, rfl, S8.tup htiP, hst.2.2⟩, fun H9 S9' => ?_⟩
    have S9 := S8.trans S9'
    refine ⟨_, rfl, _, rfl, te, Z.E, _, _, D.stop, [], rfl, S9.tup hte, T.eT _, hsp.1, hsp.2.1, fun n _ => List.not_mem_nil, .inl rfl, .inr ⟨to, nQ, rfl, S9.tup hto, hsp.2.2⟩, fun H10 S10' => ?_⟩
    have S10 := S9.trans S10'
    refine ⟨_, rfl, _, rfl, p, dx, _, rfl, S10 _ _ hp, (by decide), ?_⟩
    refine ⟨_, rfl, _, rfl, p, dx, _, rfl, upd_same, (lt1000 (by kernel_rfl)), ?_⟩
    refine ⟨_, rfl, _, rfl, p, dx, _, rfl, upd_same, (lt1000 (by kernel_rfl)), ?_⟩
    refine ⟨_, rfl, _, rfl, p, dx, _, rfl, upd_same, (lt1000 (by kernel_rfl)), ?_⟩
    refine ⟨_, rfl, _, rfl, p, dx, _, rfl, upd_same, (lt1000 (by kernel_rfl)), ?_⟩
    refine ⟨_, rfl, _, rfl, p, dx, _, rfl, upd_same, (lt1000 (by kernel_rfl)), ?_⟩
    refine ⟨_, rfl, _, rfl, p, dx, _, rfl, upd_same, (lt1000 (by kernel_rfl)), ?_⟩
    refine ⟨_, rfl, _, rfl, p, dx, _, rfl, upd_same, (lt1000 (by kernel_rfl)), ?_⟩
    refine ⟨_, rfl, _, rfl, p, dx, _, rfl, upd_same, (lt1000 (by kernel_rfl)), ?_⟩
    rw [upd_upd, upd_upd, upd_upd, upd_upd, upd_upd, upd_upd, upd_upd, upd_upd, cfs_put]
    have B : But p H (upd H10 p (.ins Z.C dx (cfs (.ref pk) (.ref ti) (.ref tn) (.ref to) (.ref tt) (.ref ts) (.ref tw) (.ref tb) (.ref te)))) := S10.but.trans (.upd p H10 _)
    have hno : ∀ o, H p = some o → ¬ TupO o := fun o e => by rw [hp] at e; cases e; exact id
    have hc : CellAt Z K (upd H10 p (.ins Z.C dx (cfs (.ref pk) (.ref ti) (.ref tn) (.ref to) (.ref tt) (.ref ts) (.ref tw) (.ref tb) (.ref te)))) p D :=
      ⟨dx, pk, ti, tn, to, tt, ts, tw, tb, te, ob, upd_same, hk.kp (B.kp hp), B _ _ hti (ne_of hti hp (by intro z; cases z)), hob, B.seqT hno htn, B.seqT hno hto, htt.but B hno, B.seqT hno hts, B.seqT hno htw, B.seqT hno htb, B.seqT hno hte⟩
    refine ⟨_, rfl, p, D, rfl, hc, ok.rows, ok.kin, fun H11 S11 hnc => q1 H11 (B.trans S11.but) (hc.same S11) hnc, fun d H11 S11 => q2 d H11 (B.trans S11.but)⟩
theorem g630 (T : Txt K mg Z) (G54 : GDef P w K mg base CX0 1 "check_kind" ["value"] [] (spIns Z.K)) (G61 : GDef P w K mg base CX0 3 "check_sides" ["ins", "inner", "outs"] [] (spSides K)) (G62 : GDef P w K mg base CX0 2 "check_cell_triples" ["triples", "names"] [] (spCT K))
    (G2 : GDef P w K mg base CX0 2 "check_names" PCN [.ref Z.E] (spNames K)) (G68 : GDef P w K mg base (L2.CX P w) 5 "check_clash" ["cell"] [] (spClash Z K C)) {v1 v2 : V} {kws : List (Str × V)} (hk : kws ≠ []) (G : CTxt K mg Z.C "Cell" "Cell.__init__" (met 63 0) [] kws) :
    KDef P w K mg base (L2.CX P w) 6 5 Z.C "Cell" PCI ["stored", "wanted", "begin", "end"] (spCellI Z K C) := by
  obtain ⟨f, fd, F, M, hm⟩ := G
  obtain ⟨mv, kb⟩ := F.kbinds0 (ps := PCI) 6 ["stored", "wanted", "begin", "end"] [] (fun {α} us mv ws => us ++ ws) hk (by simp) (fun r1 r2 r3 => r1.append r3) fun D doc pm an cdv ct us mv ws l1 l2 l3 => match us, mv, ws, l1, l2, l3 with
    | [_, _, _, _, _, _], [], [_, _, _, _], _, _, _ => rfl
  exact ⟨f, fd, _, ok630 T G54 G61 G62 G2 G68 F, kb, M, hm⟩
end
end K85
/-! K85C4: kept_things, check_count, check_lost. -/
namespace K85
open PySem PySem.Spec PyProof.Rows L2
section
variable {X : Cx}
/-- sorted(xs), xs a list of things that are tracked tuples -/
def rSortH : List V → Hp → VK → Prop := fun vs H Q => ∃ (a : Addr) (xs : List V) (bs : List Th), vs = [.ref a] ∧ H a = some (.lst xs) ∧ Paired (ThAt H) xs bs ∧
  ∀ (ys : List V) (p : Addr), Paired (ThAt H) ys (bs.mergeSort leP) → H p = none → Q (.ref p) (upd H p (.lst ys))
theorem ThAt.pair {K : PySem.W.Frag} {H : Hp} {x : V} {t : Th} (h : ThAt H x t) : PairAt K H x t := by
  obtain ⟨a, e, h⟩ := h
  exact ⟨a, e, .inl (.inl h)⟩
theorem each_things {K : PySem.W.Frag} {H : Hp} {R : Value → Th → Prop} (hR : ∀ (x : V) (u : Value) (b : Th), ThAt H x b → RelV x u → R u b) : ∀ {xs : List V} {us : List Value} {bs : List Th}, Paired (ThAt H) xs bs → Vals xs us → PySem.W.EachIs R us bs
  | _, _, _, .nil, .nil => .nil
  | _, _, _, .cons h t, .cons r rs => .cons (hR _ _ _ h r) (each_things (K := K) hR t rs)
theorem things_back {H : Hp} : ∀ {us : List Value} {bs : List Th}, PySem.W.EachIs (fun u b => ∃ t, u = Value.ref t ∧ H t = some (.tup [.int b.1, .str b.2])) us bs → ∃ ys : List V, Vals ys us ∧ Paired (ThAt H) ys bs
  | _, _, .nil => ⟨[], .nil, .nil⟩
  | _, _, .cons h t => by
    obtain ⟨a, rfl, q⟩ := h
    obtain ⟨ys, r, p⟩ := things_back t
    exact ⟨.ref a :: ys, .cons rfl r, .cons ⟨a, rfl, q⟩ p⟩
theorem cr_sortH {k : Nat} (hr : Room k X.A) : CallR X (.builtin "sorted") rSortH := by
  intro pins s σ H vs us Q I r h
  obtain ⟨a, xs, bs, rfl, hs, hp, q⟩ := h
  obtain ⟨its, rv, hl, hz⟩ := I.list (show SqL X.K H a xs from .inl (.inl hs))
  obtain ⟨u, rfl, ru⟩ := vals1 r
  obtain rfl : u = Value.ref a := ru
  have hlen : bs.length ≤ sizeLine := by rw [← Paired.length hp]; exact hz
  refine PySem.W.sorted_data (enc := encP) (bs := bs) hl.isList (each_things (K := X.K) (R := fun u b => ∃ t, u = Value.ref t ∧ H t = some (.tup [.int b.1, .str b.2])) (fun x u b h r => ?_) hp rv) (each_things (K := X.K) (R := fun v b => ∃ as, Reads s.heap v (encP b) as) (fun x u b h r => Dp.reads I _ _ _ (pair_data h.pair) r) hp rv)
    (PySem.W.AllAlike.of fun b b' => alike_P b b') (PySem.W.Sortable.tuples fun b => ⟨_, _, rfl⟩) hlen (fun b _ => ?_) fun out ho he => ?_
  · obtain ⟨t, rfl, q⟩ := h
    exact ⟨t, r, q⟩
  · have e : (encP b).depth = 1 := rfl
    rw [e]
    have := hr.units
    omega
  · obtain ⟨ys, r2, p2⟩ := things_back he
    obtain ⟨n, hn⟩ := sortedAll_at s.heap its (List.toArray out)
    have hd : s.heap.objs.size ≤ s.heap.objs.size + 1 := Nat.le_succ _
    refine ⟨.ref _, upd H (s.heap.objs.size + 1) (.lst ys), I.laid (t' := s.toks) (fun b o e => sortedAll_old e) hd ⟨?_, out, n, r2, hn⟩, rfl, q ys _ p2 (I.hok.fresh hd)⟩
    rw [Paired.length r2, ho]
    exact hlen
end
def stK (D : CD) (lost : List Th) (i : Nat) : List Th := (D.stored.map fun n => (((i : Nat) : Int), n)).filter fun t => !decide (t ∈ lost)
/-- the kept things -/
def keptL (D : CD) (lost : List Th) : List Th := (List.range 2).flatMap (stK D lost) ++ D.start.map (fun n => ((0 : Int), n)) ++ D.stop.map fun n => ((1 : Int), n)
section
variable {P : Program} {w : World} {K : PySem.W.Frag} {mg : Str → Option Value} {base : Heap} {Z : Cs} {f C : Addr} {fd : FuncData}
/-! check_count -/
theorem sc70 : FnScope ["count"] ["count"] (defScope (top 70)) := ⟨rfl, rfl, rfl, by decide +kernel, rfl, by decide +kernel, by decide +kernel⟩
def spCount : Sp := fun vs H Q _ => vs = [.int 2] ∧ Q .non H
theorem ok70 (T : Txt K mg Z) (G34 : GDef P w K mg base CX0 2 "is_within" ["value", "least", "most"] [] spWithin) (F : TF K "check_count" "check_count" (top 70) [] [] f fd) : FnOk P w K mg base CX0 3 f fd ["count"] spCount := by
  refine F.ok sc70 (fun vs H Q E h => ?_) (fun cdv A outer s H vs Q E hr h => ?_)
  · obtain ⟨rfl, _⟩ := h
    rfl
  · obtain ⟨rfl, q⟩ := h
    exact ⟨_, PSs.nox <| pss_one (ps_if (pt_not (pt_val (pe_g G34 hr pass0 (pa_cons (pv 0) (pa_cons pe_int (pa_cons (C8.pe_gc (by rfl) T.mCELLS) pa_nil)))))) pss_never pss_nil), _, rfl, 2, 1, 200, rfl, _, rfl, iteF q⟩
theorem g70 (T : Txt K mg Z) (G34 : GDef P w K mg base CX0 2 "is_within" ["value", "least", "most"] [] spWithin) (G : GTxt K mg "check_count" (top 70) [] []) : GDef P w K mg base CX0 3 "check_count" ["count"] [] spCount :=
  gdef G (fun _ _ _ _ _ _ us hl => match us, hl with | [_], _ => rfl) fun f fd F => ok70 T G34 F
/-! check_lost -/
/-- a stands ahead of b -/
def ltT (a b : Th) : Prop := a.1 < b.1 ∨ (a.1 = b.1 ∧ a.2 ≠ b.2 ∧ a.2.cps.toList < b.2.cps.toList)
abbrev N71 : List Str := ["cell", "count", "lost", "index", "thing"]
theorem sc71 : FnScope N71 ["cell", "count", "lost"] (defScope (top 71)) := ⟨rfl, rfl, rfl, by decide +kernel, rfl, by decide +kernel, by decide +kernel⟩
def spLost (Z : Cs) (K : PySem.W.Frag) : Sp := fun vs H Q _ => ∃ (p lo : Addr) (D : CD) (xs : List V) (lost : List Th), vs = [.ref p, .int 2, .ref lo] ∧ CellAt Z K H p D ∧ SqT K H lo xs ∧ Paired (ThAt H) xs lost ∧ (∀ t ∈ lost, (0 ≤ t.1 ∧ t.1 ≤ 1) ∧ t.2 ∈ D.stored) ∧
  (∀ (i : Nat) a b, lost[i]? = some a → lost[i + 1]? = some b → ltT a b) ∧ ∀ H', Same H H' → Q .non H'
theorem ok71 (T : Txt K mg Z) (G34 : GDef P w K mg base CX0 2 "is_within" ["value", "least", "most"] [] spWithin) (G36 : GDef P w K mg base CX0 1 "is_row" ["value", "length"] [] (spRow K)) (F : TF K "check_lost" "check_lost" (top 71) [] [] f fd) : FnOk P w K mg base CX0 3 f fd ["cell", "count", "lost"] (spLost Z K) := by
  refine F.ok sc71 (fun vs H Q E h => ?_) (fun cdv A outer s H vs Q E hr h => ?_)
  · obtain ⟨_, _, _, _, _, rfl, _⟩ := h
    rfl
  · obtain ⟨p, lo, D, xs, lost, rfl, hp, hlo, hpx, hst, hlt, q⟩ := h
    have c := T.iC.cl
    refine ⟨_, PSs.nox <| pss_cons (ps_if (pt_not (pt_val (pe_isT T T.tup boot_tuple (pv 2)))) pss_never pss_nil)
      (pss_one (ps_for PassesOwn.never rfl (pi_enumT T.enu (pa_cons (pv 2) pa_nil)) (pg_tup rfl (pgs_cons (pg_name (i := 3) sc71.nd rfl (Or.inl rfl)) (pgs_cons (pg_name (i := 4) sc71.nd rfl (Or.inl rfl)) pgs_nil)))
        (pss_cons (ps_if (PW.pt (pw_or (pt_not (pt_val (pe_g G36 (hr.mono (by decide)) pass0 (pa_cons (pv 4) (pa_cons pe_int pa_nil))))) (pw_or1 (pt_not (pt_val (pe_g G34 hr pass0 (pa_cons (pe_ix ix_tup (pv 4) pe_int (fun _ _ => rfl)) (pa_cons pe_int (pa_cons (pe_op op_sub (pv 1) pe_int) pa_nil))))))))) pss_never pss_nil)
        (pss_cons (ps_if (PW.pt (pw_or (pt_not (pt_val (pe_isT T T.str boot_str (pe_ix ix_tup (pv 4) pe_int (fun _ _ => rfl))))) (pw_or1 (pt_cmpR op_notIn_seq (pe_ix ix_tup (pv 4) pe_int (fun _ _ => rfl)) (pe_at c T.c_stored (pv 0)) rfl)))) pss_never pss_nil)
        (pss_one (ps_if (PW.pt (pw_and (pt_cmpR op_gt (pv 3) pe_int (nomark _)) (pw_and1 (pt_cmpR (op_geP hr) (pe_ix ix_tup (pv 2) (pe_op op_sub (pv 3) pe_int) (fun _ _ => rfl)) (pv 4) (nomark _))))) pss_never pss_nil)))))), ?_⟩
    refine ⟨_, rfl, _, _, _, _, true, rfl, .ty _, ty_tup hlo, kit_ty (by decide +kernel), true, rfl, iteF ?_⟩
    refine ⟨_, rfl, lo, _, rfl, hlo, for_it walk_enumT (fun i σ H' => (∃ x y, σ = [some (.ref p), some (.int 2), some (.ref lo), x, y]) ∧ Same H H') ⟨⟨_, _, rfl⟩, .refl H⟩ (fun i σ H' _ h => h.2.tup hlo) ?_ ?_⟩
    · rintro i x σ H1 H2 hi ⟨⟨x0, y0, rfl⟩, S⟩ ⟨T0, a1, a2, rfl, hT, rfl, e1, e2⟩
      cases e1
      have e2 : xs[i]? = some a2 := e2
      have S1 := S.trans (Same.new (o := .tup [.int (i : Nat), a2]) hT)
      obtain ⟨t, et, ht0⟩ := paired_at hpx e2
      obtain ⟨a, rfl, ha⟩ := ht0.same S1
      obtain ⟨⟨t0, t1⟩, ts⟩ := hst t (List.mem_of_getElem? et)
      refine ⟨T0, _, rfl, .inl (.inl upd_same), rfl, _, _, rfl, _, _, rfl, rfl, ?_⟩
      generalize upd H1 T0 (.tup [.int (i : Nat), .ref a]) = H2 at S1 ha ⊢
      have ha' : SqT K H2 a [.int t.1, .str t.2] := .inl (.inl ha)
      obtain ⟨dx, pk, ti, tn, to, tt, ts', tw, tb, te, ob, h1, h2, h3, h4, h5, h6, h7, h8, h9, h10, h11⟩ := (hp.same S1).ex
      refine ⟨_, rfl, a, _, 2, rfl, ha', rfl, true, rfl, iteF ⟨_, rfl, a, _, _, _, rfl, rfl, ha', atI_nat (j := 0) rfl, _, rfl, _, _, rfl, rfl, t.1, 0, 1, rfl, _, rfl, iteBN (by simp [t0, t1]) ?_⟩⟩
      refine ⟨_, rfl, a, _, _, _, rfl, rfl, ha', atI_nat (j := 1) rfl, _, _, _, _, true, rfl, .ty _, .base (.str _), kit_ty (by decide +kernel), true, rfl, iteF ⟨_, rfl, a, _, _, _, rfl, rfl, ha', atI_nat (j := 1) rfl, _, rfl, p, dx, _, _, rfl, h1, cfs_stored .., ts', _, rfl, .inr h8, rfl, flat_strs _, _, rfl, iteBN (by show (!inV _ _) = false; rw [inV_str, decide_eq_true ts]; rfl) ?_⟩⟩
      refine ⟨_, rfl, _, _, rfl, rfl, _, rfl, ?_⟩
      by_cases h0 : i > 0
      · obtain ⟨j, rfl⟩ : ∃ j, i = j + 1 := ⟨i - 1, by omega⟩
        have hj : j < xs.length := by omega
        obtain ⟨t', et', ht'⟩ := paired_at hpx (List.getElem?_eq_getElem hj)
        have hl := hlt j t' t et' et
        refine iteD (by omega) ⟨_, rfl, _, rfl, _, _, rfl, rfl, lo, _, _, _, rfl, rfl, S1.tup hlo, ?_, _, rfl, t', t, (ht'.same S1).pair, ⟨a, rfl, ha'⟩, _, rfl, iteBN ?_ ⟨⟨_, _, rfl⟩, S1⟩⟩
        · have e : ((j + 1 : Nat) : Int) - 1 = (j : Nat) := by omega
          rw [e]
          exact atI_nat (List.getElem?_eq_getElem hj)
        · rcases hl with h | ⟨h1, h2, h3⟩
          · rw [if_neg (by omega), decide_eq_false (by omega)]
          · rw [if_pos h1, if_neg h2, decide_eq_true h3]
            rfl
      · exact iteDN (by omega) (iteF ⟨⟨_, _, rfl⟩, S1⟩)
    · rintro σ' H' ⟨_, S⟩
      exact q H' S
theorem g71 (T : Txt K mg Z) (G34 : GDef P w K mg base CX0 2 "is_within" ["value", "least", "most"] [] spWithin) (G36 : GDef P w K mg base CX0 1 "is_row" ["value", "length"] [] (spRow K)) (G : GTxt K mg "check_lost" (top 71) [] []) :
    GDef P w K mg base CX0 3 "check_lost" ["cell", "count", "lost"] [] (spLost Z K) := gdef G (fun _ _ _ _ _ _ us hl => match us, hl with | [_, _, _], _ => rfl) fun f fd F => ok71 T G34 G36 F
end
end K85
/-! K85C5: kept_things, untold. -/
namespace K85
open PySem PySem.Spec PyProof.Rows L2
section
variable {P : Program} {w : World} {K : PySem.W.Frag} {mg : Str → Option Value} {base : Heap} {Z : Cs} {f C : Addr} {fd : FuncData}
abbrev N69 : List Str := ["cell", "count", "lost", "gone", "things", "thing", "number", "name"]
theorem sc69 : FnScope N69 ["cell", "count", "lost"] (defScope (top 69)) := ⟨rfl, rfl, rfl, by decide +kernel, rfl, by decide +kernel, by decide +kernel⟩
def spKept (Z : Cs) (K : PySem.W.Frag) : Sp := fun vs H Q _ => ∃ (p lo : Addr) (D : CD) (xs : List V) (lost : List Th), vs = [.ref p, .int 2, .ref lo] ∧ CellAt Z K H p D ∧ SqT K H lo xs ∧ Paired (ThAt H) xs lost ∧ lost.length ≤ 20 ∧ D.stored.length ≤ 6 ∧ D.start.length ≤ 1 ∧ D.stop.length ≤ 1 ∧
  ∀ H' l ys, Same H H' → H' l = some (.lst ys) → Paired (ThAt H') ys (keptL D lost) → Q (.ref l) H'
theorem map_snoc {α : Type} {l : List α} {i : Nat} {x : α} (h : l[i]? = some x) : l.take (i + 1) = l.take i ++ [x] := by rw [List.take_succ, h]; rfl
theorem kept_len {D : CD} {lost : List Th} (i : Nat) : (stK D lost i).length ≤ D.stored.length := by
  unfold stK
  refine Nat.le_trans (List.length_filter_le _ _) ?_
  rw [List.length_map]
  exact Nat.le_refl _
theorem ok69 (T : Txt K mg Z) (F : TF K "kept_things" "kept_things" (top 69) [] [] f fd) : FnOk P w K mg base CX0 1 f fd ["cell", "count", "lost"] (spKept Z K) := by
  refine F.ok sc69 (fun vs H Q E h => ?_) (fun cdv A outer s H vs Q E hr h => ?_)
  · obtain ⟨_, _, _, _, _, rfl, _⟩ := h
    rfl
  · obtain ⟨p, lo, D, xs, lost, rfl, hp, hlo, hpx, ll, sl, bl, el, q⟩ := h
    have hu := hu_of hr
    have c := T.iC.cl
    refine ⟨_, PSs.nox <| pss_cons (ps_set (i := 3) sc69.nd rfl (Or.inr rfl) (pe_dcT (own := [("thing", 5)]) (g := gName 5) (tt := tYes) (Nat.lt_of_succ_lt hu) (by rfl) sc69.nd (pi_tup (pv 2)) (blkOk_by (N := N69) (sc := defScope (top 69)) (by decide +kernel))
        (fun _ _ _ _ _ => pg_name (i := 5) sc69.nd rfl (Or.inl rfl)) (fun _ _ _ _ _ => pts_nil) (fun _ _ _ _ _ => pv 5) (fun _ _ _ _ _ => pe_bl)))
      (pss_cons (ps_setLc2 (i := 4) (own := [("number", 6), ("name", 7)]) (vs1 := [7]) (g := gName 6) (tt := tYes) (wi1 := iTup K (tAt Z.C "stored" (tVar 0))) (g1 := gName 7) (by rfl) sc69.nd rfl rfl (sw_true rfl rfl rfl (by decide +kernel)) (pi_range1 rfl T.ran (pa_cons (pv 1) pa_nil)) (blkOk_by (N := N69) (sc := defScope (top 69)) (by decide +kernel)) (by simp)
        (fun _ _ _ _ _ => pg_name (i := 6) sc69.nd rfl (Or.inl rfl)) (fun _ _ _ _ _ => pts_nil) (fun _ _ _ _ _ => pi_tup (pe_at c T.c_stored (pv 0))) (fun _ _ _ _ _ => pg_name (i := 7) sc69.nd rfl (Or.inl rfl))
        (fun _ _ _ _ _ => pts_one (pt_cmp (pc_dnotin hu (pe_tup (pa_cons (pv 6) (pa_cons (pv 7) pa_nil))) (pv 3)))) (fun _ _ _ _ _ => pe_tup (pa_cons (pv 6) (pa_cons (pv 7) pa_nil))))
      (pss_one (ps_ret (pe_op op_cat (pe_op op_cat (pv 4)
        (pe_lc (own := [("name", 7)]) (g := gName 7) (tt := tYes) (by rfl) sc69.nd (pi_tup (pe_at c T.c_begin (pv 0))) (blkOk_by (N := N69) (sc := defScope (top 69)) (by decide +kernel)) (fun _ _ _ _ _ => pg_name (i := 7) sc69.nd rfl (Or.inl rfl)) (fun _ _ _ _ _ => pts_nil) (fun _ _ _ _ _ => pe_tup (pa_cons pe_int (pa_cons (pv 7) pa_nil)))))
        (pe_lc (own := [("name", 7)]) (g := gName 7) (tt := tYes) (by rfl) sc69.nd (pi_tup (pe_at c T.c_end (pv 0))) (blkOk_by (N := N69) (sc := defScope (top 69)) (by decide +kernel)) (fun _ _ _ _ _ => pg_name (i := 7) sc69.nd rfl (Or.inl rfl)) (fun _ _ _ _ _ => pts_nil) (fun _ _ _ _ _ => pe_tup (pa_cons (pe_op op_sub (pv 1) pe_int) (pa_cons (pv 7) pa_nil)))))))), ?_⟩
    obtain ⟨dx, pk, ti, tn, to, tt, ts, tw, tb, te, ob, h1, h2, h3, h4, h5, h6, h7, h8, h9, h10, h11⟩ := hp.ex
    refine ⟨_, rfl, lo, rfl, ⟨_, hlo⟩, fun G hG => ?_⟩
    have xl : xs.length = lost.length := Paired.length hpx
    refine cc_it walk_tup (fun i H' => Same H H' ∧ ∃ kvs, H' G = some (.dT kvs) ∧ kvs.length ≤ i ∧ (∀ t, kn kvs t = true → t ∈ lost) ∧ ∀ j t, j < i → lost[j]? = some t → kn kvs t = true)
      ⟨.new hG, [], upd_same, Nat.zero_le _, (fun t ht => nomatch ht), fun j t h => absurd h (Nat.not_lt_zero _)⟩ (fun i H' _ h => h.1.tup hlo) ?_ ?_
    · rintro i x _ H1 hi ⟨S1, kvs, hk, hl, hkn, hj⟩ ⟨rfl, ex⟩
      obtain ⟨t, et, ht⟩ := paired_at hpx ex
      obtain ⟨a, rfl, ha⟩ := ht.same S1
      refine ⟨rfl, _, rfl, kvs, tk t, a, rfl, ha, hk, small1000 (by omega), S1.at hG, _, upd_same, ?_, fun t' ht' => ?_, fun j t' hj' et' => ?_⟩
      · have := length_putK kvs (tk t) (.bl true)
        omega
      · rcases (kn_put kvs t t' _).mp ht' with h | rfl
        · exact hkn t' h
        · exact List.mem_of_getElem? et
      · refine (kn_put kvs t t' _).mpr ?_
        by_cases h : j < i
        · exact .inl (hj j t' h et')
        · have : j = i := by omega
          subst this
          rw [et] at et'
          cases et'
          exact .inr rfl
    · rintro H1 ⟨S1, kvs, hk, hl, hkn, hj⟩
      have hknE : ∀ t, kn kvs t = decide (t ∈ lost) := fun t => by
        by_cases h : t ∈ lost
        · obtain ⟨j, ej⟩ := List.mem_iff_getElem?.mp h
          rw [hj j t (by have := (List.getElem?_eq_some_iff.mp ej).1; omega) ej, decide_eq_true h]
        · rw [decide_eq_false h]
          cases e : kn kvs t with
          | false => rfl
          | true => exact absurd (hkn t e) h
      refine ⟨_, rfl, 2, rfl, by decide, by decide, fun L hL => ?_⟩
      have hL0 := S1.free hL
      have nGL : G ≠ L := ne_of_none hk hL
      refine cc_it (walk_range (lo := 0) (n := 2)) (fun i H' => Same H1 H' ∧ ∃ acc, H' L = some (.lst acc) ∧ acc.length ≤ 6 * i ∧ Paired (ThAt H') acc ((List.range i).flatMap (stK D lost))) ⟨.new hL, [], upd_same, Nat.zero_le _, .nil⟩ (fun _ _ _ _ => trivial) ?_ ?_
      · rintro i x _ H2 hi ⟨S2, acc, hac, hal, hpa⟩ ⟨rfl, ex⟩
        have ex : x = .int (i : Nat) := by rw [ex]; simp
        subst ex
        have S12 := S1.trans S2
        refine ⟨rfl, _, rfl, p, dx, _, _, rfl, S12 _ _ h1, cfs_stored .., ts, rfl, ⟨_, S12.tup h8⟩, ?_⟩
        refine cc_it walk_tup (fun j H' => Same H1 H' ∧ ∃ acc, H' L = some (.lst acc) ∧ acc.length ≤ 6 * i + j ∧ Paired (ThAt H') acc ((List.range i).flatMap (stK D lost) ++ ((D.stored.take j).map fun n => (((i : Nat) : Int), n)).filter fun t => !decide (t ∈ lost)))
          ⟨S2, acc, hac, hal, by simpa using hpa⟩ (fun j H' _ h => (S1.trans h.1).tup h8) ?_ ?_
        · rintro j y _ H3 hj3 ⟨S3, acc3, hac3, hal3, hpa3⟩ ⟨rfl, ey⟩
          rw [List.length_map] at hj3
          rw [List.getElem?_map] at ey
          obtain ⟨n, en, rfl⟩ := Option.map_eq_some_iff.mp ey
          refine ⟨rfl, _, rfl, _, rfl, line1000 (by simp), fun tp htp => ?_⟩
          have SN := Same.new (o := .tup [.int (i : Nat), .str n]) htp
          refine ⟨_, rfl, G, _, rfl, DGet.t (k := tk ((i : Int), n)) (SN _ _ (S3 _ _ hk)) upd_same, _, rfl, ?_⟩
          have hkE := hknE ((i : Int), n)
          have hac4 := SN _ _ hac3
          have e7 := map_snoc en
          cases ek : kn kvs ((i : Int), n) with
          | true =>
            rw [ek] at hkE
            refine iteBN (by show (!kn kvs _) = false; rw [ek]; rfl) ⟨S3.trans SN, acc3, hac4, by omega, ?_⟩
            rw [e7, List.map_append, List.filter_append]
            simp only [List.map_cons, List.map_nil, List.filter, ← hkE, Bool.not_true]
            rw [List.append_nil]
            exact paired_imp (fun _ _ q => q.same SN) hpa3
          | false =>
            rw [ek] at hkE
            refine iteB (by show (!kn kvs _) = true; rw [ek]; rfl) ⟨_, rfl, _, rfl, line1000 (by simp), fun tq htq => ?_⟩
            have SN2 := Same.new (o := .tup [.int (i : Nat), .str n]) htq
            have hac5 := SN2 _ _ hac4
            have hno := lst_noT hac5
            refine ⟨acc3, hac5, small1000 (by omega), ((S3.trans SN).trans SN2).at hL, _, upd_same, by simp; omega, ?_⟩
            rw [e7, List.map_append, List.filter_append]
            simp only [List.map_cons, List.map_nil, List.filter, ← hkE, Bool.not_false]
            rw [← List.append_assoc]
            exact paired_snoc (ThAt.upd (t := ((i : Int), n)) ⟨tq, rfl, upd_same⟩ hno) (paired_imp (fun _ _ q => ((q.same SN).same SN2).upd hno) hpa3)
        · rintro H3 ⟨S3, acc3, hac3, hal3, hpa3⟩
          refine ⟨S3, acc3, hac3, by rw [List.length_map] at hal3; omega, ?_⟩
          rw [List.range_succ, List.flatMap_append, List.length_map, List.take_length] at *
          simpa [stK] using hpa3
      · rintro H2 ⟨S2, acc, hac, hal, hpa⟩
        have S12 := S1.trans S2
        refine ⟨_, rfl, _, rfl, p, dx, _, _, rfl, S12 _ _ h1, cfs_begin .., tb, rfl, ⟨_, S12.tup h10⟩, fun M hM => ?_⟩
        refine cc_it walk_tup (fun j H' => Same H2 H' ∧ ∃ ac, H' M = some (.lst ac) ∧ ac.length = j ∧ Paired (ThAt H') ac ((D.start.take j).map fun n => ((0 : Int), n))) ⟨.new hM, [], upd_same, rfl, .nil⟩ (fun j H' _ h => (S12.trans h.1).tup h10) ?_ ?_
        · rintro j y _ H3 hj3 ⟨S3, acc3, hac3, hal3, hpa3⟩ ⟨rfl, ey⟩
          rw [List.length_map] at hj3
          rw [List.getElem?_map] at ey
          obtain ⟨n, en, rfl⟩ := Option.map_eq_some_iff.mp ey
          refine ⟨rfl, _, rfl, line1000 (by simp), fun tq htq => ?_⟩
          have SN2 := Same.new (o := .tup [.int 0, .str n]) htq
          have hac5 := SN2 _ _ hac3
          have hno := lst_noT hac5
          refine ⟨acc3, hac5, small1000 (by omega), (S3.trans SN2).at hM, _, upd_same, by simp [hal3], ?_⟩
          rw [map_snoc en, List.map_append]
          exact paired_snoc (ThAt.upd (t := ((0 : Int), n)) ⟨tq, rfl, upd_same⟩ hno) (paired_imp (fun _ _ q => (q.same SN2).upd hno) hpa3)
        · rintro H3 ⟨S3, acc3, hac3, hal3, hpa3⟩
          rw [List.length_map] at hal3
          rw [List.length_map, List.take_length] at hpa3
          refine ⟨L, M, acc, acc3, rfl, rfl, S3 _ _ hac, hac3, line1000 (by omega), fun N hN => ?_⟩
          have SN := Same.new (o := .lst (acc ++ acc3)) hN
          have S13 := (S12.trans S3).trans SN
          refine ⟨_, rfl, p, dx, _, _, rfl, S13 _ _ h1, cfs_end .., te, rfl, ⟨_, S13.tup h11⟩, fun O hO => ?_⟩
          have hp4 : Paired (ThAt (upd H3 N (.lst (acc ++ acc3)))) (acc ++ acc3) ((List.range 2).flatMap (stK D lost) ++ D.start.map fun n => ((0 : Int), n)) :=
            paired_append (paired_imp (fun _ _ q => (q.same S3).same SN) hpa) (paired_imp (fun _ _ q => q.same SN) hpa3)
          have hN4 : upd H3 N (.lst (acc ++ acc3)) N = some (.lst (acc ++ acc3)) := upd_same
          generalize upd H3 N (.lst (acc ++ acc3)) = H4 at SN S13 hp4 hN4 hO ⊢
          refine cc_it walk_tup (fun j H' => Same H4 H' ∧ ∃ ac, H' O = some (.lst ac) ∧ ac.length = j ∧ Paired (ThAt H') ac ((D.stop.take j).map fun n => ((1 : Int), n))) ⟨.new hO, [], upd_same, rfl, .nil⟩ (fun j H' _ h => (S13.trans h.1).tup h11) ?_ ?_
          · rintro j y _ H5 hj5 ⟨S5, acc5, hac5, hal5, hpa5⟩ ⟨rfl, ey⟩
            rw [List.length_map] at hj5
            rw [List.getElem?_map] at ey
            obtain ⟨n, en, rfl⟩ := Option.map_eq_some_iff.mp ey
            refine ⟨rfl, _, rfl, _, _, rfl, rfl, _, rfl, line1000 (by simp), fun tq htq => ?_⟩
            have SN2 := Same.new (o := .tup [.int (2 - 1), .str n]) htq
            have hac6 := SN2 _ _ hac5
            have hno := lst_noT hac6
            refine ⟨acc5, hac6, small1000 (by omega), (S5.trans SN2).at hO, _, upd_same, by simp [hal5], ?_⟩
            rw [map_snoc en, List.map_append]
            exact paired_snoc (ThAt.upd (t := ((1 : Int), n)) ⟨tq, rfl, upd_same⟩ hno) (paired_imp (fun _ _ q => (q.same SN2).upd hno) hpa5)
          · rintro H5 ⟨S5, acc5, hac5, hal5, hpa5⟩
            rw [List.length_map] at hal5
            rw [List.length_map, List.take_length] at hpa5
            refine ⟨N, O, acc ++ acc3, acc5, rfl, rfl, S5 _ _ hN4, hac5, line1000 (by simp; omega), fun R hR => ?_⟩
            have SR := Same.new (o := .lst (acc ++ acc3 ++ acc5)) hR
            exact q _ R _ ((S13.trans S5).trans SR) upd_same (paired_append (paired_imp (fun _ _ q => (q.same S5).same SR) hp4) (paired_imp (fun _ _ q => q.same SR) hpa5))
theorem g69 (T : Txt K mg Z) (G : GTxt K mg "kept_things" (top 69) [] []) : GDef P w K mg base CX0 1 "kept_things" ["cell", "count", "lost"] [] (spKept Z K) := gdef G (fun _ _ _ _ _ _ us hl => match us, hl with | [_, _, _], _ => rfl) fun f fd F => ok69 T F
end
end K85
/-! K85C6: untold. -/
namespace K85
open PySem PySem.Spec PyProof.Rows L2
/-- the wanted things, copy by copy -/
def wantL (D : CD) : List Th := (List.range 2).flatMap fun i => D.wanted.map fun n => (((i : Nat) : Int), n)
section
variable {P : Program} {w : World} {K : PySem.W.Frag} {mg : Str → Option Value} {base : Heap} {Z : Cs} {f C : Addr} {fd : FuncData}
abbrev N72 : List Str := ["cell", "count", "lost", "known", "wanted", "number", "name", "thing"]
theorem sc72 : FnScope N72 ["cell", "count", "lost"] (defScope (top 72)) := ⟨rfl, rfl, rfl, by decide +kernel, rfl, by decide +kernel, by decide +kernel⟩
def spUntold (Z : Cs) (K : PySem.W.Frag) : Sp := fun vs H Q _ => ∃ (p lo : Addr) (D : CD) (xs : List V) (lost : List Th), vs = [.ref p, .int 2, .ref lo] ∧ CellAt Z K H p D ∧ D.Ok ∧ SqT K H lo xs ∧ Paired (ThAt H) xs lost ∧ lost.length ≤ 20 ∧ (∀ t ∈ lost, (0 ≤ t.1 ∧ t.1 ≤ 1) ∧ t.2 ∈ D.stored) ∧
  (∀ (i : Nat) a b, lost[i]? = some a → lost[i + 1]? = some b → ltT a b) ∧
  ∀ H' t ys (k : Th → Bool), Same H H' → SqT K H' t ys → Paired (ThAt H') ys (((wantL D).mergeSort leP).filter fun t => !k t) → (∀ t, k t = true ↔ Got (chain D.rows) (keptL D lost) t) → Q (.ref t) H'
theorem chain_len (rows : List (T3 Str)) : (chain rows).length = 2 * rows.length := by
  unfold chain
  induction rows with
  | nil => rfl
  | cons a r ih => rw [List.flatMap_cons, List.length_append, ih]; simp; omega
theorem ok72 (T : Txt K mg Z) (G64 : GDef P w K mg base CX0 1 "check_cell" ["value"] [] (spIns Z.C)) (G70 : GDef P w K mg base CX0 3 "check_count" ["count"] [] spCount) (G71 : GDef P w K mg base CX0 3 "check_lost" ["cell", "count", "lost"] [] (spLost Z K))
    (G59 : GDef P w K mg base CX0 1 "got_things" ["triples", "things"] [] (spGot K)) (G67 : GDef P w K mg base CX0 3 "chain_triples" ["cell", "count"] [] (spChain Z K)) (G69 : GDef P w K mg base CX0 1 "kept_things" ["cell", "count", "lost"] [] (spKept Z K))
    (F : TF K "untold" "untold" (top 72) [] [] f fd) : FnOk P w K mg base CX0 4 f fd ["cell", "count", "lost"] (spUntold Z K) := by
  refine F.ok sc72 (fun vs H Q E h => ?_) (fun cdv A outer s H vs Q E hr h => ?_)
  · obtain ⟨_, _, _, _, _, rfl, _⟩ := h
    rfl
  · obtain ⟨p, lo, D, xs, lost, rfl, hp, ok, hlo, hpx, ll, hst, hlt, q⟩ := h
    have hu := hu_of hr
    have c := T.iC.cl
    have hr1 : Room 1 _ := hr.mono (by decide)
    refine ⟨_, PSs.nox <| pss_cons (ps_expr (pe_g G64 hr1 pass0 (pa_cons (pv 0) pa_nil))) (pss_cons (ps_expr (pe_g G70 hr pass0 (pa_cons (pv 1) pa_nil))) (pss_cons (ps_expr (pe_g G71 hr pass0 (pa_cons (pv 0) (pa_cons (pv 1) (pa_cons (pv 2) pa_nil)))))
      (pss_cons (ps_set (i := 3) sc72.nd rfl (Or.inr rfl) (pe_g G59 hr1 pass0 (pa_cons (pe_g G67 hr pass0 (pa_cons (pv 0) (pa_cons (pv 1) pa_nil))) (pa_cons (pe_g G69 hr1 pass0 (pa_cons (pv 0) (pa_cons (pv 1) (pa_cons (pv 2) pa_nil)))) pa_nil))))
      (pss_cons (ps_set (i := 4) sc72.nd rfl (Or.inl rfl) (pe_b (cr_sortH hr) T.srt boot_sorted (pa_cons (pe_lc2 (own := [("number", 5), ("name", 6)]) (vs1 := [6]) (g := gName 5) (tt := tYes) (wi1 := iTup K (tAt Z.C "wanted" (tVar 0))) (g1 := gName 6) (tt1 := tYes) (by rfl) sc72.nd (pi_range1 rfl T.ran (pa_cons (pv 1) pa_nil))
          (blkOk_by (N := N72) (sc := defScope (top 72)) (by decide +kernel)) (by simp) (fun _ _ _ _ _ => pg_name (i := 5) sc72.nd rfl (Or.inl rfl)) (fun _ _ _ _ _ => pts_nil) (fun _ _ _ _ _ => pi_tup (pe_at c T.c_wanted (pv 0))) (fun _ _ _ _ _ => pg_name (i := 6) sc72.nd rfl (Or.inl rfl)) (fun _ _ _ _ _ => pts_nil)
          (fun _ _ _ _ _ => pe_tup (pa_cons (pv 5) (pa_cons (pv 6) pa_nil)))) pa_nil)))
      (pss_one (ps_ret (pe_callTy call_tuple_of (by rfl) T.tup boot_tuple (pa_cons (pe_lc (own := [("thing", 7)]) (g := gName 7) (by rfl) sc72.nd (pi_list (pv 4)) (blkOk_by (N := N72) (sc := defScope (top 72)) (by decide +kernel)) (fun _ _ _ _ _ => pg_name (i := 7) sc72.nd rfl (Or.inl rfl))
          (fun _ _ _ _ _ => pts_one (pt_cmp (pc_dnotin hu (pv 7) (pv 3)))) (fun _ _ _ _ _ => pv 7)) pa_nil)))))))), ?_⟩
    obtain ⟨dx, pk, ti, tn, to, tt, ts, tw, tb, te, ob, h1, h2, h3, h4, h5, h6, h7, h8, h9, h10, h11⟩ := hp.ex
    have r2 := ok.rows
    have cl := chain_len D.rows
    have bl : D.start.length ≤ 1 := by rcases ok.start with e | e <;> rw [e] <;> decide
    have el : D.stop.length ≤ 1 := by rcases ok.stop with e | e <;> rw [e] <;> decide
    have wl : D.wanted.length ≤ 2 := by rcases ok.wanted0 with ⟨a, e⟩ | ⟨a, b, e⟩ <;> rw [e] <;> simp
    have kl : (keptL D lost).length ≤ 20 := by
      have e0 := kept_len (D := D) (lost := lost) 0
      have e1 := kept_len (D := D) (lost := lost) 1
      have sl := ok.storedL
      have e2 : (List.range 2).flatMap (stK D lost) = stK D lost 0 ++ stK D lost 1 := by simp [List.range_succ]
      unfold keptL
      rw [e2]
      simp only [List.length_append, List.length_map]
      omega
    refine ⟨_, rfl, p, dx, _, rfl, h1, _, rfl, rfl, ?_⟩
    refine ⟨_, rfl, _, rfl, _, rfl, p, lo, D, xs, lost, rfl, hp, hlo, hpx, hst, hlt, fun H1 S1 => ?_⟩
    refine ⟨_, rfl, _, rfl, p, D, rfl, hp.same S1, by omega, fun H2 l2 xs2 S2 _ hl2 hx2 => ?_⟩
    have S12 := S1.trans S2
    refine ⟨_, rfl, _, rfl, _, rfl, p, lo, D, xs, lost, rfl, hp.same S12, S12.tup hlo, paired_imp (fun _ _ q => q.same S12) hpx, ll, ok.storedL, bl, el, fun H3 l3 ys3 S3 hl3 hy3 => ?_⟩
    refine ⟨l2, l3, xs2, ys3, chain D.rows, keptL D lost, rfl, .inl (.inl (S3 _ _ hl2)), paired_imp (fun _ _ q => q.same S3) hx2, by omega, .inl (.inl hl3), hy3, by omega, fun H4 d kvs S4 hd4 hgot => ?_⟩
    have S14 := (S12.trans S3).trans S4
    refine ⟨_, rfl, 2, rfl, by decide, by decide, fun L hL => ?_⟩
    refine cc_it (walk_range (lo := 0) (n := 2)) (fun i H' => Same H4 H' ∧ ∃ acc, H' L = some (.lst acc) ∧ acc.length ≤ 2 * i ∧ Paired (ThAt H') acc ((List.range i).flatMap fun i => D.wanted.map fun n => (((i : Nat) : Int), n))) ⟨.new hL, [], upd_same, Nat.zero_le _, .nil⟩ (fun _ _ _ _ => trivial) ?_ ?_
    · rintro i x _ H5 hi ⟨S5, acc, hac, hal, hpa⟩ ⟨rfl, ex⟩
      have ex : x = .int (i : Nat) := by rw [ex]; simp
      subst ex
      have S15 := S14.trans S5
      refine ⟨rfl, _, rfl, p, dx, _, _, rfl, S15 _ _ h1, cfs_wanted .., tw, rfl, ⟨_, S15.tup h9⟩, ?_⟩
      refine cc_it walk_tup (fun j H' => Same H4 H' ∧ ∃ acc, H' L = some (.lst acc) ∧ acc.length ≤ 2 * i + j ∧ Paired (ThAt H') acc (((List.range i).flatMap fun i => D.wanted.map fun n => (((i : Nat) : Int), n)) ++ (D.wanted.take j).map fun n => (((i : Nat) : Int), n)))
        ⟨S5, acc, hac, hal, by simpa using hpa⟩ (fun j H' _ h => (S14.trans h.1).tup h9) ?_ ?_
      · rintro j y _ H6 hj ⟨S6, acc6, hac6, hal6, hpa6⟩ ⟨rfl, ey⟩
        rw [List.length_map] at hj
        rw [List.getElem?_map] at ey
        obtain ⟨n, en, rfl⟩ := Option.map_eq_some_iff.mp ey
        refine ⟨rfl, _, rfl, _, rfl, line1000 (by simp), fun tq htq => ?_⟩
        have SN2 := Same.new (o := .tup [.int (i : Nat), .str n]) htq
        have hac7 := SN2 _ _ hac6
        have hno := lst_noT hac7
        refine ⟨acc6, hac7, small1000 (by omega), (S6.trans SN2).at hL, _, upd_same, by simp; omega, ?_⟩
        rw [map_snoc en, List.map_append, ← List.append_assoc]
        exact paired_snoc (ThAt.upd (t := ((i : Int), n)) ⟨tq, rfl, upd_same⟩ hno) (paired_imp (fun _ _ q => (q.same SN2).upd hno) hpa6)
      · rintro H6 ⟨S6, acc6, hac6, hal6, hpa6⟩
        rw [List.length_map] at hal6
        rw [List.length_map, List.take_length] at hpa6
        refine ⟨S6, acc6, hac6, by omega, ?_⟩
        rw [List.range_succ, List.flatMap_append]
        simpa using hpa6
    · rintro H5 ⟨S5, acc, hac, hal, hpa⟩
      refine ⟨L, acc, wantL D, rfl, hac, hpa, fun ys M hys hM => ?_⟩
      have SM := Same.new (o := .lst ys) hM
      have hys' : Paired (ThAt (upd H5 M (.lst ys))) ys ((wantL D).mergeSort leP) := paired_imp (fun _ _ q => q.same SM) hys
      have hd6 := SM _ _ (S5 _ _ hd4)
      have S16 := (S14.trans S5).trans SM
      have hM6 : upd H5 M (.lst ys) M = some (.lst ys) := upd_same
      generalize upd H5 M (.lst ys) = H6 at SM hys' hd6 S16 hM6 ⊢
      refine ⟨_, rfl, M, rfl, ⟨_, .inl (.inl hM6)⟩, fun O hO => ?_⟩
      have yl : ys.length = ((wantL D).mergeSort leP).length := Paired.length hys'
      have yl4 : ys.length ≤ 4 := by
        rw [yl, List.length_mergeSort]
        have : wantL D = (D.wanted.map fun n => ((0 : Int), n)) ++ D.wanted.map fun n => ((1 : Int), n) := by simp [wantL, List.range_succ]
        rw [this]
        simp
        omega
      refine cc_it walk_list (fun i H' => Same H6 H' ∧ ∃ acc, H' O = some (.lst acc) ∧ acc.length ≤ i ∧ Paired (ThAt H6) acc ((((wantL D).mergeSort leP).take i).filter fun t => !kn kvs t)) ⟨.new hO, [], upd_same, Nat.zero_le _, .nil⟩ (fun i H' _ h => .inl (.inl (h.1 _ _ hM6))) ?_ ?_
      · rintro i y _ H7 hi ⟨S7, acc7, hac7, hal7, hpa7⟩ ⟨rfl, ey⟩
        obtain ⟨t, et, ht⟩ := paired_at hys' ey
        obtain ⟨a, rfl, ha⟩ := id (ht.same S7)
        have e7 := map_snoc et
        refine ⟨rfl, _, rfl, _, rfl, d, _, rfl, DGet.t (k := tk t) (S7 _ _ hd6) ha, _, rfl, ?_⟩
        cases ek : kn kvs t with
        | true =>
          refine iteBN (by show (!kn kvs t) = false; rw [ek]; rfl) ⟨S7, acc7, hac7, by omega, ?_⟩
          rw [e7, List.filter_append]
          simp only [List.filter, ek, Bool.not_true]
          rw [List.append_nil]
          exact hpa7
        | false =>
          refine iteB (by show (!kn kvs t) = true; rw [ek]; rfl) ⟨_, rfl, acc7, hac7, small1000 (by omega), S7.at hO, _, upd_same, by simp; omega, ?_⟩
          rw [e7, List.filter_append]
          simp only [List.filter, ek, Bool.not_false]
          exact paired_snoc ht hpa7
      · rintro H7 ⟨S7, acc7, hac7, hal7, hpa7⟩
        rw [yl, List.take_length] at hpa7
        refine ⟨O, acc7, rfl, .inl ⟨.inl (.inl hac7), fun R hR => ?_⟩⟩
        have SR := Same.new (o := .tup acc7) hR
        exact q _ R acc7 (kn kvs) ((S16.trans S7).trans SR) (.inl (.inl upd_same)) (paired_imp (fun _ _ q => (q.same S7).same SR) hpa7) hgot
theorem g72 (T : Txt K mg Z) (G64 : GDef P w K mg base CX0 1 "check_cell" ["value"] [] (spIns Z.C)) (G70 : GDef P w K mg base CX0 3 "check_count" ["count"] [] spCount) (G71 : GDef P w K mg base CX0 3 "check_lost" ["cell", "count", "lost"] [] (spLost Z K))
    (G59 : GDef P w K mg base CX0 1 "got_things" ["triples", "things"] [] (spGot K)) (G67 : GDef P w K mg base CX0 3 "chain_triples" ["cell", "count"] [] (spChain Z K)) (G69 : GDef P w K mg base CX0 1 "kept_things" ["cell", "count", "lost"] [] (spKept Z K))
    (G : GTxt K mg "untold" (top 72) [] []) : GDef P w K mg base CX0 4 "untold" ["cell", "count", "lost"] [] (spUntold Z K) := gdef G (fun _ _ _ _ _ _ us hl => match us, hl with | [_, _, _], _ => rfl) fun f fd F => ok72 T G64 G70 G71 G59 G67 G69 F
end
end K85
/-! K85R7: list(range(n)); an attribute as the target of an assignment. -/
namespace K85
open PySem PySem.Spec PyProof.Rows L2
theorem vals_of : ∀ {xs : List V} {us : List Value}, xs.length = us.length → (∀ (i : Nat) x u, xs[i]? = some x → us[i]? = some u → RelV x u) → Vals xs us
  | [], [], _, _ => .nil
  | [], _ :: _, h, _ => by simp at h
  | _ :: _, [], h, _ => by simp at h
  | x :: xs, u :: us, h, k => .cons (k 0 x u rfl rfl) (vals_of (by simpa using h) fun i y v e e' => k (i + 1) y v e e')
section
variable {X : Cx}
/-- range(n) as a value -/
theorem cr_range1 : CallR X (.type "range") (fun vs H Q => ∃ j, vs = [V.int j] ∧ ∀ p, H p = none → Q (.ref p) (upd H p (.rng 0 j))) := by
  intro pins s σ H vs us Q I r h
  obtain ⟨j, rfl, q⟩ := h
  obtain ⟨u, rfl, t, rfl⟩ := vals1 r
  refine call_range_1 ⟨.ref s.heap.objs.size, upd H s.heap.objs.size (.rng 0 j), I.laid (t' := s.toks + 1 + 1) (fun b o e => Heap.get?_push_of_some _ e) (Nat.le_refl _) ?_, rfl, q _ (I.hok.fresh (Nat.le_refl _))⟩
  exact ⟨s.toks, t, s.toks + 1, Heap.get?_push_size _ rfl⟩
/-- list(r), r a range from 0 -/
theorem call_list_rng (hc : X.calm = true) : CallR X (.type "list") (fun vs H Q => ∃ (a : Addr) (n : Nat), vs = [V.ref a] ∧ H a = some (.rng 0 (n : Int)) ∧ n ≤ 1000 ∧ ∀ l, H l = none → Q (.ref l) (upd H l (.lst ((List.range n).map fun i : Nat => V.int i)))) := by
  intro pins s σ H vs us Q I r h
  obtain ⟨a, n, rfl, ha, hn, q⟩ := h
  obtain ⟨u, rfl, ru⟩ := vals1 r
  obtain rfl : u = Value.ref a := ru
  obtain ⟨t, v, w', hr⟩ := (show ∃ t u v, s.heap.get? a = some { cls := .type "range", data := .fields #[.int 0 t, .int (n : Int) u, .int 1 v] } from I.hok a _ ha)
  refine call_list_range (n := n) (I.ok.hd hc) hr (small_one (by decide) (by decide) (by omega) (by omega)) (by rw [rangeSize_nat]; simp) (by omega) fun h' tk acc' c' hk hS hacc => ?_
  have hz : (List.range n).length = n := List.length_range
  have rel : Vals ((List.range n).map fun i : Nat => V.int i) acc'.toList := by
    refine vals_of (by rw [List.length_map, hz, Array.length_toList, hacc.1]) fun i x u ex eu => ?_
    rw [List.getElem?_map] at ex
    obtain ⟨j, ej, rfl⟩ := Option.map_eq_some_iff.mp ex
    have hi := (List.getElem?_eq_some_iff.mp ej)
    obtain ⟨h1, h2⟩ := hi
    rw [List.getElem_range] at h2
    subst h2
    rw [Array.getElem?_toList] at eu
    obtain ⟨tk, rfl⟩ := hacc.2 i u eu
    exact ⟨tk, by simp⟩
  refine ⟨.ref _, upd H s.heap.objs.size (.lst ((List.range n).map fun i : Nat => V.int i)), I.laid (t' := tk) hk (Nat.le_refl _) ⟨?_, acc'.toList, c', rel, by simpa using hS⟩, rfl, q _ (I.hok.fresh (Nat.le_refl _))⟩
  rw [List.length_map, hz]
  exact line1000 hn
/-- o.f as a target, C's field -/
def gAt (C : Addr) (f : Str) (ta : TE) : TG := fun y σ H Q => ta σ H fun x H2 => ∃ a dx fs, x = .ref a ∧ H2 a = some (.ins C dx fs) ∧ fs.length < 1000 ∧ Q σ (upd H2 a (.ins C dx (putF f y fs)))
theorem pg_at {C : Addr} {o : Expr} {f : Str} {ta : TE} {pos : Pos} (c : Cls X.K C) (n : NoAttr X.K C f) (ha : PE X o ta) : PG X (.Attribute o f pos) (gAt C f ta) := by
  refine ⟨fun pins s σ H y u Q I ry h => ?_⟩
  rw [PySem.assign_Attribute]
  refine wpAny_bind (wpAny_holding (thn (ha.run pins s σ H _ I h) fun ov s1 ⟨x, H1, I1, rx, a, dx, fs, ex, ea, l, q⟩ => ?_))
  subst ex
  obtain rfl : ov = Value.ref a := rx
  refine wpAny_bind (wpAny_standAt (wpAny_bind (wpAny_holding (setattr_ok I1 ea c n l ry fun s3 I3 => ?_))))
  exact wpAny_release ⟨σ, _, I3, q⟩
end
end K85
/-! K85L: Closing: made, root, merge, turned. -/
namespace K85
open PySem PySem.Spec PyProof.Rows L2
abbrev ivs (l : List Nat) : List V := l.map fun i : Nat => V.int i
structure PlTxt (K : PySem.W.Frag) (mg : Str → Option Value) : Prop where
  ex : ∃ a, mg "PLACES" = some (.ref a) ∧ ∀ H, SqT K H a (ivs [0, 1, 2])
/-- an object Closing -/
def LAt (Z : Cs) (K : PySem.W.Frag) (H : Hp) (p : Addr) (k : Str × List (T3 Nat)) (c : Bool) (ops : List (T3 Nat)) (pa : Addr) (ab : List Nat) : Prop :=
  ∃ dx pk po n pt xs, H p = some (.ins Z.L dx (lfs (.ref pk) n (.ref po) (.ref pa) pt)) ∧ KindAt Z.K H pk k.1 c ∧ H po = some (.lst xs) ∧ Paired (TupN K H) xs ops ∧ H pa = some (.lst (ivs ab)) ∧ pa ≠ po
theorem LAt.same {Z : Cs} {K : PySem.W.Frag} {H H' : Hp} {p pa : Addr} {k : Str × List (T3 Nat)} {c : Bool} {ops : List (T3 Nat)} {ab : List Nat} (h : LAt Z K H p k c ops pa ab) (S : Same H H') : LAt Z K H' p k c ops pa ab := by
  obtain ⟨dx, pk, po, n, pt, xs, h1, h2, h3, h4, h5, h6⟩ := h
  exact ⟨dx, pk, po, n, pt, xs, S _ _ h1, h2.kp S.kp, S _ _ h3, paired_imp (fun _ _ ⟨b, e, q⟩ => ⟨b, e, S.tup q⟩) h4, S _ _ h5, h6⟩
section
variable {P : Program} {w : World} {K : PySem.W.Frag} {mg : Str → Option Value} {base : Heap} {Z : Cs} {f C : Addr} {fd : FuncData}
/-! turned -/
theorem sc75 : FnScope ["triple", "turn"] ["triple", "turn"] (defScope (top 75)) := ⟨rfl, rfl, rfl, by decide +kernel, rfl, by decide +kernel, by decide +kernel⟩
def spTurned (K : PySem.W.Frag) : Sp := fun vs H Q _ => ∃ (a b : Addr) (t u : T3 Nat), vs = [.ref a, .ref b] ∧ TupN K H (.ref a) t ∧ TupN K H (.ref b) u ∧ u.1 < 3 ∧ u.2.1 < 3 ∧ u.2.2 < 3 ∧ ∀ r, H r = none → Q (.ref r) (upd H r (.tup [.int (pick t u.1 : Nat), .int (pick t u.2.1 : Nat), .int (pick t u.2.2 : Nat)]))
theorem ok75 (F : TF K "turned" "turned" (top 75) [] [] f fd) : FnOk P w K mg base CX0 1 f fd ["triple", "turn"] (spTurned K) := by
  refine F.ok sc75 (fun vs H Q E h => ?_) (fun cdv A outer s H vs Q E hr h => ?_)
  · obtain ⟨_, _, _, _, rfl, _⟩ := h
    rfl
  · obtain ⟨a, b, t, u, rfl, ⟨a', ea, ha⟩, ⟨b', eb, hb⟩, u1, u2, u3, q⟩ := h
    cases ea
    cases eb
    have ix : ∀ n : Nat, n < 3 → ∀ m : Nat, m < 3 → True := fun _ _ _ _ => trivial
    refine ⟨_, PSs.nox <| pss_one (ps_ret (pe_tup (pa_cons (pe_ix ix_tup (pv 0) (pe_ix ix_tup (pv 1) pe_int (fun _ _ => rfl)) (fun _ _ => rfl)) (pa_cons (pe_ix ix_tup (pv 0) (pe_ix ix_tup (pv 1) pe_int (fun _ _ => rfl)) (fun _ _ => rfl)) (pa_cons (pe_ix ix_tup (pv 0) (pe_ix ix_tup (pv 1) pe_int (fun _ _ => rfl)) (fun _ _ => rfl)) pa_nil))))), ?_⟩
    exact ⟨_, rfl, _, rfl, b, _, _, _, rfl, rfl, hb, atI_nat (j := 0) rfl, a, _, _, _, rfl, rfl, ha, at3 u1, _, rfl, _, rfl, b, _, _, _, rfl, rfl, hb, atI_nat (j := 1) rfl, a, _, _, _, rfl, rfl, ha, at3 u2,
      _, rfl, _, rfl, b, _, _, _, rfl, rfl, hb, atI_nat (j := 2) rfl, a, _, _, _, rfl, rfl, ha, at3 u3, line1000 (by simp), q⟩
theorem g75 (G : GTxt K mg "turned" (top 75) [] []) : GDef P w K mg base CX0 1 "turned" ["triple", "turn"] [] (spTurned K) := gdef G (fun _ _ _ _ _ _ us hl => match us, hl with | [_, _], _ => rfl) fun f fd F => ok75 F
/-! Closing.__init__ -/
abbrev PLI : List Str := ["self", "kind", "size", "operations"]
theorem sc760 : FnScope PLI PLI (defScope (met 76 0)) := ⟨rfl, rfl, rfl, by decide +kernel, rfl, by decide +kernel, by decide +kernel⟩
def spLI (Z : Cs) (K : PySem.W.Frag) : Sp := fun vs H Q _ => ∃ (p dx pk po n : Nat) (k : Str × List (T3 Nat)) (c : Bool) (xs : List V) (ops : List (T3 Nat)), vs = [.ref p, .ref pk, .int n, .ref po] ∧ H p = some (.ins Z.L dx []) ∧ KindAt Z.K H pk k.1 c ∧ H po = some (.lst xs) ∧ Paired (TupN K H) xs ops ∧ n ≤ 1000 ∧
  ∀ H' pa, But p H H' → H pa = none → LAt Z K H' p k c ops pa (List.range n) → Q .non H'
theorem ok760 (T : Txt K mg Z) (F : TF K "__init__" "Closing.__init__" (met 76 0) [] [] f fd) : FnOk P w K mg base CX0 1 f fd PLI (spLI Z K) := by
  refine F.ok sc760 (fun vs H Q E h => ?_) (fun cdv A outer s H vs Q E hr h => ?_)
  · obtain ⟨_, _, _, _, _, _, _, _, _, rfl, _⟩ := h
    rfl
  · obtain ⟨p, dx, pk, po, n, k, c, xs, ops, rfl, hp, hk, hpo, hpx, hn, q⟩ := h
    have cl := T.cL
    refine ⟨_, PSs.nox <| pss_cons (ps_at cl T.l_kind (pv 0) (pv 1)) (pss_cons (ps_at cl T.l_size (pv 0) (pv 2)) (pss_cons (ps_at cl T.l_operations (pv 0) (pe_callTy call_list_of (by rfl) T.lst boot_list (pa_cons (pv 3) pa_nil)))
      (pss_cons (ps_at cl T.l_above (pv 0) (pe_callTy (call_list_rng rfl) (by rfl) T.lst boot_list (pa_cons (pe_callTy cr_range1 (by rfl) T.ran boot_range (pa_cons (pv 2) pa_nil)) pa_nil))) (pss_one (ps_at cl T.l_trail (pv 0) (pe_lst pa_nil)))))), ?_⟩
    refine ⟨_, rfl, _, rfl, p, dx, _, rfl, hp, (by decide), ?_⟩
    refine ⟨_, rfl, _, rfl, p, dx, _, rfl, upd_same, (lt1000 (by kernel_rfl)), ?_⟩
    rw [upd_upd]
    have B2 : But p H (upd H p (.ins Z.L dx (putF "size" (.int n) (putF "kind" (.ref pk) [])))) := .upd p H _
    have p2 : upd H p (.ins Z.L dx (putF "size" (.int n) (putF "kind" (.ref pk) []))) p = some _ := upd_same
    generalize upd H p (.ins Z.L dx (putF "size" (.int n) (putF "kind" (.ref pk) []))) = H2 at B2 p2 ⊢
    have npo : po ≠ p := ne_of hpo hp (by intro z; cases z)
    refine ⟨_, rfl, po, xs, rfl, .inl (.inl (.inl (B2 _ _ hpo npo))), fun l hl => ?_⟩
    have npl : p ≠ l := ne_of_none p2 hl
    have B3 := B2.trans (Same.new (o := .lst xs) hl).but
    have e3 : upd H2 l (.lst xs) l = some (.lst xs) := upd_same
    refine ⟨_, rfl, p, dx, _, rfl, by rw [upd_ne npl]; exact p2, (lt1000 (by kernel_rfl)), ?_⟩
    have B4 := B3.trans (But.upd p (upd H2 l (.lst xs)) (.ins Z.L dx (putF "operations" (.ref l) (putF "size" (.int n) (putF "kind" (.ref pk) [])))))
    have e4 : upd (upd H2 l (.lst xs)) p (.ins Z.L dx (putF "operations" (.ref l) (putF "size" (.int n) (putF "kind" (.ref pk) [])))) l = some (.lst xs) := by rw [upd_ne npl.symm]; exact e3
    have p4 : upd (upd H2 l (.lst xs)) p (.ins Z.L dx (putF "operations" (.ref l) (putF "size" (.int n) (putF "kind" (.ref pk) [])))) p = some _ := upd_same
    generalize upd (upd H2 l (.lst xs)) p (.ins Z.L dx (putF "operations" (.ref l) (putF "size" (.int n) (putF "kind" (.ref pk) [])))) = H4 at B4 e4 p4 ⊢
    refine ⟨_, rfl, n, rfl, fun r hr' => ⟨r, n, rfl, upd_same, hn, fun pa hpa => ?_⟩⟩
    have S5 : Same H4 (upd (upd H4 r (.rng 0 n)) pa (.lst (ivs (List.range n)))) := (Same.new hr').trans (.new hpa)
    have e5 : upd (upd H4 r (.rng 0 n)) pa (.lst (ivs (List.range n))) pa = some (.lst (ivs (List.range n))) := upd_same
    have hpa4 : H4 pa = none := (Same.new hr').free hpa
    have nap : pa ≠ p := fun e => by rw [e, p4] at hpa4; cases hpa4
    have nal : pa ≠ l := fun e => by rw [e, e4] at hpa4; cases hpa4
    have hpa0 : H pa = none := by
      cases e : H pa with
      | none => rfl
      | some o =>
        rw [B4 _ _ e nap] at hpa4
        cases hpa4
    generalize upd (upd H4 r (.rng 0 n)) pa (.lst (ivs (List.range n))) = H5 at S5 e5 ⊢
    refine ⟨_, rfl, p, dx, _, rfl, S5 _ _ p4, (lt1000 (by kernel_rfl)), ?_⟩
    refine ⟨line1000 (by simp), fun t ht => ?_⟩
    have nt : p ≠ t := ne_of_none (upd_same (H := H5) (a := p)) ht
    refine ⟨_, rfl, p, dx, _, rfl, by rw [upd_ne nt, upd_same], (lt1000 (by kernel_rfl)), ?_⟩
    rw [lfs_put]
    have B5 : But p H5 (upd (upd (upd H5 p (.ins Z.L dx (putF "above" (.ref pa) (putF "operations" (.ref l) (putF "size" (.int n) (putF "kind" (.ref pk) [])))))) t (.lst [])) p (.ins Z.L dx (lfs (.ref pk) (.int n) (.ref l) (.ref pa) (.ref t)))) := fun b o e n' => by
      have : b ≠ t := ne_of_none (show upd H5 p _ b = some o by rw [upd_ne n']; exact e) ht
      rw [upd_ne n', upd_ne this, upd_ne n']
      exact e
    have BF := (B4.trans S5.but).trans B5
    have hno : ∀ o, H p = some o → ¬ TupO o := fun o e => by rw [hp] at e; cases e; exact id
    refine q _ pa BF hpa0 ⟨dx, pk, l, .int n, .ref t, xs, upd_same, hk.kp (BF.kp hp), B5 _ _ (S5 _ _ e4) npl.symm, paired_imp (fun _ _ q => q.but BF hno) hpx, B5 _ _ e5 nap, nal⟩
theorem g760 (T : Txt K mg Z) (G : CTxt K mg Z.L "Closing" "Closing.__init__" (met 76 0) [] []) : CDef P w K mg base CX0 1 Z.L "Closing" PLI [] (spLI Z K) := by
  obtain ⟨f, fd, F, M, hm⟩ := G
  exact ⟨f, fd, [], ok760 T F, F.bindsN fun _ _ _ _ _ _ us hl => match us, hl with | [_, _, _, _], _ => rfl, .nil, M, hm⟩
/-! root -/
theorem sc761 : FnScope ["self", "thing"] ["self", "thing"] (defScope (met 76 1)) := ⟨rfl, rfl, rfl, by decide +kernel, rfl, by decide +kernel, by decide +kernel⟩
def spRoot (Z : Cs) : Sp := fun vs H Q _ => ∃ (p dx pa i a : Nat) (v1 v2 v3 v5 : V) (ab : List Nat), vs = [.ref p, .int i] ∧ H p = some (.ins Z.L dx (lfs v1 v2 v3 (.ref pa) v5)) ∧ H pa = some (.lst (ivs ab)) ∧ ab[i]? = some a ∧ ab[a]? = some a ∧ Q (.int a) H
theorem at_ivs {ab : List Nat} {i a : Nat} (h : ab[i]? = some a) : atI (ivs ab) (i : Int) = some (.int (a : Nat)) := by
  refine atI_nat ?_
  rw [List.getElem?_map, h]
  rfl
theorem ok761 (T : Txt K mg Z) (F : TF K "root" "Closing.root" (met 76 1) [] [] f fd) : FnOk P w K mg base CX0 1 f fd ["self", "thing"] (spRoot Z) := by
  refine F.ok sc761 (fun vs H Q E h => ?_) (fun cdv A outer s H vs Q E hr h => ?_)
  · obtain ⟨_, _, _, _, _, _, _, _, _, _, rfl, _⟩ := h
    rfl
  · obtain ⟨p, dx, pa, i, a, v1, v2, v3, v5, ab, rfl, hp, hpa, hi, ha, q⟩ := h
    have cl := T.cL
    refine ⟨_, PSs.nox <| pss_cons (ps_while PassesOwn.never (pt_cmpR op_ne (pe_ix ix_list (pe_at cl T.l_above (pv 0)) (pv 1) (fun _ _ => rfl)) (pv 1) (nomark _)) (pss_one (ps_set (i := 1) sc761.nd rfl (Or.inl rfl) (pe_ix ix_list (pe_at cl T.l_above (pv 0)) (pv 1) (fun _ _ => rfl))))) (pss_one (ps_ret (pv 1))), ?_⟩
    refine ⟨fun m σ H' => H' = H ∧ ((m = 1 ∧ σ = [some (.ref p), some (.int i)]) ∨ (m = 0 ∧ σ = [some (.ref p), some (.int a)])), ⟨1, rfl, .inl ⟨rfl, rfl⟩⟩, ?_⟩
    rintro m σ _ ⟨rfl, ⟨rfl, rfl⟩ | ⟨rfl, rfl⟩⟩
    · refine ⟨_, rfl, p, dx, _, _, rfl, hp, lfs_above .., _, rfl, pa, _, _, _, rfl, rfl, .inl (.inl hpa), at_ivs hi, _, rfl, rfl, _, rfl, ?_⟩
      by_cases e : a = i
      · subst e
        exact iteNS rfl ⟨_, rfl, q⟩
      · refine iteNSN (fun z => e (by injection z with z; omega)) ⟨fun σ' H' => ∃ m', m' < 1 ∧ (H' = H' ∧ H' = _ ∧ ((m' = 1 ∧ σ' = [some (.ref p), some (.int i)]) ∨ (m' = 0 ∧ σ' = [some (.ref p), some (.int a)]))), fun σ' H' ⟨m', h1, _, h2⟩ => ⟨m', h1, h2⟩, ?_⟩
        exact ⟨_, rfl, p, dx, _, _, rfl, hp, lfs_above .., _, rfl, pa, _, _, _, rfl, rfl, .inl (.inl hpa), at_ivs hi, 0, by decide, rfl, rfl, .inr ⟨rfl, rfl⟩⟩
    · exact ⟨_, rfl, p, dx, _, _, rfl, hp, lfs_above .., _, rfl, pa, _, _, _, rfl, rfl, .inl (.inl hpa), at_ivs ha, _, rfl, rfl, _, rfl, iteNS rfl ⟨_, rfl, q⟩⟩
theorem g761 (T : Txt K mg Z) (G : MTxt K Z.L "Closing" "root" "Closing.root" (met 76 1) [] []) : MDef P w K mg base CX0 1 Z.L "root" ["self", "thing"] [] (spRoot Z) := mdef G (fun _ _ _ _ _ _ us hl => match us, hl with | [_, _], _ => rfl) fun f fd F => ok761 T F
/-! merge -/
abbrev N763 : List Str := ["self", "one", "other"]
theorem sc763 : FnScope N763 N763 (defScope (met 76 3)) := ⟨rfl, rfl, rfl, by decide +kernel, rfl, by decide +kernel, by decide +kernel⟩
def spMerge (Z : Cs) : Sp := fun vs H Q _ => ∃ (p dx pa i j a b : Nat) (v1 v2 v3 v5 : V) (ab : List Nat), vs = [.ref p, .int i, .int j] ∧ H p = some (.ins Z.L dx (lfs v1 v2 v3 (.ref pa) v5)) ∧ H pa = some (.lst (ivs ab)) ∧ ab[i]? = some a ∧ ab[a]? = some a ∧ ab[j]? = some b ∧ ab[b]? = some b ∧
  Q (.bl (!decide (V.int a = V.int b))) (upd H pa (.lst (ivs (ab.set (max a b) (min a b)))))
theorem ok763 (T : Txt K mg Z) (G761 : MDef P w K mg base CX0 1 Z.L "root" ["self", "thing"] [] (spRoot Z)) (F : TF K "merge" "Closing.merge" (met 76 3) [] [] f fd) : FnOk P w K mg base CX0 2 f fd N763 (spMerge Z) := by
  refine F.ok sc763 (fun vs H Q E h => ?_) (fun cdv A outer s H vs Q E hr h => ?_)
  · obtain ⟨_, _, _, _, _, _, _, _, _, _, _, _, rfl, _⟩ := h
    rfl
  · obtain ⟨p, dx, pa, i, j, a, b, v1, v2, v3, v5, ab, rfl, hp, hpa, hi, ha, hj, hb, q⟩ := h
    have cl := T.cL
    refine ⟨_, PSs.nox <| pss_cons (ps_par (i := 1) (j := 2) rfl sc763.nd rfl rfl (by decide) rfl rfl (pa_cons (pe_m G761 cl hr pass0 (pv 0) (pa_cons (pv 1) pa_nil)) (pa_cons (pe_m G761 cl hr pass0 (pv 0) (pa_cons (pv 2) pa_nil)) pa_nil)) (by rfl))
      (pss_cons (ps_asg (pe_b (call_min2 rfl) T.min (by decide +kernel) (pa_cons (pv 1) (pa_cons (pv 2) pa_nil))) (pg_sub (pe_at cl T.l_above (pv 0)) (pe_b (call_max2 rfl) T.max (by decide +kernel) (pa_cons (pv 1) (pa_cons (pv 2) pa_nil))) set_list))
      (pss_one (ps_ret (pe_cmpR op_ne (pv 1) (pv 2) (nomark _))))), ?_⟩
    have hla : a < ab.length := (List.getElem?_eq_some_iff.mp ha).1
    have hlb : b < ab.length := (List.getElem?_eq_some_iff.mp hb).1
    refine ⟨_, rfl, p, dx, _, rfl, hp, lfs_no_root .., _, rfl, p, dx, pa, i, a, v1, v2, v3, v5, ab, rfl, hp, hpa, hi, ha, _, rfl, p, dx, _, rfl, hp, lfs_no_root .., _, rfl, p, dx, pa, j, b, v1, v2, v3, v5, ab, rfl, hp, hpa, hj, hb, _, _, rfl, ?_⟩
    have emax : (if ((b : Nat) : Int) > (a : Nat) then ((b : Nat) : Int) else (a : Nat)) = ((max a b : Nat) : Int) := by split <;> omega
    have emin : (if ((b : Nat) : Int) < (a : Nat) then ((b : Nat) : Int) else (a : Nat)) = ((min a b : Nat) : Int) := by split <;> omega
    refine ⟨_, rfl, _, rfl, a, b, rfl, _, rfl, p, dx, _, _, rfl, hp, lfs_above .., _, rfl, _, rfl, a, b, rfl, pa, _, _, max a b, rfl, rfl, hpa, ?_, ?_⟩
    · rw [emax]
      have : max a b < (ivs ab).length := by rw [List.length_map]; omega
      unfold ixN
      rw [if_pos (by omega), if_pos (by omega)]
      simp
    · refine ⟨_, rfl, _, rfl, rfl, ?_⟩
      rw [emin]
      have e : (ivs ab).set (max a b) (V.int ((min a b : Nat) : Int)) = ivs (ab.set (max a b) (min a b)) := by
        exact List.map_set.symm
      rw [e]
      exact q
theorem g763 (T : Txt K mg Z) (G761 : MDef P w K mg base CX0 1 Z.L "root" ["self", "thing"] [] (spRoot Z)) (G : MTxt K Z.L "Closing" "merge" "Closing.merge" (met 76 3) [] []) : MDef P w K mg base CX0 2 Z.L "merge" N763 [] (spMerge Z) :=
  mdef G (fun _ _ _ _ _ _ us hl => match us, hl with | [_, _, _], _ => rfl) fun f fd F => ok763 T G761 F
end
end K85
/-! K85LM: roots of triples. Plain Lean. -/
namespace K85
/-- the root of i, one step above -/
def rof (ab : List Nat) (i : Nat) : Nat := (ab[i]?).getD 0
def rt (ab : List Nat) (t : T3 Nat) : T3 Nat := (rof ab t.1, rof ab t.2.1, rof ab t.2.2)
/-- what is above is a root -/
def Ab (ab : List Nat) : Prop := ∀ i, i < ab.length → ab[rof ab i]? = some (rof ab i)
theorem rof_at {ab : List Nat} {i : Nat} (h : i < ab.length) : ab[i]? = some (rof ab i) := by
  unfold rof
  rw [List.getElem?_eq_getElem h]
  rfl
theorem rof_of {ab : List Nat} {i a : Nat} (h : ab[i]? = some a) : rof ab i = a := by
  unfold rof
  rw [h]
  rfl
theorem rof_rof {ab : List Nat} (h : Ab ab) {i : Nat} (hi : i < ab.length) : rof ab (rof ab i) = rof ab i := rof_of (h i hi)
theorem rof_lt {ab : List Nat} (h : Ab ab) {i : Nat} (hi : i < ab.length) : rof ab i < ab.length := (List.getElem?_eq_some_iff.mp (h i hi)).1
theorem set_self {ab : List Nat} {i : Nat} (h : ab[i]? = some i) : ab.set (max i i) (min i i) = ab := by
  rw [Nat.max_self, Nat.min_self]
  exact List.ext_getElem? fun j => by
    rw [List.getElem?_set]
    split
    · rename_i e
      subst e
      split
      · exact h.symm
      · rename_i hn
        exact absurd (List.getElem?_eq_some_iff.mp h).1 hn
    · rfl
theorem pick_rt (ab : List Nat) (t : T3 Nat) (n : Nat) : pick (rt ab t) n = rof ab (pick t n) := by
  match n with
  | 0 => rfl
  | 1 => rfl
  | _ + 2 => rfl
theorem img_rt (ab : List Nat) (t u : T3 Nat) : img u (rt ab t) = rt ab (img u t) := by
  unfold img
  rw [pick_rt, pick_rt, pick_rt]
  rfl
theorem oth1_rt (ab : List Nat) (t : T3 Nat) (n : Nat) : (oth (rt ab t) n).1 = rof ab (oth t n).1 := by
  match n with
  | 0 => rfl
  | 1 => rfl
  | _ + 2 => rfl
theorem oth2_rt (ab : List Nat) (t : T3 Nat) (n : Nat) : (oth (rt ab t) n).2 = rof ab (oth t n).2 := by
  match n with
  | 0 => rfl
  | 1 => rfl
  | _ + 2 => rfl
theorem pick_lt {t : T3 Nat} {m : Nat} (h : t.1 < m ∧ t.2.1 < m ∧ t.2.2 < m) (n : Nat) : pick t n < m := by
  match n with
  | 0 => exact h.1
  | 1 => exact h.2.1
  | _ + 2 => exact h.2.2
theorem img_lt {t u : T3 Nat} {m : Nat} (h : t.1 < m ∧ t.2.1 < m ∧ t.2.2 < m) : (img u t).1 < m ∧ (img u t).2.1 < m ∧ (img u t).2.2 < m := ⟨pick_lt h _, pick_lt h _, pick_lt h _⟩
theorem oth_lt {t : T3 Nat} {m : Nat} (h : t.1 < m ∧ t.2.1 < m ∧ t.2.2 < m) (n : Nat) : (oth t n).1 < m ∧ (oth t n).2 < m := by
  match n with
  | 0 => exact ⟨h.2.1, h.2.2⟩
  | 1 => exact ⟨h.1, h.2.2⟩
  | _ + 2 => exact ⟨h.1, h.2.1⟩
end K85
/-! K85L2: Closing.entered. -/
namespace K85
open PySem PySem.Spec PyProof.Rows L2
theorem upd_id {H : Hp} {a : Addr} {o : HO} (h : H a = some o) : upd H a o = H := by
  funext b
  by_cases e : b = a
  · rw [e, upd_same, h]
  · rw [upd_ne e]
theorem small9k {n : Nat} (h : n ≤ 9000) : n < sizeLine := Nat.lt_of_le_of_lt h (by decide)
/-- the table's entries: of images of operations, the third thing's root at the key of the other two -/
def TabOk (L : List (T3 Nat)) (ops : List (T3 Nat)) (ab : List Nat) (H : Hp) (kvs : List (List Key × V)) : Prop := ∀ k v, valV kvs k = some v → ∃ t u p, t ∈ ops ∧ u ∈ L ∧ p < 3 ∧ k = kk (rt ab (img u t)) p ∧
  ∃ r x y, ∃ th : Nat, v = .ref r ∧ H r = some (.tup [x, y, .int th]) ∧ th < ab.length ∧ rof ab th = pick (rt ab (img u t)) p
theorem TabOk.but {L ops : List (T3 Nat)} {ab : List Nat} {D : Addr} {H H' : Hp} {kvs : List (List Key × V)} (h : TabOk L ops ab H kvs) (B : But D H H') (hd : ∀ o, H D = some o → ¬ TupO o) : TabOk L ops ab H' kvs := fun k v e => by
  obtain ⟨t, u, p, h1, h2, h3, h4, r, x, y, th, h5, h6, h7⟩ := h k v e
  exact ⟨t, u, p, h1, h2, h3, h4, r, x, y, th, h5, B _ _ h6 (fun e => hd (.tup [x, y, .int th]) (by rw [← e]; exact h6) trivial), h7⟩
theorem LAt.but {Z : Cs} {K : PySem.W.Frag} {D : Addr} {H H' : Hp} {kvs : List (List Key × V)} {p pa : Addr} {k : Str × List (T3 Nat)} {c : Bool} {ops : List (T3 Nat)} {ab : List Nat} (h : LAt Z K H p k c ops pa ab) (B : But D H H') (hd : H D = some (.dT kvs)) : LAt Z K H' p k c ops pa ab := by
  obtain ⟨dx, pk, po, n, pt, xs, h1, ⟨dk, h2⟩, h3, h4, h5, h6⟩ := h
  exact ⟨dx, pk, po, n, pt, xs, B _ _ h1 (ne_of h1 hd (by intro z; cases z)), ⟨dk, B _ _ h2 (ne_of h2 hd (by intro z; cases z))⟩, B _ _ h3 (ne_of h3 hd (by intro z; cases z)), paired_imp (fun _ _ q => q.but B (dT_noT hd)) h4, B _ _ h5 (ne_of h5 hd (by intro z; cases z)), h6⟩
theorem paired_back {α β : Type} {R : α → β → Prop} : ∀ {xs : List α} {ys : List β}, Paired R xs ys → ∀ {i : Nat} {y : β}, ys[i]? = some y → ∃ x, xs[i]? = some x ∧ R x y
  | _, _, .nil, i, x, e => by simp at e
  | _, _, .cons q r, 0, x, e => by cases e; exact ⟨_, rfl, q⟩
  | _, _, .cons q r, i + 1, x, e => paired_back r e
theorem ivs012 {j : Nat} {x : V} (h : (ivs [0, 1, 2])[j]? = some x) : x = .int (j : Nat) ∧ j < 3 := by
  match j, h with
  | 0, h => cases h; exact ⟨rfl, by decide⟩
  | 1, h => cases h; exact ⟨rfl, by decide⟩
  | 2, h => cases h; exact ⟨rfl, by decide⟩
theorem ivs_snoc (l : List Nat) (m : Nat) : ivs l ++ [V.int (m : Nat)] = ivs (l ++ [m]) := by simp [ivs]
/-- the other two places -/
def othP : Nat → List Nat
  | 0 => [1, 2]
  | 1 => [0, 2]
  | _ => [0, 1]
theorem filt_oth {p : Nat} (hp : p < 3) : ([0, 1, 2] : List Nat).filter (fun q => !decide (q = p)) = othP p := by
  match p, hp with
  | 0, _ => decide
  | 1, _ => decide
  | 2, _ => decide
theorem map_oth {t : T3 Nat} {p : Nat} (hp : p < 3) : (othP p).map (pick t) = [(oth t p).1, (oth t p).2] := by
  match p, hp with
  | 0, _ => rfl
  | 1, _ => rfl
  | 2, _ => rfl
section
variable {P : Program} {w : World} {K : PySem.W.Frag} {mg : Str → Option Value} {base : Heap} {Z : Cs} {f C : Addr} {fd : FuncData}
abbrev N765 : List Str := ["self", "table", "number", "turn", "triple", "found", "place", "at", "others", "key", "past", "before", "thing"]
theorem sc765 : FnScope N765 ["self", "table", "number", "turn"] (defScope (met 76 5)) := ⟨rfl, rfl, rfl, by decide +kernel, rfl, by decide +kernel, by decide +kernel⟩
/-- operations' things stand below the length -/
def OpsLt (ops : List (T3 Nat)) (m : Nat) : Prop := ∀ t ∈ ops, t.1 < m ∧ t.2.1 < m ∧ t.2.2 < m
def spEnt (Z : Cs) (K : PySem.W.Frag) : Sp := fun vs H Q _ => ∃ (p D tu i pa : Nat) (k : Str × List (T3 Nat)) (c : Bool) (ops : List (T3 Nat)) (ab : List Nat) (kvs : List (List Key × V)) (t u : T3 Nat), vs = [.ref p, .ref D, .int i, .ref tu] ∧ LAt Z K H p k c ops pa ab ∧ Ab ab ∧ OpsLt ops ab.length ∧ k ∈ lots ∧
  NC k.2 c (ops.map (rt ab)) ∧ ops[i]? = some t ∧ TupN K H (.ref tu) u ∧ u ∈ k.2 ∧ H D = some (.dT kvs) ∧ TabOk k.2 ops ab H kvs ∧ kvs.length ≤ 5000 ∧
  ∀ H' kvs', But D H H' → H' D = some (.dT kvs') → TabOk k.2 ops ab H' kvs' → kvs'.length ≤ kvs.length + 3 → Q (.bl false) H'
theorem ok765 (T : Txt K mg Z) (TP : PlTxt K mg) (G75 : GDef P w K mg base CX0 1 "turned" ["triple", "turn"] [] (spTurned K)) (G761 : MDef P w K mg base CX0 1 Z.L "root" ["self", "thing"] [] (spRoot Z)) (G763 : MDef P w K mg base CX0 2 Z.L "merge" N763 [] (spMerge Z))
    (F : TF K "entered" "Closing.entered" (met 76 5) [] [] f fd) : FnOk P w K mg base CX0 3 f fd ["self", "table", "number", "turn"] (spEnt Z K) := by
  refine F.ok sc765 (fun vs H Q E h => ?_) (fun cdv A outer s H vs Q E hr h => ?_)
  · obtain ⟨_, _, _, _, _, _, _, _, _, _, _, _, rfl, _⟩ := h
    rfl
  · obtain ⟨p, D, tu, i, pa, k, c, ops, ab, kvs, t, u, rfl, hp, hab, hops, hk, hnc, hi, htu, hu', hD, hT, hl, q⟩ := h
    have hu := hu_of hr
    have cl := T.cL
    have hr1 : Room 1 _ := hr.mono (by decide)
    obtain ⟨aP, gP, hP⟩ := TP.ex
    refine ⟨_, PSs.nox <| pss_cons (ps_set (i := 4) sc765.nd rfl (Or.inr rfl) (pe_g G75 hr1 pass0 (pa_cons (pe_ix ix_list (pe_at cl T.l_operations (pv 0)) (pv 2) (fun _ _ => rfl)) (pa_cons (pv 3) pa_nil))))
      (pss_cons (ps_set (i := 5) sc765.nd rfl (Or.inl rfl) pe_bl)
      (pss_cons (ps_for PassesOwn.never rfl (pi_tup (pe_glob (v := .ref aP) (by rfl) gP rfl)) (pg_name (i := 6) sc765.nd rfl (Or.inr rfl))
        (pss_cons (ps_setLc (i := 8) (own := [("at", 7)]) (g := gName 7) (by rfl) sc765.nd rfl rfl (sw_true rfl rfl rfl (by decide +kernel)) (pi_tup (pe_glob (v := .ref aP) (by rfl) gP rfl)) (blkOk_by (N := N765) (sc := defScope (met 76 5)) (by decide +kernel)) (fun _ _ _ _ _ => pg_name (i := 7) sc765.nd rfl (Or.inl rfl))
            (fun _ _ _ _ _ => pts_one (pt_cmpR op_ne (pv 7) (pv 6) (nomark _))) (fun _ _ _ _ _ => pe_m G761 cl hr1 pass0 (pv 0) (pa_cons (pe_ix (r := rIxT K) ix_tup (pv 4) (pv 7) (fun _ _ => rfl)) pa_nil)))
        (C8.pss_cut (ps_if (PW.pt (pw_and (pt_val (pe_at T.iK.cl T.k_calm (pe_at cl T.l_kind (pv 0)))) (pw_and (pt_cmpR op_eq (pe_ix ix_list (pv 8) pe_int (fun _ _ => rfl)) (pe_ix ix_list (pv 8) pe_int (fun _ _ => rfl)) (nomark _))
            (pw_and1 (pt_val (pe_m G763 cl hr pass0 (pv 0) (pa_cons (pe_ix ix_tup (pv 4) (pv 6) (fun _ _ => rfl)) (pa_cons (pe_ix ix_list (pv 8) pe_int (fun _ _ => rfl)) pa_nil)))))))) pss_never pss_nil)
        (pss_cons (ps_set (i := 9) sc765.nd rfl (Or.inl rfl) (pe_tup (pa_cons (pv 6) (pa_cons (pe_ix ix_list (pv 8) pe_int (fun _ _ => rfl)) (pa_cons (pe_ix ix_list (pv 8) pe_int (fun _ _ => rfl)) pa_nil)))))
        (pss_cons (ps_if (pt_cmp (pc_dnotin hu (pv 9) (pv 1))) (pss_cons (ps_dput hu (pv 1) (pv 9) (pe_tup (pa_cons (pv 2) (pa_cons (pv 3) (pa_cons (pe_ix ix_tup (pv 4) (pv 6) (fun _ _ => rfl)) pa_nil)))) rfl) (pss_one ps_continue)) pss_nil)
        (pss_cons (ps_asg (pe_dget hu (pv 1) (pv 9) (fun _ _ => rfl)) (pg_tup rfl (pgs_cons (pg_name (i := 10) sc765.nd rfl (Or.inl rfl)) (pgs_cons (pg_name (i := 11) sc765.nd rfl (Or.inl rfl)) (pgs_cons (pg_name (i := 12) sc765.nd rfl (Or.inl rfl)) pgs_nil)))))
        (pss_one (ps_if (pt_val (pe_m G763 cl hr pass0 (pv 0) (pa_cons (pv 12) (pa_cons (pe_ix ix_tup (pv 4) (pv 6) (fun _ _ => rfl)) pa_nil)))) pss_never pss_nil))))))))
      (pss_one (ps_ret (pv 5))))), ?_⟩
    obtain ⟨dx, pk, po, n, pt, xs, h1, h2, h3, h4, h5, h6⟩ := id hp
    obtain ⟨xi, exi, hxi⟩ := paired_back h4 hi
    obtain ⟨u1, u2, u3⟩ := (lots_lt k hk).2 u hu'
    have htm := List.mem_of_getElem? hi
    have hs := img_lt (u := u) (hops t htm)
    obtain ⟨ri, rfl, hri⟩ := id hxi
    refine ⟨_, rfl, p, dx, _, _, rfl, h1, lfs_operations .., _, rfl, po, xs, _, _, rfl, rfl, .inl (.inl h3), atI_nat exi, _, rfl, ri, tu, t, u, rfl, hxi, htu, u1, u2, u3, fun r hr' => ?_⟩
    have S1 : Same H (upd H r (.tup [.int (pick t u.1 : Nat), .int (pick t u.2.1 : Nat), .int (pick t u.2.2 : Nat)])) := .new hr'
    have hr1 : SqT K (upd H r (.tup [.int (pick t u.1 : Nat), .int (pick t u.2.1 : Nat), .int (pick t u.2.2 : Nat)])) r [.int (img u t).1, .int (img u t).2.1, .int (img u t).2.2] := .inl (.inl upd_same)
    generalize upd H r (.tup [.int (pick t u.1 : Nat), .int (pick t u.2.1 : Nat), .int (pick t u.2.2 : Nat)]) = H1 at S1 hr1 ⊢
    have hD1 := S1 _ _ hD
    have hp1 := hp.same S1
    have dD := dT_noT hD1
    generalize hsd : img u t = s1 at hs hr1
    refine ⟨aP, rfl, ⟨_, hP _⟩, for_it (walk_tup (xs := ivs [0, 1, 2])) (fun j σ H' => (∃ x6 x7 x8 x9 x10 x11 x12, σ = [some (.ref p), some (.ref D), some (.int (i : Nat)), some (.ref tu), some (.ref r), some (.bl false), x6, x7, x8, x9, x10, x11, x12]) ∧ But D H1 H' ∧ ∃ kv, H' D = some (.dT kv) ∧ TabOk k.2 ops ab H' kv ∧ kv.length ≤ kvs.length + j)
      ⟨⟨_, _, _, _, _, _, _, rfl⟩, .refl D H1, kvs, hD1, hT.but S1.but (dT_noT hD), Nat.le_refl _⟩ (fun j σ H' _ _ => hP _) ?_ ?_⟩
    · rintro j x σ _ H2 hj ⟨⟨x6, x7, x8, x9, x10, x11, x12, rfl⟩, B2, kv, hD2, hT2, hl2⟩ ⟨rfl, ex⟩
      obtain ⟨rfl, hj3⟩ := ivs012 ex
      obtain ⟨dx, pk, po, n, pt, xs, g1, ⟨dk, g2⟩, g3, g4, g5, g6⟩ := hp1.but B2 hD1
      have hr2 := B2.seqT dD hr1
      refine ⟨aP, rfl, ⟨_, hP _⟩, fun L hL => ?_⟩
      refine cc_it (walk_tup (xs := ivs [0, 1, 2])) (fun m H' => Same H2 H' ∧ ∃ acc, H' L = some (.lst acc) ∧ acc.length ≤ m ∧ acc = ivs (((([0, 1, 2] : List Nat).take m).filter fun q => !decide (q = j)).map fun q => rof ab (pick s1 q))) ⟨.new hL, [], upd_same, Nat.zero_le _, rfl⟩ (fun m H' _ _ => hP _) ?_ ?_
      · rintro m y _ H3 hm ⟨S3, acc, hac, hal, rfl⟩ ⟨rfl, ey⟩
        obtain ⟨rfl, hm3⟩ := ivs012 ey
        have e7 : ([0, 1, 2] : List Nat).take (m + 1) = ([0, 1, 2] : List Nat).take m ++ [m] := by
          match m, hm3 with
          | 0, _ => rfl
          | 1, _ => rfl
          | 2, _ => rfl
        refine ⟨rfl, _, rfl, _, rfl, rfl, _, rfl, ?_⟩
        by_cases hmj : m = j
        · refine iteNS (by rw [hmj]) ⟨S3, _, hac, by omega, ?_⟩
          rw [e7, List.filter_append]
          simp only [List.filter, decide_eq_true hmj, Bool.not_true]
          rw [List.append_nil]
        · refine iteNSN (fun z => hmj (by injection z with z; omega)) ?_
          have hlt := pick_lt hs m
          refine ⟨_, rfl, p, dx, _, rfl, S3 _ _ g1, lfs_no_root .., _, rfl, _, rfl, r, _, _, _, rfl, rfl, S3.tup hr2, at3 hm3, p, dx, pa, pick s1 m, rof ab (pick s1 m), _, _, _, _, ab, rfl, S3 _ _ g1, S3 _ _ g5, rof_at hlt, hab _ hlt, ?_⟩
          refine ⟨_, hac, small1000 (by omega), S3.at hL, _, upd_same, by simp at hal ⊢; omega, ?_⟩
          rw [e7, List.filter_append]
          simp only [List.filter, decide_eq_false hmj, Bool.not_false]
          rw [List.map_append]
          exact ivs_snoc _ _
      · rintro H3 ⟨S3, acc, hac, hal, rfl⟩
        have e8 : (([0, 1, 2] : List Nat).take (ivs [0, 1, 2]).length) = [0, 1, 2] := rfl
        rw [e8, filt_oth hj3] at hac
        have e9 : (othP j).map (fun q => rof ab (pick s1 q)) = [rof ab (oth s1 j).1, rof ab (oth s1 j).2] := by
          have := congrArg (List.map (rof ab)) (map_oth (t := s1) hj3)
          rw [List.map_map] at this
          exact this
        rw [e9] at hac
        have hac : H3 L = some (.lst [.int (rof ab (oth s1 j).1 : Nat), .int (rof ab (oth s1 j).2 : Nat)]) := hac
        have ho := oth_lt hs j
        have hpk := pick_lt hs j
        have hr3 := S3.tup hr2
        have B3 : But D H1 H3 := B2.trans S3.but
        have hD3 := S3 _ _ hD2
        have k1 := S3 _ _ g1
        have k2 := S3 _ _ g2
        have k5 := S3 _ _ g5
        have ncs : ∀ {t' u' : T3 Nat}, t' ∈ ops → u' ∈ k.2 → oth (rt ab (img u' t')) j = oth (rt ab s1) j → pick (rt ab (img u' t')) j = pick (rt ab s1) j := fun {t' u'} ht' hu2 e => by
          have := hnc.one (rt ab t') (List.mem_map.mpr ⟨t', ht', rfl⟩) u' hu2 (rt ab t) (List.mem_map.mpr ⟨t, htm, rfl⟩) u hu' j hj3
          rw [img_rt, img_rt, hsd] at this
          exact this e
        refine ⟨fun σ' H' => σ' = [some (.ref p), some (.ref D), some (.int (i : Nat)), some (.ref tu), some (.ref r), some (.bl false), some (.int (j : Nat)), x7, some (.ref L), x9, x10, x11, x12] ∧ H' = H3, ?_, ?_⟩
        · refine ⟨_, rfl, p, dx, _, _, rfl, k1, lfs_kind .., pk, dk, _, _, rfl, k2, kfs_calm .., c, rfl, ?_⟩
          cases hc : c with
          | false => exact iteF (iteF ⟨rfl, rfl⟩)
          | true =>
            refine iteT ⟨_, rfl, L, _, 0, _, rfl, rfl, .inl (.inl hac), atI_nat (j := 0) rfl, _, rfl, L, _, 1, _, rfl, rfl, .inl (.inl hac), atI_nat (j := 1) rfl, rfl, _, rfl, ?_⟩
            by_cases he : rof ab (oth s1 j).1 = rof ab (oth s1 j).2
            · have hself : rof ab (pick s1 j) = rof ab (oth s1 j).1 := by
                have := hnc.self hc (rt ab t) (List.mem_map.mpr ⟨t, htm, rfl⟩) u hu' j hj3
                rw [img_rt, hsd, oth1_rt, oth2_rt, pick_rt] at this
                exact this he
              refine iteD (by rw [he]) ⟨_, rfl, p, dx, _, rfl, k1, lfs_no_merge .., _, rfl, _, rfl, r, _, _, _, rfl, rfl, hr3, at3 hj3, _, rfl, L, _, 0, _, rfl, rfl, .inl (.inl hac), atI_nat (j := 0) rfl, ?_⟩
              refine ⟨p, dx, pa, pick s1 j, rof ab (oth s1 j).1, rof ab (oth s1 j).1, rof ab (oth s1 j).1, _, _, _, _, ab, rfl, k1, k5, by rw [← hself]; exact rof_at hpk, hab _ ho.1, hab _ ho.1, hab _ ho.1, ?_⟩
              rw [set_self (hab _ ho.1), upd_id k5]
              exact ⟨_, rfl, iteNS rfl ⟨rfl, rfl⟩⟩
            · exact iteDN (fun z => he (by injection z with z; omega)) (iteF ⟨rfl, rfl⟩)
        · rintro _ H' ⟨rfl, e⟩
          rw [e]
          refine ⟨_, rfl, _, rfl, L, _, 0, _, rfl, rfl, .inl (.inl hac), atI_nat (j := 0) rfl, _, rfl, L, _, 1, _, rfl, rfl, .inl (.inl hac), atI_nat (j := 1) rfl, line1000 (by simp), fun kt hkt => ?_⟩
          have SK := Same.new (o := .tup [.int (j : Nat), .int (rof ab (oth s1 j).1 : Nat), .int (rof ab (oth s1 j).2 : Nat)]) hkt
          have hD4 := SK _ _ hD3
          have hT4 : TabOk k.2 ops ab (upd H3 kt (.tup [.int (j : Nat), .int (rof ab (oth s1 j).1 : Nat), .int (rof ab (oth s1 j).2 : Nat)])) kv := (hT2.but S3.but (dT_noT hD2)).but SK.but (dT_noT hD3)
          have hk4 : upd H3 kt (.tup [.int (j : Nat), .int (rof ab (oth s1 j).1 : Nat), .int (rof ab (oth s1 j).2 : Nat)]) kt = some (.tup ((kk (rt ab s1) j).map kV)) := by
            rw [upd_same]
            unfold kk
            rw [oth1_rt, oth2_rt]
            rfl
          have hr4 := SK.tup hr3
          have B4 := B3.trans SK.but
          have l1 := SK _ _ k1
          have l5 := SK _ _ k5
          generalize upd H3 kt (.tup [.int (j : Nat), .int (rof ab (oth s1 j).1 : Nat), .int (rof ab (oth s1 j).2 : Nat)]) = H4 at hD4 hT4 hk4 hr4 B4 l1 l5 ⊢
          have hg : DGet H4 D (.ref kt) (valV kv (kk (rt ab s1) j)) := DGet.t hD4 hk4
          refine ⟨_, rfl, _, rfl, D, _, rfl, hg, _, rfl, ?_⟩
          cases ev : valV kv (kk (rt ab s1) j) with
          | none =>
            refine iteT ⟨_, rfl, _, rfl, _, rfl, _, rfl, r, _, _, _, rfl, rfl, hr4, at3 hj3, line1000 (by simp), fun vt hvt => ?_⟩
            have SV := Same.new (o := .tup [.int (i : Nat), .ref tu, .int (pick s1 j : Nat)]) hvt
            have hD5 := SV _ _ hD4
            refine ⟨_, rfl, _, rfl, D, _, rfl, DPut.t hD5 (SV _ _ hk4) (small9k (by omega)), ⟨_, _, _, _, _, _, _, rfl⟩, (B4.trans SV.but).trans (.upd D _ _), _, upd_same, fun k' v e => ?_, ?_⟩
            · rw [valV_put] at e
              split at e
              · rename_i ek
                cases e
                refine ⟨t, u, j, htm, hu', hj3, by rw [hsd]; exact ek, vt, .int (i : Nat), .ref tu, pick s1 j, rfl, ?_, hpk, by rw [hsd, pick_rt]⟩
                rw [upd_ne (ne_of upd_same hD5 (by intro z; cases z)), upd_same]
              · exact ((hT4.but SV.but (dT_noT hD4)).but (.upd D _ _) (dT_noT hD5)) k' v e
            · have := length_putK kv (kk (rt ab s1) j) (.ref vt)
              omega
          | some v =>
            obtain ⟨t', u', p', ht', hu2, hp', ek, r', xx, yy, th, rfl, hr', hth, hrof⟩ := hT4 _ v ev
            obtain ⟨rfl, eo⟩ := kk_inj ek.symm
            have hpe := ncs ht' hu2 eo
            rw [← hrof, pick_rt] at hpe
            refine iteF ⟨_, rfl, _, rfl, D, .ref r', rfl, by rw [← ev]; exact hg, r', _, rfl, .inl (.inl hr'), rfl, _, _, rfl, _, _, rfl, _, _, rfl, rfl, ?_⟩
            refine ⟨_, rfl, p, dx, _, rfl, l1, lfs_no_merge .., _, rfl, _, rfl, _, rfl, r, _, _, _, rfl, rfl, hr4, at3 hj3, p, dx, pa, th, pick s1 p', rof ab th, rof ab th, _, _, _, _, ab, rfl, l1, l5, rof_at hth, hab _ hth, by rw [hpe]; exact rof_at hpk, hab _ hth, ?_⟩
            rw [set_self (hab _ hth), upd_id l5]
            exact ⟨_, rfl, iteNS rfl ⟨⟨_, _, _, _, _, _, _, rfl⟩, B4, kv, hD4, hT4, by omega⟩⟩
    · rintro σ H2 ⟨⟨x6, x7, x8, x9, x10, x11, x12, rfl⟩, B2, kv, hD2, hT2, hl2⟩
      exact ⟨_, rfl, q H2 kv (fun b o e n => B2 _ _ (S1 _ _ e) n) hD2 hT2 hl2⟩
theorem g765 (T : Txt K mg Z) (TP : PlTxt K mg) (G75 : GDef P w K mg base CX0 1 "turned" ["triple", "turn"] [] (spTurned K)) (G761 : MDef P w K mg base CX0 1 Z.L "root" ["self", "thing"] [] (spRoot Z)) (G763 : MDef P w K mg base CX0 2 Z.L "merge" N763 [] (spMerge Z))
    (G : MTxt K Z.L "Closing" "entered" "Closing.entered" (met 76 5) [] []) : MDef P w K mg base CX0 3 Z.L "entered" ["self", "table", "number", "turn"] [] (spEnt Z K) := mdef G (fun _ _ _ _ _ _ us hl => match us, hl with | [_, _, _, _], _ => rfl) fun f fd F => ok765 T TP G75 G761 G763 F
end
end K85
/-! K85L3: Closing.close, Closing.got. -/
namespace K85
open PySem PySem.Spec PyProof.Rows L2
section
variable {P : Program} {w : World} {K : PySem.W.Frag} {mg : Str → Option Value} {base : Heap} {Z : Cs} {f C : Addr} {fd : FuncData}
abbrev N764 : List Str := ["self", "found", "table", "number", "turn"]
theorem sc764 : FnScope N764 ["self"] (defScope (met 76 4)) := ⟨rfl, rfl, rfl, by decide +kernel, rfl, by decide +kernel, by decide +kernel⟩
def spClose (Z : Cs) (K : PySem.W.Frag) : Sp := fun vs H Q _ => ∃ (p pa : Nat) (k : Str × List (T3 Nat)) (c : Bool) (ops : List (T3 Nat)) (ab : List Nat), vs = [.ref p] ∧ LAt Z K H p k c ops pa ab ∧ Ab ab ∧ OpsLt ops ab.length ∧ k ∈ lots ∧ ops.length ≤ 100 ∧
  NC k.2 c (ops.map (rt ab)) ∧ ∀ H', Same H H' → Q .non H'
theorem ok764 (T : Txt K mg Z) (G532 : PDef P w K mg base CX0 1 Z.K "lot" (spLot K Z.K)) (G765 : MDef P w K mg base CX0 3 Z.L "entered" ["self", "table", "number", "turn"] [] (spEnt Z K)) (F : TF K "close" "Closing.close" (met 76 4) [] [] f fd) : FnOk P w K mg base CX0 4 f fd ["self"] (spClose Z K) := by
  refine F.ok sc764 (fun vs H Q E h => ?_) (fun cdv A outer s H vs Q E hr h => ?_)
  · obtain ⟨_, _, _, _, _, _, rfl, _⟩ := h
    rfl
  · obtain ⟨p, pa, k, c, ops, ab, rfl, hp, hab, hops, hk, ol, hnc, q⟩ := h
    have cl := T.cL
    refine ⟨_, PSs.nox <| pss_cons (ps_set (i := 1) sc764.nd rfl (Or.inl rfl) pe_bl)
      (pss_one (ps_while PassesOwn.never (pt_truth (pv 1) (fun _ => rfl)) (pss_cons (ps_set (i := 1) sc764.nd rfl (Or.inl rfl) pe_bl) (pss_cons (ps_set (i := 2) sc764.nd rfl (Or.inl rfl) pe_dnewT)
        (pss_one (ps_for PassesOwn.never rfl (pi_range1 rfl T.ran (pa_cons (pe_b call_len T.len PySem.boot_len (pa_cons (pe_at cl T.l_operations (pv 0)) pa_nil)) pa_nil)) (pg_name (i := 3) sc764.nd rfl (Or.inl rfl))
          (pss_one (ps_for PassesOwn.never rfl (pi_tup (pe_pr G532 T.iK.cl (hr.mono (by decide)) pass0 (pe_at cl T.l_kind (pv 0)))) (pg_name (i := 4) sc764.nd rfl (Or.inl rfl))
            (pss_one (ps_set (i := 1) sc764.nd rfl (Or.inl rfl) (pe_or (pe_m G765 cl hr pass0 (pv 0) (pa_cons (pv 2) (pa_cons (pv 3) (pa_cons (pv 4) pa_nil)))) (pe_one (pv 1))))))))))))), ?_⟩
    refine ⟨fun m σ H' => Same H H' ∧ ∃ x2 x3 x4, ((m = 1 ∧ σ = [some (.ref p), some (.bl true), x2, x3, x4]) ∨ (m = 0 ∧ σ = [some (.ref p), some (.bl false), x2, x3, x4])), ⟨1, .refl H, _, _, _, .inl ⟨rfl, rfl⟩⟩, ?_⟩
    rintro m σ H1 ⟨S1, x2, x3, x4, ⟨rfl, rfl⟩ | ⟨rfl, rfl⟩⟩
    · refine ⟨_, rfl, true, rfl, iteT ⟨fun σ' H' => ∃ m', m' < 1 ∧ (Same H H' ∧ ∃ x2 x3 x4, ((m' = 1 ∧ σ' = [some (.ref p), some (.bl true), x2, x3, x4]) ∨ (m' = 0 ∧ σ' = [some (.ref p), some (.bl false), x2, x3, x4]))), fun _ _ h => h, ?_⟩⟩
      intro D hD
      have SD := Same.new (o := .dT []) hD
      have S2 := S1.trans SD
      have hD2 : upd H1 D (.dT []) D = some (.dT []) := upd_same
      have hD0 : H D = none := S1.free hD
      generalize upd H1 D (.dT []) = H2 at SD S2 hD2 ⊢
      obtain ⟨dx, pk, po, n, pt, xs, h1, h2, h3, h4, h5, h6⟩ := hp
      have hpL : LAt Z K H p k c ops pa ab := ⟨dx, pk, po, n, pt, xs, h1, h2, h3, h4, h5, h6⟩
      have hp2 := hpL.same S2
      have xl : xs.length = ops.length := Paired.length h4
      have l6 := (lots_lt k hk).1
      refine ⟨_, rfl, p, dx, _, _, rfl, S2 _ _ h1, lfs_operations .., _, xs.length, rfl, .inl ⟨xs, .inl (.inl (S2 _ _ h3)), rfl⟩, _, rfl, (rng62 (by omega)).1, (rng62 (by omega)).2, ?_⟩
      refine for_it (walk_range (lo := 0) (n := xs.length)) (fun i σ H' => (∃ x3 x4, σ = [some (.ref p), some (.bl false), some (.ref D), x3, x4]) ∧ But D H2 H' ∧ ∃ kv, H' D = some (.dT kv) ∧ TabOk k.2 ops ab H' kv ∧ kv.length ≤ 18 * i) ⟨⟨_, _, rfl⟩, .refl D H2, [], hD2, (fun k' v e => nomatch e), Nat.zero_le _⟩ (fun _ _ _ _ _ => trivial) ?_ ?_
      · rintro i x σ _ H3 hi ⟨⟨x3, x4, rfl⟩, B3, kv, hD3, hT3, hl3⟩ ⟨rfl, ex⟩
        have ex : x = .int (i : Nat) := by rw [ex]; simp
        subst ex
        have hp3 := hp2.but B3 hD2
        obtain ⟨dx', pk', po', n', pt', xs', g1, ⟨dk, g2⟩, g3, g4, g5, g6⟩ := id hp3
        refine ⟨_, rfl, p, dx', _, _, rfl, g1, lfs_kind .., pk', dk, _, rfl, g2, pk', k, c, rfl, ⟨dk, g2⟩, hk, fun a ⟨ls, hls, hpl⟩ => ⟨a, rfl, ⟨_, hls⟩, ?_⟩⟩
        have ll : ls.length = k.2.length := Paired.length hpl
        refine for_it walk_tup (fun j σ H' => (∃ x4, σ = [some (.ref p), some (.bl false), some (.ref D), some (.int (i : Nat)), x4]) ∧ But D H3 H' ∧ ∃ kv, H' D = some (.dT kv) ∧ TabOk k.2 ops ab H' kv ∧ kv.length ≤ 18 * i + 3 * j) ⟨⟨_, rfl⟩, .refl D H3, kv, hD3, hT3, hl3⟩ (fun j σ H' _ h => h.2.1.seqT (dT_noT hD3) hls) ?_ ?_
        · rintro j y σ _ H4 hj ⟨⟨x4, rfl⟩, B4, kv4, hD4, hT4, hl4⟩ ⟨rfl, ey⟩
          obtain ⟨u, eu, hu'⟩ := paired_at hpl ey
          obtain ⟨b, rfl, hb⟩ := hu'.but B4 (dT_noT hD3)
          have hp4 := hp3.but B4 hD3
          obtain ⟨dx4, pk4, po4, n4, pt4, xs4, f1, f2⟩ := id hp4
          obtain ⟨t, et⟩ : ∃ t, ops[i]? = some t := ⟨_, List.getElem?_eq_getElem (by omega)⟩
          refine ⟨_, rfl, p, dx4, _, rfl, f1, lfs_no_entered .., _, rfl, _, rfl, _, rfl, p, D, b, i, pa, k, c, ops, ab, kv4, t, u, rfl, hp4, hab, hops, hk, hnc, et, ⟨b, rfl, hb⟩, List.mem_of_getElem? eu, hD4, hT4, by omega, fun H5 kv5 B5 hD5 hT5 hl5 => ?_⟩
          exact ⟨_, rfl, iteF ⟨_, rfl, ⟨_, rfl⟩, B4.trans B5, kv5, hD5, hT5, by omega⟩⟩
        · rintro σ H4 ⟨⟨x4, rfl⟩, B4, kv4, hD4, hT4, hl4⟩
          exact ⟨⟨_, _, rfl⟩, B3.trans B4, kv4, hD4, hT4, by omega⟩
      · rintro σ H3 ⟨⟨x3, x4, rfl⟩, B3, kv, hD3, hT3, hl3⟩
        exact ⟨0, by decide, fun b o e => B3 _ _ (S2 _ _ e) (ne_of_none e hD0), _, _, _, .inr ⟨rfl, rfl⟩⟩
    · exact ⟨_, rfl, false, rfl, iteF (q H1 S1)⟩
theorem g764 (T : Txt K mg Z) (G532 : PDef P w K mg base CX0 1 Z.K "lot" (spLot K Z.K)) (G765 : MDef P w K mg base CX0 3 Z.L "entered" ["self", "table", "number", "turn"] [] (spEnt Z K)) (G : MTxt K Z.L "Closing" "close" "Closing.close" (met 76 4) [] []) :
    MDef P w K mg base CX0 4 Z.L "close" ["self"] [] (spClose Z K) := mdef G (fun _ _ _ _ _ _ us hl => match us, hl with | [_], _ => rfl) fun f fd F => ok764 T G532 G765 F
end
end K85
/-! K85L4: Closing.got. -/
namespace K85
open PySem PySem.Spec PyProof.Rows L2
theorem lackP_viol {α : Type} {k : α → Bool} {t : T3 α} {p : Nat} (h : Viol k t p) : ([0, 1, 2] : List Nat).filter (fun q => !k (pick t q)) = [p] := by
  obtain ⟨hp, h1, h2, h3⟩ := h
  match p, hp with
  | 0, _ => simp only [oth, pick] at h1 h2 h3; simp [pick, List.filter, h1, h2, h3]
  | 1, _ => simp only [oth, pick] at h1 h2 h3; simp [pick, List.filter, h1, h2, h3]
  | 2, _ => simp only [oth, pick] at h1 h2 h3; simp [pick, List.filter, h1, h2, h3]
theorem lackP_one {α : Type} {k : α → Bool} {t : T3 α} {p : Nat} (h : ([0, 1, 2] : List Nat).filter (fun q => !k (pick t q)) = [p]) : Viol k t p := by
  obtain ⟨a, b, c⟩ := t
  cases ha : k a <;> cases hb : k b <;> cases hc : k c <;> simp [pick, List.filter, ha, hb, hc] at h
  · subst h; exact ⟨by decide, hb, hc, ha⟩
  · subst h; exact ⟨by decide, ha, hc, hb⟩
  · subst h; exact ⟨by decide, ha, hb, hc⟩
/-- the number x is known -/
def knN (kvs : List (Key × V)) (x : Nat) : Bool := (valV kvs (.inl (x : Int))).isSome
theorem knN_put (kvs : List (Key × V)) (z x : Nat) (v : V) : knN (putK kvs (.inl (z : Int)) v) x = true ↔ knN kvs x = true ∨ x = z := by
  unfold knN
  rw [valV_put]
  by_cases h : (Sum.inl (x : Int) : Key) = .inl (z : Int)
  · rw [if_pos h]
    injection h with h
    exact ⟨fun _ => .inr (by omega), fun _ => rfl⟩
  · rw [if_neg h]
    exact ⟨.inl, fun q => q.elim id fun e => absurd (by rw [e]) h⟩
def cntN (T : List (T3 Nat)) (kvs : List (Key × V)) : Nat := (T.flatMap tri).countP fun x => !knN kvs x
section
variable {P : Program} {w : World} {K : PySem.W.Frag} {mg : Str → Option Value} {base : Heap} {Z : Cs} {f C : Addr} {fd : FuncData}
abbrev N766 : List Str := ["self", "things", "known", "steps", "found", "number", "triple", "lacking", "thing", "place"]
theorem sc766 : FnScope N766 ["self", "things"] (defScope (met 76 6)) := ⟨rfl, rfl, rfl, by decide +kernel, rfl, by decide +kernel, by decide +kernel⟩
def spGotL (Z : Cs) (K : PySem.W.Frag) : Sp := fun vs H Q _ => ∃ (p pa lt : Nat) (k : Str × List (T3 Nat)) (c : Bool) (ops : List (T3 Nat)) (ab is : List Nat), vs = [.ref p, .ref lt] ∧ LAt Z K H p k c ops pa ab ∧ Ab ab ∧ OpsLt ops ab.length ∧ ops.length ≤ 100 ∧ SqL K H lt (ivs is) ∧ is.length ≤ 100 ∧ (∀ i ∈ is, i < ab.length) ∧
  ∀ H' r d s' kvs, Same H H' → SqT K H' r [.ref d, .ref s'] → H' d = some (.dK kvs) → (∀ x : Nat, knN kvs x = true ↔ Got (ops.map (rt ab)) (is.map (rof ab)) x) → Q (.ref r) H'
/-- the state of the loop while found -/
def WL (T : List (T3 Nat)) (B : List Nat) (p lt D S : Addr) (H : Hp) (m : Nat) (σ : L2.St) (H' : Hp) : Prop := Same H H' ∧ ∃ kvs st b x5 x6 x7 x8 x9, σ = [some (.ref p), some (.ref lt), some (.ref D), some (.ref S), some (.bl b), x5, x6, x7, x8, x9] ∧ H' D = some (.dK kvs) ∧ H' S = some (.lst st) ∧ Snd T B (knN kvs) ∧
  (b = false → ∀ t ∈ T, ∀ p, ¬ Viol (knN kvs) t p) ∧ kvs.length + cntN T kvs ≤ 500 ∧ st.length + cntN T kvs ≤ 500 ∧ m = cntN T kvs + (if b then 1 else 0)
theorem ok766 (T : Txt K mg Z) (TP : PlTxt K mg) (G761 : MDef P w K mg base CX0 1 Z.L "root" ["self", "thing"] [] (spRoot Z)) (F : TF K "got" "Closing.got" (met 76 6) [] [] f fd) : FnOk P w K mg base CX0 2 f fd ["self", "things"] (spGotL Z K) := by
  refine F.ok sc766 (fun vs H Q E h => ?_) (fun cdv A outer s H vs Q E hr h => ?_)
  · obtain ⟨_, _, _, _, _, _, _, _, rfl, _⟩ := h
    rfl
  · obtain ⟨p, pa, lt, k, c, ops, ab, is, rfl, hp, hab, hops, ol, hlt, il, hi, q⟩ := h
    have hu := hu_of hr
    have cl := T.cL
    obtain ⟨aP, gP, hP⟩ := TP.ex
    refine ⟨_, PSs.nox <| pss_cons (ps_set (i := 2) sc766.nd rfl (Or.inr rfl) (pe_dc (own := [("thing", 8)]) (g := gName 8) (tt := tYes) (by rfl) sc766.nd (pi_list (pv 1)) (blkOk_by (N := N766) (sc := defScope (met 76 6)) (by decide +kernel)) (fun _ _ _ _ _ => pg_name (i := 8) sc766.nd rfl (Or.inl rfl)) (fun _ _ _ _ _ => pts_nil)
        (fun _ _ _ _ _ => pe_m G761 cl hr pass0 (pv 0) (pa_cons (pv 8) pa_nil)) (fun _ _ _ _ _ => pe_bl)))
      (pss_cons (ps_set (i := 3) sc766.nd rfl (Or.inl rfl) (pe_lst pa_nil))
      (pss_cons (ps_set (i := 4) sc766.nd rfl (Or.inl rfl) pe_bl)
      (pss_cons (ps_while PassesOwn.never (pt_truth (pv 4) (fun _ => rfl)) (pss_cons (ps_set (i := 4) sc766.nd rfl (Or.inl rfl) pe_bl)
        (pss_one (ps_for PassesOwn.never rfl (pi_enum (by rfl) T.enu (pa_cons (pe_at cl T.l_operations (pv 0)) pa_nil)) (pg_tup rfl (pgs_cons (pg_name (i := 5) sc766.nd rfl (Or.inl rfl)) (pgs_cons (pg_name (i := 6) sc766.nd rfl (Or.inr rfl)) pgs_nil)))
          (pss_cons (ps_setLc (i := 7) (own := [("place", 9)]) (g := gName 9) (by rfl) sc766.nd rfl rfl (sw_true rfl rfl rfl (by decide +kernel)) (pi_tup (pe_glob (v := .ref aP) (by rfl) gP rfl)) (blkOk_by (N := N766) (sc := defScope (met 76 6)) (by decide +kernel)) (fun _ _ _ _ _ => pg_name (i := 9) sc766.nd rfl (Or.inl rfl))
              (fun _ _ _ _ _ => pts_one (pt_cmp (pc_dnotin hu (pe_m G761 cl hr pass0 (pv 0) (pa_cons (pe_ix (r := rIxT K) ix_tup (pv 6) (pv 9) (fun _ _ => rfl)) pa_nil)) (pv 2)))) (fun _ _ _ _ _ => pv 9))
          (pss_one (ps_if (pt_cmpR op_eq (pe_b call_len T.len PySem.boot_len (pa_cons (pv 7) pa_nil)) pe_int (nomark _))
            (pss_cons (ps_dput hu (pv 2) (pe_m G761 cl hr pass0 (pv 0) (pa_cons (pe_ix ix_tup (pv 6) (pe_ix ix_list (pv 7) pe_int (fun _ _ => rfl)) (fun _ _ => rfl)) pa_nil)) pe_bl rfl)
            (pss_cons (ps_expr (pe_bm PySem.F.plainAttrs_list PySem.F.slot_list_append PySem.F.type_list_append mt_append (pv 3) (pa_cons (pe_tup (pa_cons (pv 5) (pa_cons (pe_ix ix_list (pv 7) pe_int (fun _ _ => rfl)) pa_nil))) pa_nil)))
            (pss_one (ps_set (i := 4) sc766.nd rfl (Or.inl rfl) pe_bl)))) pss_nil)))))))
      (pss_one (ps_ret (pe_tup (pa_cons (pv 2) (pa_cons (pv 3) pa_nil)))))))), ?_⟩
    obtain ⟨dx, pk, po, n, pt, xs, h1, h2, h3, h4, h5, h6⟩ := hp
    have xl : xs.length = ops.length := Paired.length h4
    refine ⟨_, rfl, lt, rfl, ⟨_, hlt⟩, fun D hD => ?_⟩
    refine cc_it walk_list (fun i H' => Same H H' ∧ ∃ kvs, H' D = some (.dK kvs) ∧ kvs.length ≤ i ∧ (∀ x, knN kvs x = true → x ∈ is.map (rof ab)) ∧ ∀ j x, j < i → is[j]? = some x → knN kvs (rof ab x) = true) ⟨.new hD, [], upd_same, Nat.zero_le _, (fun x e => nomatch e), fun j x h => absurd h (Nat.not_lt_zero _)⟩ (fun i H' _ h => h.1.seq hlt) ?_ ?_
    · rintro i y _ H1 hi1 ⟨S1, kvs, hk, hl, hkn, hj⟩ ⟨rfl, ey⟩
      rw [List.length_map] at hi1
      rw [List.getElem?_map] at ey
      obtain ⟨x, ex, rfl⟩ := Option.map_eq_some_iff.mp ey
      have hx := hi x (List.mem_of_getElem? ex)
      refine ⟨rfl, _, rfl, p, dx, _, rfl, S1 _ _ h1, lfs_no_root .., _, rfl, p, dx, pa, x, rof ab x, _, _, _, _, ab, rfl, S1 _ _ h1, S1 _ _ h5, rof_at hx, hab _ hx, kvs, .inl (rof ab x : Nat), rfl, hk, small1000 (by omega), S1.at hD, _, upd_same, ?_, fun x' e => ?_, fun j x' hj' ex' => ?_⟩
      · have := length_putK kvs (.inl (rof ab x : Nat)) (.bl true)
        omega
      · rcases (knN_put kvs (rof ab x) x' _).mp e with h | rfl
        · exact hkn x' h
        · exact List.mem_map.mpr ⟨x, List.mem_of_getElem? ex, rfl⟩
      · refine (knN_put kvs (rof ab x) _ _).mpr ?_
        by_cases h : j < i
        · exact .inl (hj j x' h ex')
        · have : j = i := by omega
          subst this
          rw [ex] at ex'
          cases ex'
          exact .inr rfl
    · rintro H1 ⟨S1, kv0, hk0, hl0, hkn0, hj0⟩
      rw [List.length_map] at hl0 hj0
      refine ⟨line1000 (by simp), fun S hS => ?_⟩
      have hS0 : H S = none := S1.free hS
      have nDS : D ≠ S := ne_of_none hk0 hS
      have ul : ((ops.map (rt ab)).flatMap tri).length ≤ 300 := by
        have : ∀ l : List (T3 Nat), (l.flatMap tri).length = 3 * l.length := fun l => by
          induction l with
          | nil => rfl
          | cons a r ih => rw [List.flatMap_cons, List.length_append, ih]; show 3 + _ = _; rw [List.length_cons]; omega
        rw [this, List.length_map]
        omega
      have cl0 : cntN (ops.map (rt ab)) kv0 ≤ 300 := Nat.le_trans List.countP_le_length ul
      refine ⟨WL (ops.map (rt ab)) (is.map (rof ab)) p lt D S H, ⟨_, S1.at hS0, kv0, [], true, _, _, _, _, _, rfl, by rw [upd_ne nDS]; exact hk0, upd_same, ⟨fun x e => .base (hkn0 x e), fun x hx => ?_⟩, fun e => (nomatch e), by omega, by simp; omega, rfl⟩, ?_⟩
      · obtain ⟨i, hi', rfl⟩ := List.mem_map.mp hx
        obtain ⟨j, ej⟩ := List.mem_iff_getElem?.mp hi'
        exact hj0 j i (List.getElem?_eq_some_iff.mp ej).1 ej
      · rintro m σ H2 ⟨S2, kvs, st, b, x5, x6, x7, x8, x9, rfl, hk2, hs2, hsnd, hno, hc1, hc2, rfl⟩
        refine ⟨_, rfl, b, rfl, ?_⟩
        cases b with
        | false =>
          refine iteF ⟨_, rfl, _, rfl, line1000 (by simp), fun r hr' => ?_⟩
          exact q _ r D S kvs (S2.trans (.new hr')) (.inl (.inl upd_same)) ((Same.new hr') _ _ hk2) (snd_end hsnd (hno rfl))
        | true =>
          refine iteT ⟨fun σ' H' => ∃ m', m' < cntN (ops.map (rt ab)) kvs + 1 ∧ WL (ops.map (rt ab)) (is.map (rof ab)) p lt D S H m' σ' H', fun _ _ h => h, ?_⟩
          refine ⟨_, rfl, p, dx, _, _, rfl, S2 _ _ h1, lfs_operations .., po, xs, rfl, .inl (.inl (S2 _ _ h3)), ?_⟩
          refine for_it walk_enum (fun i σ H' => Same H H' ∧ ∃ kv' st' b' x5 x6 x7 x8 x9, σ = [some (.ref p), some (.ref lt), some (.ref D), some (.ref S), some (.bl b'), x5, x6, x7, x8, x9] ∧ H' D = some (.dK kv') ∧ H' S = some (.lst st') ∧ Snd (ops.map (rt ab)) (is.map (rof ab)) (knN kv') ∧
              (b' = true → cntN (ops.map (rt ab)) kv' < cntN (ops.map (rt ab)) kvs) ∧ (b' = false → kv' = kvs ∧ ∀ a t, a < i → ops[a]? = some t → ∀ p, ¬ Viol (knN kvs) (rt ab t) p) ∧ kv'.length + cntN (ops.map (rt ab)) kv' ≤ 500 ∧ st'.length + cntN (ops.map (rt ab)) kv' ≤ 500)
            ⟨S2, kvs, st, false, _, _, _, _, _, rfl, hk2, hs2, hsnd, fun e => (nomatch e), fun _ => ⟨rfl, fun a t h => absurd h (Nat.not_lt_zero _)⟩, hc1, hc2⟩ (fun i σ H' _ h => .inl (.inl (h.1 _ _ h3))) ?_ ?_
          · rintro i v σ H3 H4 hi4 ⟨S3, kv, st', b', x5, x6, x7, x8, x9, rfl, hk3, hs3, hsn, hbt, hbf, hc3, hc4⟩ ⟨T0, a1, a2, rfl, hT, rfl, e1, e2⟩
            cases e1
            have e2 : xs[i]? = some a2 := e2
            obtain ⟨t, et, tr, rfl, htr⟩ := paired_at h4 e2
            have SN := Same.new (o := .tup [.int (i : Nat), .ref tr]) hT
            have S4 := S3.trans SN
            have hk4 := SN _ _ hk3
            have hs4 := SN _ _ hs3
            have hT4 : upd H3 T0 (.tup [.int (i : Nat), .ref tr]) T0 = some (.tup [.int (i : Nat), .ref tr]) := upd_same
            generalize upd H3 T0 (.tup [.int (i : Nat), .ref tr]) = H4 at SN S4 hk4 hs4 hT4 ⊢
            have htm := List.mem_of_getElem? et
            have hlt3 := hops t htm
            have hrt : rt ab t ∈ ops.map (rt ab) := List.mem_map.mpr ⟨t, htm, rfl⟩
            refine ⟨T0, _, rfl, .inl (.inl hT4), rfl, _, _, rfl, _, _, rfl, rfl, aP, rfl, ⟨_, hP _⟩, fun L hL => ?_⟩
            refine cc_it (walk_tup (xs := ivs [0, 1, 2])) (fun m H' => Same H4 H' ∧ ∃ l, H' L = some (.lst (ivs l)) ∧ l.length ≤ m ∧ l = ((([0, 1, 2] : List Nat).take m).filter fun q => !knN kv (pick (rt ab t) q))) ⟨.new hL, [], upd_same, Nat.zero_le _, rfl⟩ (fun m H' _ _ => hP _) ?_ ?_
            · rintro m y _ H5 hm ⟨S5, l, hac, hal, el⟩ ⟨rfl, ey⟩
              obtain ⟨rfl, hm3⟩ := ivs012 ey
              have e7 : ([0, 1, 2] : List Nat).take (m + 1) = ([0, 1, 2] : List Nat).take m ++ [m] := by
                match m, hm3 with
                | 0, _ => rfl
                | 1, _ => rfl
                | 2, _ => rfl
              have S45 := S4.trans S5
              have hpl := pick_lt hlt3 m
              refine ⟨rfl, _, rfl, p, dx, _, rfl, S45 _ _ h1, lfs_no_root .., _, rfl, _, rfl, tr, _, _, _, rfl, rfl, S45.tup htr, at3 hm3, p, dx, pa, pick t m, rof ab (pick t m), _, _, _, _, ab, rfl, S45 _ _ h1, S45 _ _ h5, rof_at hpl, hab _ hpl, _, rfl, D, _, rfl, DGet.k (k := Sum.inl ((rof ab (pick t m) : Nat) : Int)) (S5 _ _ hk4), _, rfl, ?_⟩
              have ekn : knN kv (pick (rt ab t) m) = (valV kv (.inl ((rof ab (pick t m) : Nat) : Int))).isSome := by rw [pick_rt]; rfl
              cases ek : knN kv (pick (rt ab t) m) with
              | true =>
                refine iteBN (by rw [← ekn, ek]; rfl) ⟨S5, l, hac, by omega, ?_⟩
                rw [e7, List.filter_append, el]
                simp only [List.filter, ek, Bool.not_true]
                rw [List.append_nil]
              | false =>
                refine iteB (by rw [← ekn, ek]; rfl) ⟨_, rfl, _, hac, small1000 (by rw [List.length_map]; omega), S5.at hL, l ++ [m], by rw [upd_same, ivs_snoc], by simp; omega, ?_⟩
                rw [e7, List.filter_append, el]
                simp only [List.filter, ek, Bool.not_false]
            · rintro H5 ⟨S5, l, hac, hal, el⟩
              have e8 : (([0, 1, 2] : List Nat).take (ivs [0, 1, 2]).length) = [0, 1, 2] := rfl
              rw [e8] at el
              have S45 := S4.trans S5
              have hk5 := S5 _ _ hk4
              have hs5 := S5 _ _ hs4
              have nLD : D ≠ L := ne_of_none hk4 hL
              refine ⟨_, rfl, _, (ivs l).length, rfl, .inl ⟨_, .inl (.inl hac), rfl⟩, rfl, _, rfl, ?_⟩
              by_cases h1l : l.length = 1
              · obtain ⟨p0, rfl⟩ := List.length_eq_one_iff.mp h1l
                have hv := lackP_one el.symm
                have hp0 := hv.1
                have hpl := pick_lt hlt3 p0
                refine iteD (by rfl) ?_
                refine ⟨_, rfl, _, rfl, p, dx, _, rfl, S45 _ _ h1, lfs_no_root .., _, rfl, _, rfl, L, _, 0, _, rfl, rfl, .inl (.inl hac), atI_nat (j := 0) rfl, tr, _, _, _, rfl, rfl, S45.tup htr, at3 hp0, p, dx, pa, pick t p0, rof ab (pick t p0), _, _, _, _, ab, rfl, S45 _ _ h1, S45 _ _ h5, rof_at hpl, hab _ hpl,
                  D, _, rfl, DPut.k (k := Sum.inl ((rof ab (pick t p0) : Nat) : Int)) hk5 (small1000 (by omega)), ?_⟩
                have eput : rof ab (pick t p0) = pick (rt ab t) p0 := (pick_rt ab t p0).symm
                have hs6 : upd H5 D (.dK (putK kv (.inl ((rof ab (pick t p0) : Nat) : Int)) (.bl true))) S = some (.lst st') := by rw [upd_ne nDS.symm]; exact hs5
                have hL6 : upd H5 D (.dK (putK kv (.inl ((rof ab (pick t p0) : Nat) : Int)) (.bl true))) L = some (.lst (ivs [p0])) := by rw [upd_ne nLD.symm]; exact hac
                have hk6 : upd H5 D (.dK (putK kv (.inl ((rof ab (pick t p0) : Nat) : Int)) (.bl true))) D = some (.dK (putK kv (.inl ((rof ab (pick t p0) : Nat) : Int)) (.bl true))) := upd_same
                have S6 : Same H (upd H5 D (.dK (putK kv (.inl ((rof ab (pick t p0) : Nat) : Int)) (.bl true)))) := S45.at hD
                generalize upd H5 D (.dK (putK kv (.inl ((rof ab (pick t p0) : Nat) : Int)) (.bl true))) = H6 at hs6 hL6 hk6 S6 ⊢
                refine ⟨_, rfl, .inl ⟨rfl, _, .inl (.inl hs6)⟩, _, rfl, _, rfl, L, _, 0, _, rfl, rfl, .inl (.inl hL6), atI_nat (j := 0) rfl, line1000 (by simp), fun sp hsp => ?_⟩
                have SS := Same.new (o := .tup [.int (i : Nat), .int (p0 : Nat)]) hsp
                have hkn' : ∀ x, knN (putK kv (.inl ((rof ab (pick t p0) : Nat) : Int)) (.bl true)) x = true ↔ knN kv x = true ∨ x = pick (rt ab t) p0 := fun x => by rw [← eput]; exact knN_put kv _ x _
                have hcnt : cntN (ops.map (rt ab)) (putK kv (.inl ((rof ab (pick t p0) : Nat) : Int)) (.bl true)) < cntN (ops.map (rt ab)) kv := by
                  refine cnt_lt (z := pick (rt ab t) p0) (fun x hx => ?_) (List.mem_flatMap.mpr ⟨_, hrt, pick_tri hp0⟩) (by rw [hv.2.2.2]; rfl) (by rw [(hkn' _).mpr (.inr rfl)]; rfl)
                  cases qq : knN kv x with
                  | false => rfl
                  | true =>
                    rw [(hkn' x).mpr (.inl qq)] at hx
                    cases hx
                have hlp := length_putK kv (.inl ((rof ab (pick t p0) : Nat) : Int)) (.bl true)
                have hle : cntN (ops.map (rt ab)) kv ≤ cntN (ops.map (rt ab)) kvs := by
                  cases b' with
                  | true => exact Nat.le_of_lt (hbt rfl)
                  | false => rw [(hbf rfl).1]; exact Nat.le_refl _
                refine ⟨S, st', _, rfl, rfl, SS _ _ hs6, small1000 (by omega), (S6.trans SS).at hS0, putK kv (.inl ((rof ab (pick t p0) : Nat) : Int)) (.bl true), st' ++ [.ref sp], true, _, _, _, _, _, rfl, by rw [upd_ne nDS]; exact SS _ _ hk6, upd_same, snd_add hsn hrt hv hkn', fun _ => by omega, fun e => (nomatch e), by omega, by rw [List.length_append]; show _ + 1 + _ ≤ _; omega⟩
              · refine iteDN (fun e => h1l (by injection e with e; rw [List.length_map] at e; omega)) ⟨S45, kv, st', b', _, _, _, _, _, rfl, hk5, hs5, hsn, hbt, fun e => ⟨(hbf e).1, fun a t' ha et' p0 hv => ?_⟩, hc3, hc4⟩
                by_cases hai : a < i
                · exact (hbf e).2 a t' hai et' p0 hv
                · have : a = i := by omega
                  subst this
                  rw [et] at et'
                  cases et'
                  rw [← (hbf e).1] at hv
                  exact h1l (by rw [el, lackP_viol hv]; rfl)
          · rintro σ H3 ⟨S3, kv, st', b', x5, x6, x7, x8, x9, rfl, hk3, hs3, hsn, hbt, hbf, hc3, hc4⟩
            refine ⟨_, ?_, S3, kv, st', b', _, _, _, _, _, rfl, hk3, hs3, hsn, fun e t ht p0 hv => ?_, hc3, hc4, rfl⟩
            · cases b' with
              | true => have := hbt rfl; show cntN _ kv + 1 < _; omega
              | false => rw [(hbf rfl).1]; show cntN _ kvs + 0 < _; omega
            · obtain ⟨t', ht', rfl⟩ := List.mem_map.mp ht
              obtain ⟨a, ea⟩ := List.mem_iff_getElem?.mp ht'
              rw [(hbf e).1] at hv
              exact (hbf e).2 a t' (by have := (List.getElem?_eq_some_iff.mp ea).1; omega) ea p0 hv
theorem g766 (T : Txt K mg Z) (TP : PlTxt K mg) (G761 : MDef P w K mg base CX0 1 Z.L "root" ["self", "thing"] [] (spRoot Z)) (G : MTxt K Z.L "Closing" "got" "Closing.got" (met 76 6) [] []) : MDef P w K mg base CX0 2 Z.L "got" ["self", "things"] [] (spGotL Z K) :=
  mdef G (fun _ _ _ _ _ _ us hl => match us, hl with | [_, _], _ => rfl) fun f fd F => ok766 T TP G761 F
end
end K85
/-! K85TM: texts of formulas are told apart; letters stand ahead of products. -/
namespace K85
open PySem PySem.Spec PyProof.Rows L2
/-- a good name: short, made of signs -/
def Good (n : Str) : Prop := n.length ≤ 8 ∧ ∀ c ∈ n.cps.toList, c ∈ signs.cps.toList
theorem NameOk.good {n : Str} (h : NameOk n) : Good n := by
  obtain ⟨c, r, e, h1, h2, h3⟩ := h
  refine ⟨?_, by rw [e]; exact h3⟩
  show n.cps.size ≤ 8
  rw [← Array.length_toList, e]
  simp
  omega
def Fm.good : Fm → Prop
  | .l n => Good n
  | .m a b => Good a ∧ Good b
theorem Fm.good.short {g : Fm} (h : g.good) : g.short := by
  cases g with
  | l n => exact h.1
  | m a b => exact ⟨h.1.1, h.2.1⟩
theorem cut_at {x : Nat} : ∀ {l l' r r' : List Nat}, x ∉ l → x ∉ l' → l ++ x :: r = l' ++ x :: r' → l = l' ∧ r = r'
  | [], [], r, r', _, _, h => by simpa using h
  | [], b :: l', r, r', _, h2, h => by
    injection h with h _
    exact absurd (by rw [h]; exact List.mem_cons_self) h2
  | a :: l, [], r, r', h1, _, h => by
    injection h with h _
    exact absurd (by rw [← h]; exact List.mem_cons_self) h1
  | a :: l, b :: l', r, r', h1, h2, h => by
    injection h with e h
    obtain ⟨e1, e2⟩ := cut_at (fun z => h1 (List.mem_cons_of_mem _ z)) (fun z => h2 (List.mem_cons_of_mem _ z)) h
    exact ⟨by rw [e, e1], e2⟩
theorem mtext_cps (a b : Str) : (mtext a b).cps.toList = 40 :: (a.cps.toList ++ 32 :: 42 :: 32 :: (b.cps.toList ++ [41])) := by
  have e1 : (Str.empty).cps.toList = [] := rfl
  have e2 : ("(" : Str).cps.toList = [40] := by decide +kernel
  have e3 : (" " : Str).cps.toList = [32] := by decide +kernel
  have e4 : ("*" : Str).cps.toList = [42] := by decide +kernel
  have e5 : (")" : Str).cps.toList = [41] := by decide +kernel
  unfold mtext
  simp only [PySem.Str.cps_append, Array.toList_append, e1, e2, e3, e4, e5]
  simp
theorem good_no {n : Str} (h : Good n) : 32 ∉ n.cps.toList ∧ 40 ∉ n.cps.toList := by
  constructor
  · intro z
    exact absurd (h.2 _ z) (by decide +kernel)
  · intro z
    exact absurd (h.2 _ z) (by decide +kernel)
theorem str_ext {a b : Str} (h : a.cps.toList = b.cps.toList) : a = b := PySem.Str.ext' (Array.toList_inj.mp h)
theorem text_inj {g g' : Fm} (h : g.good) (h' : g'.good) (e : g.text = g'.text) : g = g' := by
  have ec : g.text.cps.toList = g'.text.cps.toList := by rw [e]
  cases g with
  | l n =>
    cases g' with
    | l n' => exact congrArg Fm.l e
    | m a b =>
      have ec : n.cps.toList = (mtext a b).cps.toList := ec
      rw [mtext_cps] at ec
      exact absurd (by rw [ec]; exact List.mem_cons_self) (good_no h).2
  | m a b =>
    cases g' with
    | l n =>
      have ec : (mtext a b).cps.toList = n.cps.toList := ec
      rw [mtext_cps] at ec
      exact absurd (by rw [← ec]; exact List.mem_cons_self) (good_no h').2
    | m a' b' =>
      have ec : (mtext a b).cps.toList = (mtext a' b').cps.toList := ec
      rw [mtext_cps, mtext_cps] at ec
      injection ec with _ ec
      obtain ⟨e1, e2⟩ := cut_at (good_no h.1).1 (good_no h'.1).1 ec
      injection e2 with _ e2
      injection e2 with _ e2
      have e3 := List.append_cancel_right e2
      rw [str_ext e1, str_ext e3]
end K85
namespace K85
open PySem PySem.Spec PyProof.Rows L2
theorem leP_iff (b b' : Int × Str) : leP b b' = true ↔ b.1 < b'.1 ∨ (b.1 = b'.1 ∧ b.2.cps.toList ≤ b'.2.cps.toList) := by
  rw [leP_eq]
  by_cases h : b'.1 = b.1
  · rw [if_pos h]
    by_cases h2 : b'.2 = b.2
    · rw [if_pos h2, h2]
      simp [h]
    · rw [if_neg h2]
      simp [h, List.not_lt]
  · rw [if_neg h]
    simp
    constructor
    · intro z
      exact .inl (by omega)
    · rintro (z | ⟨z, _⟩)
      · omega
      · exact absurd z.symm h
theorem leP_total : PySem.W.TotalLe leP := by
  refine ⟨fun a b c h1 h2 => ?_, fun a b => ?_⟩
  · rw [leP_iff] at h1 h2 ⊢
    rcases h1 with h1 | ⟨h1, k1⟩ <;> rcases h2 with h2 | ⟨h2, k2⟩
    · exact .inl (by omega)
    · exact .inl (by omega)
    · exact .inl (by omega)
    · exact .inr ⟨by omega, List.le_trans k1 k2⟩
  · rw [leP_iff, leP_iff]
    rcases Int.lt_trichotomy a.1 b.1 with h | h | h
    · exact .inl (.inl h)
    · rcases List.le_total a.2.cps.toList b.2.cps.toList with k | k
      · exact .inl (.inr ⟨h, k⟩)
      · exact .inr (.inr ⟨h.symm, k⟩)
    · exact .inr (.inl h)
/-- what stands ahead in the sorted list has no greater first part -/
theorem sort_first {l : List (Int × Str)} {i j : Nat} {a b : Int × Str} (hi : (l.mergeSort leP)[i]? = some a) (hj : (l.mergeSort leP)[j]? = some b) (h : a.1 < b.1) : i < j := by
  have hp := PySem.W.sort_pairwise leP_total l
  have li := (List.getElem?_eq_some_iff.mp hi)
  have lj := (List.getElem?_eq_some_iff.mp hj)
  obtain ⟨li, ei⟩ := li
  obtain ⟨lj, ej⟩ := lj
  by_cases hij : i < j
  · exact hij
  · by_cases e : i = j
    · subst e
      rw [ei] at ej
      rw [ej] at h
      omega
    · have := List.pairwise_iff_getElem.mp hp j i lj li (by omega)
      rw [ei, ej, leP_iff] at this
      rcases this with z | ⟨z, _⟩ <;> omega
end K85
/-! K85TB: str and len of formulas, triple_of, Table.number. -/
namespace K85
open PySem PySem.Spec PyProof.Rows L2
section
variable {X : Cx} {Z : Cs} {k : Nat} {e : Expr} {te : TE} {p pos : Pos} {sp : Sp}
theorem pe_strO {C : Addr} (T : Txt X.K X.mg Z) (G : ODef X.prog X.w X.K X.mg X.base k C "__str__" ["self"] sp) (c : Cls X.K C) (hr : Room (k + 2) X.A) (ha : PE X e te) (hg : Gl X "str" := by rfl)
    (h1 : starEach [e] X.env = (false, eval e X.env) :: starEach [] X.env := by rfl) (h2 : (backTo pos (starEach [] X.env)).any (·.1) = false := by rfl) :
    PE X (.Call (.Name "str" p) [e] [] pos) (tCB (rStrO C sp E0) (tCons te tNil)) := by
  obtain ⟨f, fd, F, b, M⟩ := G
  exact pe_callTy (call_strO c M F hr b pass0) hg T.str boot_str (pa_cons ha pa_nil h1) (by decide) (by decide) h1 h2
theorem pe_lenO {C : Addr} (T : Txt X.K X.mg Z) (G : ODef X.prog X.w X.K X.mg X.base k C "__len__" ["self"] sp) (c : Cls X.K C) (hr : Room (k + 1) X.A) (ha : PE X e te) (hg : Gl X "len" := by rfl)
    (h1 : starEach [e] X.env = (false, eval e X.env) :: starEach [] X.env := by rfl) (h2 : (backTo pos (starEach [] X.env)).any (·.1) = false := by rfl) :
    PE X (.Call (.Name "len" p) [e] [] pos) (tCB (rLenO C sp E0) (tCons te tNil)) := by
  obtain ⟨f, fd, F, b, M⟩ := G
  exact pe_b (call_lenO c M F hr b pass0) T.len PySem.boot_len (pa_cons ha pa_nil h1) hg (by decide) (by decide) h1 h2
end
section
variable {P : Program} {w : World} {K : PySem.W.Frag} {mg : Str → Option Value} {base : Heap} {Z : Cs} {f C : Addr} {fd : FuncData}
/-! triple_of -/
abbrev N77 : List Str := ["operation", "numbers", "left", "right", "itself"]
theorem sc77 : FnScope N77 ["operation", "numbers"] (defScope (top 77)) := ⟨rfl, rfl, rfl, by decide +kernel, rfl, by decide +kernel, by decide +kernel⟩
def spTri (Z : Cs) : Sp := fun vs H Q _ => ∃ (po dn : Addr) (a b : Str) (kvs : List (Key × V)) (na nb nm : V), vs = [.ref po, .ref dn] ∧ FmAt Z.F H po (.m a b) ∧ a.length ≤ 8 ∧ b.length ≤ 8 ∧ H dn = some (.dK kvs) ∧ valV kvs (.inr a) = some na ∧ valV kvs (.inr b) = some nb ∧ valV kvs (.inr (mtext a b)) = some nm ∧
  ∀ r, H r = none → Q (.ref r) (upd H r (.tup [na, nb, nm]))
theorem ok77 (T : Txt K mg Z) (GS : ODef P w K mg base 1 Z.F "__str__" ["self"] (spStr Z.F)) (F : TF K "triple_of" "triple_of" (top 77) [] [] f fd) : FnOk P w K mg base CX0 4 f fd ["operation", "numbers"] (spTri Z) := by
  refine F.ok sc77 (fun vs H Q E h => ?_) (fun cdv A outer s H vs Q E hr h => ?_)
  · obtain ⟨_, _, _, _, _, _, _, _, rfl, _⟩ := h
    rfl
  · obtain ⟨po, dn, a, b, kvs, na, nb, nm, rfl, hp, la, lb, hd, ha, hb, hm, q⟩ := h
    have hu := hu_of hr
    have c := T.iF.cl
    refine ⟨_, PSs.nox <| pss_cons (ps_par3 (i := 2) (j := 3) (l := 4) rfl sc77.nd rfl rfl rfl (by decide) (by decide) (by decide) rfl rfl rfl (pa_cons (pe_dget hu (pv 1) (pe_strO T GS c hr (pe_at c T.f_left (pv 0))) (fun _ _ => rfl)) (pa_cons (pe_dget hu (pv 1) (pe_strO T GS c hr (pe_at c T.f_right (pv 0))) (fun _ _ => rfl)) (pa_cons (pe_dget hu (pv 1) (pe_strO T GS c hr (pv 0)) (fun _ _ => rfl)) pa_nil))) (by rfl))
      (pss_cons (ps_if (pt_cmpR op_eq (pe_at c T.f_sign (pv 0)) pe_str (nomark _)) (pss_one (ps_ret (pe_tup (pa_cons (pv 2) (pa_cons (pv 3) (pa_cons (pv 4) pa_nil)))))) pss_nil) pss_never), ?_⟩
    obtain ⟨dx, sl, pl, pr, h1, h2, h3, h4⟩ := id hp
    obtain ⟨dl, _, hl, _⟩ := id h3
    obtain ⟨dr, _, hr2, _⟩ := id h4
    refine ⟨_, rfl, _, rfl, po, dx, _, _, rfl, h1, ffs_left .., pl, dl, _, rfl, hl, pl, .l a, rfl, h3, Fm.text_le (g := .l a) la, a, rfl, dn, na, rfl, .inl ⟨kvs, .inr a, .inl hd, rfl, ha.symm⟩, ?_⟩
    refine ⟨_, rfl, _, rfl, po, dx, _, _, rfl, h1, ffs_right .., pr, dr, _, rfl, hr2, pr, .l b, rfl, h4, Fm.text_le (g := .l b) lb, b, rfl, dn, nb, rfl, .inl ⟨kvs, .inr b, .inl hd, rfl, hb.symm⟩, ?_⟩
    refine ⟨_, rfl, _, rfl, po, dx, _, rfl, h1, po, .m a b, rfl, hp, Fm.text_le (g := .m a b) ⟨la, lb⟩, mtext a b, rfl, dn, nm, rfl, .inl ⟨kvs, .inr (mtext a b), .inl hd, rfl, hm.symm⟩, ?_⟩
    exact ⟨_, _, _, rfl, _, rfl, po, dx, _, _, rfl, h1, ffs_sign .., rfl, _, rfl, iteD rfl ⟨_, rfl, _, rfl, _, rfl, line1000 (by simp), q⟩⟩
theorem g77 (T : Txt K mg Z) (GS : ODef P w K mg base 1 Z.F "__str__" ["self"] (spStr Z.F)) (G : GTxt K mg "triple_of" (top 77) [] []) : GDef P w K mg base CX0 4 "triple_of" ["operation", "numbers"] [] (spTri Z) :=
  gdef G (fun _ _ _ _ _ _ us hl => match us, hl with | [_, _], _ => rfl) fun f fd F => ok77 T GS F
/-! Table.number -/
theorem sc781 : FnScope ["self", "formula"] ["self", "formula"] (defScope (met 78 1)) := ⟨rfl, rfl, rfl, by decide +kernel, rfl, by decide +kernel, by decide +kernel⟩
def spNum (Z : Cs) : Sp := fun vs H Q _ => ∃ (p dx q dn : Addr) (fs : List (Str × V)) (g : Fm) (kvs : List (Key × V)) (v : V), vs = [.ref p, .ref q] ∧ H p = some (.ins Z.T dx fs) ∧ fs.lookup ("numbers" : Str) = some (.ref dn) ∧ FmAt Z.F H q g ∧ g.short ∧ H dn = some (.dK kvs) ∧ valV kvs (.inr g.text) = some v ∧ Q v H
theorem ok781 (T : Txt K mg Z) (GS : ODef P w K mg base 1 Z.F "__str__" ["self"] (spStr Z.F)) (F : TF K "number" "Table.number" (met 78 1) [] [] f fd) : FnOk P w K mg base CX0 4 f fd ["self", "formula"] (spNum Z) := by
  refine F.ok sc781 (fun vs H Q E h => ?_) (fun cdv A outer s H vs Q E hr h => ?_)
  · obtain ⟨_, _, _, _, _, _, _, _, rfl, _⟩ := h
    rfl
  · obtain ⟨p, dx, q, dn, fs, g, kvs, v, rfl, hp, hf, hq, hs, hd, hv, k⟩ := h
    have hu := hu_of hr
    obtain ⟨dq, _, _, _, _, _, e1, _⟩ := hq.look
    exact ⟨_, PSs.nox <| pss_one (ps_ret (pe_dget hu (pe_at T.cT T.t_numbers (pv 0)) (pe_strO T GS T.iF.cl hr (pv 1)) (fun _ _ => rfl))), _, rfl, p, dx, _, _, rfl, hp, hf, _, rfl, q, dq, _, rfl, e1, q, g, rfl, hq, Fm.text_le hs, g.text, rfl, dn, v, rfl, .inl ⟨kvs, .inr g.text, .inl hd, rfl, hv.symm⟩, k⟩
theorem g781 (T : Txt K mg Z) (GS : ODef P w K mg base 1 Z.F "__str__" ["self"] (spStr Z.F)) (G : MTxt K Z.T "Table" "number" "Table.number" (met 78 1) [] []) : MDef P w K mg base CX0 4 Z.T "number" ["self", "formula"] [] (spNum Z) :=
  mdef G (fun _ _ _ _ _ _ us hl => match us, hl with | [_, _], _ => rfl) fun f fd F => ok781 T GS F
end
end K85
/-! K85TC: Table made: the parts and their texts. -/
namespace K85
open PySem PySem.Spec PyProof.Rows L2
/-- the formulas of a table: letters ls, facts fas -/
def Phi (ls : List Str) (fas : List (T3 Str)) : Fm → Prop
  | .l n => n ∈ ls ∨ ∃ fa ∈ fas, n ∈ tri fa
  | .m a b => ∃ fa ∈ fas, fa.1 = a ∧ fa.2.1 = b
structure PhiOk (ls : List Str) (fas : List (T3 Str)) : Prop where
  gl : ∀ n ∈ ls, Good n
  gf : ∀ fa ∈ fas, ∀ n ∈ tri fa, Good n
  ll : ls.length ≤ 10
  fl : fas.length ≤ 4
theorem PhiOk.good {ls : List Str} {fas : List (T3 Str)} (h : PhiOk ls fas) {g : Fm} (hg : Phi ls fas g) : g.good := by
  cases g with
  | l n =>
    rcases hg with hg | ⟨fa, h1, h2⟩
    · exact h.gl n hg
    · exact h.gf fa h1 n h2
  | m a b =>
    obtain ⟨fa, h1, rfl, rfl⟩ := hg
    exact ⟨h.gf fa h1 _ (by simp [tri]), h.gf fa h1 _ (by simp [tri])⟩
theorem phi_parts {ls : List Str} {fas : List (T3 Str)} {g g' : Fm} (hg : Phi ls fas g) (h : g' ∈ fmParts g) : Phi ls fas g' := by
  cases g with
  | l n =>
    rw [List.mem_singleton.mp h]
    exact hg
  | m a b =>
    obtain ⟨fa, h1, rfl, rfl⟩ := hg
    simp only [fmParts, List.mem_cons, List.not_mem_nil, or_false] at h
    rcases h with rfl | rfl | rfl
    · exact ⟨fa, h1, rfl, rfl⟩
    · exact .inr ⟨fa, h1, by simp [tri]⟩
    · exact .inr ⟨fa, h1, by simp [tri]⟩
/-- a pair of facts -/
def FactAt (Z : Cs) (K : PySem.W.Frag) (H : Hp) (x : V) (fa : T3 Str) : Prop := ∃ q pa pb, x = .ref q ∧ SqT K H q [.ref pa, .ref pb] ∧ FmAt Z.F H pa (.m fa.1 fa.2.1) ∧ LetAt Z.F H pb fa.2.2
/-- a text's length in operations, by its first sign -/
def sgl (t : Str) : Int := if t.cps.toList.head? = some 40 then 1 else 0
theorem sgl_good {g : Fm} (h : g.good) : (g.sg.length : Int) = sgl g.text := by
  cases g with
  | l n =>
    unfold sgl
    rw [if_neg]
    · rfl
    · intro e
      exact (good_no h).2 (List.mem_of_head? e)
  | m a b =>
    unfold sgl
    rw [if_pos]
    · rfl
    · show (mtext a b).cps.toList.head? = _
      rw [mtext_cps]
      rfl
def ktx : Key → Str
  | .inl _ => Str.empty
  | .inr t => t
/-- the parts' dict -/
structure PartsOk (Z : Cs) (Ph : Fm → Prop) (H : Hp) (kvs : List (Key × V)) : Prop where
  nd : (kvs.map (·.1)).Nodup
  ln : kvs.length ≤ 60
  val : ∀ k v, valV kvs k = some v → ∃ q g, k = .inr g.text ∧ v = .ref q ∧ Ph g ∧ FmAt Z.F H q g
  all : ∀ g, Ph g → (valV kvs (.inr g.text)).isSome = true
theorem PartsOk.kp {Z : Cs} {Ph : Fm → Prop} {H H' : Hp} {kvs : List (Key × V)} (h : PartsOk Z Ph H kvs) (S : Kp H H') : PartsOk Z Ph H' kvs :=
  ⟨h.nd, h.ln, fun k v e => let ⟨q, g, a, b, c, d⟩ := h.val k v e; ⟨q, g, a, b, c, d.kp S⟩, h.all⟩
def sbOf (kvs : List (Key × V)) : List (Int × Str) := (kvs.map fun kv => (sgl (ktx kv.1), ktx kv.1)).mergeSort leP
theorem kp_upd {H : Hp} {d : Addr} {u : HO} (h : ∀ o, H d = some o → (∀ xs, o ≠ .lst xs) ∧ ∀ C dx x fs, o ≠ .ins C dx (x :: fs)) : Kp H (upd H d u) :=
  ⟨fun b xs e => by rw [upd_ne (fun z => (h _ (by rw [← z]; exact e)).1 xs rfl)]; exact e, fun b C dx x fs e => by rw [upd_ne (fun z => (h _ (by rw [← z]; exact e)).2 C dx x fs rfl)]; exact e⟩
theorem Kp.trans {H H1 H2 : Hp} (a : Kp H H1) (b : Kp H1 H2) : Kp H H2 := ⟨fun c xs e => b.lst c xs (a.lst c xs e), fun c C dx x fs e => b.ins c C dx x fs (a.ins c C dx x fs e)⟩
theorem kp_dK {H : Hp} {d : Addr} {u : HO} {kvs : List (Key × V)} (h : H d = some (.dK kvs)) : Kp H (upd H d u) := kp_upd fun o e => by
  rw [h] at e
  cases e
  exact ⟨fun xs z => (by cases z), fun C dx x fs z => (by cases z)⟩
theorem kp_frz {H : Hp} {d : Addr} {u : HO} {od : Obj} {kvs : List (Key × V)} (h : H d = some (.frz od (.dK kvs))) : Kp H (upd H d u) := kp_upd fun o e => by
  rw [h] at e
  cases e
  exact ⟨fun xs z => (by cases z), fun C dx x fs z => (by cases z)⟩
section
variable {P : Program} {w : World} {K : PySem.W.Frag} {mg : Str → Option Value} {base : Heap} {Z : Cs} {f C : Addr} {fd : FuncData}
abbrev N780 : List Str := ["self", "kind", "formulas", "facts", "parts", "sides", "formula", "part", "texts", "operations", "one", "other", "side", "pair", "text", "at"]
theorem sc780 : FnScope N780 ["self", "kind", "formulas", "facts"] (defScope (met 78 0)) := ⟨rfl, rfl, rfl, by decide +kernel, rfl, by decide +kernel, by decide +kernel⟩
abbrev b780 (i : Nat) : Stmt := (defBody (met 78 0)).getD i (.Pass ⟨0, 0, 0, 0⟩)
end
end K85
/-! K85TD: Table.__init__. -/
namespace K85
open PySem PySem.Spec PyProof.Rows L2
/-- the numbers of the texts -/
def NumsOk (sb : List (Int × Str)) (kvn : List (Key × V)) (n : Nat) : Prop := ∀ t v, valV kvn (.inr t) = some v ↔ ∃ (j : Nat) (s : Int), j < n ∧ sb[j]? = some (s, t) ∧ v = .int (j : Nat)
/-- the letters' numbers in ab -/
def Rl (kvn : List (Key × V)) (n : Str) (i : Nat) : Prop := valV kvn (.inr n) = some (.int (i : Nat))
structure NumP (ls : List Str) (fas : List (T3 Str)) (kvn : List (Key × V)) (ab : List Nat) (ops : List (T3 Nat)) : Prop where
  lett : ∀ n, Phi ls fas (.l n) → ∃ i, Rl kvn n i ∧ i < ab.length ∧ rof ab i = i
  inj : ∀ n n' i, Rl kvn n i → Rl kvn n' i → n = n'
  ops1 : ∀ o ∈ ops, ∃ fa ∈ fas, R3 (Rl kvn) fa (rt ab o)
  ops2 : ∀ fa ∈ fas, ∃ o ∈ ops, R3 (Rl kvn) fa (rt ab o)
/-- an object Table -/
def TabAt (Z : Cs) (K : PySem.W.Frag) (H : Hp) (p : Addr) (k : Str × List (T3 Nat)) (c : Bool) (ls : List Str) (fas : List (T3 Str)) : Prop := ∃ dx dn vl pc pa kvn ab ops, H p = some (.ins Z.T dx (tfs (.ref dn) vl (.ref pc))) ∧ H dn = some (.dK kvn) ∧ LAt Z K H pc k c ops pa ab ∧ Ab ab ∧ OpsLt ops ab.length ∧ ops.length ≤ 60 ∧ NumP ls fas kvn ab ops
theorem TabAt.same {Z : Cs} {K : PySem.W.Frag} {H H' : Hp} {p : Addr} {k : Str × List (T3 Nat)} {c : Bool} {ls : List Str} {fas : List (T3 Str)} (h : TabAt Z K H p k c ls fas) (S : Same H H') : TabAt Z K H' p k c ls fas := by
  obtain ⟨dx, dn, vl, pc, pa, kvn, ab, ops, h1, h2, h3, h4⟩ := h
  exact ⟨dx, dn, vl, pc, pa, kvn, ab, ops, S _ _ h1, S _ _ h2, h3.same S, h4⟩
section
variable {P : Program} {w : World} {K : PySem.W.Frag} {mg : Str → Option Value} {base : Heap} {Z : Cs} {f C : Addr} {fd : FuncData}
def spTI (Z : Cs) (K : PySem.W.Frag) : Sp := fun vs H Q _ => ∃ (p dx pk lf tf : Addr) (k : Str × List (T3 Nat)) (c : Bool) (xs ys : List V) (ls : List Str) (fas : List (T3 Str)), vs = [.ref p, .ref pk, .ref lf, .ref tf] ∧ H p = some (.ins Z.T dx []) ∧ KindAt Z.K H pk k.1 c ∧ k ∈ lots ∧
  H lf = some (.lst xs) ∧ Paired (fun x n => ∃ q, x = V.ref q ∧ LetAt Z.F H q n) xs ls ∧ SqT K H tf ys ∧ Paired (FactAt Z K H) ys fas ∧ PhiOk ls fas ∧ NC k.2 c fas ∧ ∀ H', But p H H' → TabAt Z K H' p k c ls fas → Q .non H'
end
end K85
/-! K85TE: numbers of texts, what merging the facts leaves. -/
namespace K85
open PySem PySem.Spec PyProof.Rows L2
theorem lots_id : ∀ q ∈ lots, ((0, 1, 2) : T3 Nat) ∈ q.2 := by decide
theorem nodup_mapOn {α β : Type} {f : α → β} : ∀ {l : List α}, l.Nodup → (∀ a ∈ l, ∀ b ∈ l, f a = f b → a = b) → (l.map f).Nodup
  | [], _, _ => List.nodup_nil
  | a :: r, h, k => by
    rw [List.nodup_cons] at h
    rw [List.map_cons, List.nodup_cons]
    refine ⟨fun z => ?_, nodup_mapOn h.2 fun x hx y hy => k x (List.mem_cons_of_mem _ hx) y (List.mem_cons_of_mem _ hy)⟩
    obtain ⟨b, hb, e⟩ := List.mem_map.mp z
    exact h.1 (by rw [← k b (List.mem_cons_of_mem _ hb) a List.mem_cons_self e]; exact hb)
/-- one product, one letter -/
theorem nc_uniq {k : Str × List (T3 Nat)} {c : Bool} {fas : List (T3 Str)} (hk : k ∈ lots) (h : NC k.2 c fas) {fa fa' : T3 Str} (h1 : fa ∈ fas) (h2 : fa' ∈ fas) (e1 : fa'.1 = fa.1) (e2 : fa'.2.1 = fa.2.1) : fa'.2.2 = fa.2.2 := by
  have := h.one fa' h2 (0, 1, 2) (lots_id k hk) fa h1 (0, 1, 2) (lots_id k hk) 2 (by decide)
  exact this (Prod.ext e1 e2)
theorem nodup_ix {α : Type} {l : List α} (hN : l.Nodup) {i j : Nat} {x : α} (a : l[i]? = some x) (b : l[j]? = some x) : i = j := nd_ix hN a b
/-- the sorted texts -/
structure SbOk (Ph : Fm → Prop) (sb : List (Int × Str)) : Prop where
  nd : (sb.map (·.2)).Nodup
  mem : ∀ s t, (s, t) ∈ sb → ∃ g, Ph g ∧ t = g.text ∧ s = g.sg.length
  all : ∀ g, Ph g → ((g.sg.length : Int), g.text) ∈ sb
theorem sb_ok {Z : Cs} {ls : List Str} {fas : List (T3 Str)} {H : Hp} {kvs : List (Key × V)} (po : PhiOk ls fas) (h : PartsOk Z (Phi ls fas) H kvs) : SbOk (Phi ls fas) (sbOf kvs) := by
  have hv : ∀ kv ∈ kvs, ∃ g, Phi ls fas g ∧ kv.1 = .inr g.text := fun kv hkv => by
    obtain ⟨q, g, e1, e2, e3, e4⟩ := h.val kv.1 kv.2 (val_nodup h.nd kv hkv)
    exact ⟨g, e3, e1⟩
  have hperm : (sbOf kvs).Perm (kvs.map fun kv => (sgl (ktx kv.1), ktx kv.1)) := List.mergeSort_perm ..
  refine ⟨?_, fun s t hm => ?_, fun g hg => ?_⟩
  · refine (hperm.map (·.2)).nodup_iff.mpr ?_
    rw [List.map_map]
    have : ((fun x : Int × Str => x.2) ∘ fun kv : Key × V => (sgl (ktx kv.1), ktx kv.1)) = fun kv => ktx kv.1 := rfl
    rw [this]
    have e : (kvs.map fun kv : Key × V => ktx kv.1) = (kvs.map (·.1)).map ktx := by rw [List.map_map]; rfl
    rw [e]
    refine nodup_mapOn h.nd fun a ha b hb eab => ?_
    obtain ⟨ka, hka, rfl⟩ := List.mem_map.mp ha
    obtain ⟨kb, hkb, rfl⟩ := List.mem_map.mp hb
    obtain ⟨ga, _, ea⟩ := hv ka hka
    obtain ⟨gb, _, eb⟩ := hv kb hkb
    rw [ea, eb] at eab ⊢
    exact congrArg Sum.inr eab
  · obtain ⟨kv, hkv, e⟩ := List.mem_map.mp (hperm.mem_iff.mp hm)
    obtain ⟨g, hg, ek⟩ := hv kv hkv
    injection e with e1 e2
    rw [ek] at e1 e2
    exact ⟨g, hg, e2.symm, by rw [← e1]; exact (sgl_good (po.good hg)).symm⟩
  · obtain ⟨v, hv'⟩ := Option.isSome_iff_exists.mp (h.all g hg)
    obtain ⟨kv, hkv, ek⟩ := List.mem_map.mp (valV_in hv')
    refine hperm.mem_iff.mpr (List.mem_map.mpr ⟨kv, hkv, ?_⟩)
    rw [ek, sgl_good (po.good hg)]
    rfl
theorem num_of {Ph : Fm → Prop} {sb : List (Int × Str)} {kvn : List (Key × V)} (hs : SbOk Ph sb) (hN : NumsOk sb kvn sb.length) {g : Fm} (hg : Ph g) : ∃ i : Nat, Rl kvn g.text i ∧ sb[i]? = some ((g.sg.length : Int), g.text) := by
  obtain ⟨i, ei⟩ := List.mem_iff_getElem?.mp (hs.all g hg)
  exact ⟨i, (hN _ _).mpr ⟨i, _, (List.getElem?_eq_some_iff.mp ei).1, ei, rfl⟩, ei⟩
theorem num_at {Ph : Fm → Prop} {sb : List (Int × Str)} {kvn : List (Key × V)} (hN : NumsOk sb kvn sb.length) {t : Str} {i : Nat} (h : Rl kvn t i) : ∃ s, sb[i]? = some (s, t) := by
  obtain ⟨j, s, h1, h2, h3⟩ := (hN _ _).mp h
  injection h3 with h3
  have : i = j := by omega
  subst this
  exact ⟨s, h2⟩
theorem rl_fun {kvn : List (Key × V)} {t : Str} {i j : Nat} (h : Rl kvn t i) (h' : Rl kvn t j) : i = j := by
  unfold Rl at h h'
  rw [h] at h'
  injection h' with h'
  injection h' with h'
  omega
theorem rl_inj {Ph : Fm → Prop} {sb : List (Int × Str)} {kvn : List (Key × V)} (hN : NumsOk sb kvn sb.length) {t t' : Str} {i : Nat} (h : Rl kvn t i) (h' : Rl kvn t' i) : t = t' := by
  obtain ⟨s, e⟩ := num_at (Ph := Ph) hN h
  obtain ⟨s', e'⟩ := num_at (Ph := Ph) hN h'
  rw [e] at e'
  cases e'
  rfl
/-- what merging leaves, done: the facts that are merged -/
structure MS (ls : List Str) (fas : List (T3 Str)) (sb : List (Int × Str)) (kvn : List (Key × V)) (ab : List Nat) (done : List (T3 Str)) : Prop where
  len : ab.length = sb.length
  let_ : ∀ l, Phi ls fas (.l l) → ∀ i, Rl kvn l i → ab[i]? = some i
  pro : ∀ fa ∈ fas, ∀ i, Rl kvn (mtext fa.1 fa.2.1) i → ab[i]? = some i ∨ ∃ fa' ∈ fas, fa'.1 = fa.1 ∧ fa'.2.1 = fa.2.1 ∧ ∃ j, Rl kvn fa'.2.2 j ∧ ab[i]? = some j
  dsub : ∀ fa ∈ done, fa ∈ fas
  done_ : ∀ fa ∈ done, ∀ i, Rl kvn (mtext fa.1 fa.2.1) i → ∃ fa' ∈ fas, fa'.1 = fa.1 ∧ fa'.2.1 = fa.2.1 ∧ ∃ j, Rl kvn fa'.2.2 j ∧ ab[i]? = some j
section
variable {ls : List Str} {fas : List (T3 Str)} {l : List (Int × Str)} {kvn : List (Key × V)} {k : Str × List (T3 Nat)} {c : Bool}
theorem ms_start (hs : SbOk (Phi ls fas) (l.mergeSort leP)) (hN : NumsOk (l.mergeSort leP) kvn (l.mergeSort leP).length) : MS ls fas (l.mergeSort leP) kvn (List.range (l.mergeSort leP).length) [] := by
  have key : ∀ t i, Rl kvn t i → (List.range (l.mergeSort leP).length)[i]? = some i := fun t i h => by
    obtain ⟨s, e⟩ := num_at (Ph := Phi ls fas) hN h
    have := (List.getElem?_eq_some_iff.mp e).1
    rw [List.getElem?_range this]
  exact ⟨List.length_range, fun l' _ i h => key _ i h, fun fa _ i h => .inl (key _ i h), fun fa h => absurd h List.not_mem_nil, fun fa h => absurd h List.not_mem_nil⟩
theorem ms_step (hk : k ∈ lots) (hnc : NC k.2 c fas) (po : PhiOk ls fas) (hs : SbOk (Phi ls fas) (l.mergeSort leP)) (hN : NumsOk (l.mergeSort leP) kvn (l.mergeSort leP).length) {ab : List Nat} {done : List (T3 Str)} (M : MS ls fas (l.mergeSort leP) kvn ab done) {fa : T3 Str} (hf : fa ∈ fas) :
    ∃ i j a, Rl kvn (mtext fa.1 fa.2.1) i ∧ Rl kvn fa.2.2 j ∧ ab[i]? = some a ∧ ab[a]? = some a ∧ ab[j]? = some j ∧ MS ls fas (l.mergeSort leP) kvn (ab.set (max a j) (min a j)) (done ++ [fa]) := by
  have hpm : Phi ls fas (.m fa.1 fa.2.1) := ⟨fa, hf, rfl, rfl⟩
  have hpl : Phi ls fas (.l fa.2.2) := .inr ⟨fa, hf, by simp [tri]⟩
  obtain ⟨i, hi, ei⟩ := num_of hs hN hpm
  obtain ⟨j, hj, ej⟩ := num_of hs hN hpl
  have hij : j < i := sort_first ej ei (by show (0 : Int) < 1; decide)
  have hjj := M.let_ _ hpl j hj
  have hil : i < ab.length := by rw [M.len]; exact (List.getElem?_eq_some_iff.mp ei).1
  rcases M.pro fa hf i hi with e | ⟨fa', hf', e1, e2, j', hj', e⟩
  · refine ⟨i, j, i, hi, hj, e, e, hjj, ?_⟩
    have emax : max i j = i := by omega
    have emin : min i j = j := by omega
    rw [emax, emin]
    refine ⟨by rw [List.length_set]; exact M.len, fun l' hl' i' hi' => ?_, fun fb hb i' hi' => ?_, fun fb hb => (List.mem_append.mp hb).elim (M.dsub fb) fun h => by rw [List.mem_singleton.mp h]; exact hf, fun fb hb i' hi' => ?_⟩
    · have : i' ≠ i := fun z => by
        subst z
        have := rl_inj (Ph := Phi ls fas) hN hi' hi
        have := text_inj (g := .l l') (g' := .m fa.1 fa.2.1) (po.good hl') (po.good hpm) this
        cases this
      rw [List.getElem?_set_ne (fun z => this z.symm)]
      exact M.let_ l' hl' i' hi'
    · by_cases z : i' = i
      · subst z
        have := rl_inj (Ph := Phi ls fas) hN hi' hi
        have := text_inj (g := .m fb.1 fb.2.1) (g' := .m fa.1 fa.2.1) (po.good ⟨fb, hb, rfl, rfl⟩) (po.good hpm) this
        injection this with z1 z2
        refine .inr ⟨fa, hf, z1.symm, z2.symm, j, hj, ?_⟩
        rw [List.getElem?_set_self hil]
      · rw [List.getElem?_set_ne (fun y => z y.symm)]
        exact M.pro fb hb i' hi'
    · by_cases z : i' = i
      · subst z
        refine ⟨fa, hf, ?_⟩
        have := rl_inj (Ph := Phi ls fas) hN hi' hi
        rcases List.mem_append.mp hb with hb | hb
        · have := text_inj (g := .m fb.1 fb.2.1) (g' := .m fa.1 fa.2.1) (po.good ⟨fb, M.dsub fb hb, rfl, rfl⟩) (po.good hpm) this
          injection this with z1 z2
          exact ⟨z1.symm, z2.symm, j, hj, by rw [List.getElem?_set_self hil]⟩
        · rw [List.mem_singleton.mp hb]
          exact ⟨rfl, rfl, j, hj, by rw [List.getElem?_set_self hil]⟩
      · rw [List.getElem?_set_ne (fun y => z y.symm)]
        rcases List.mem_append.mp hb with hb | hb
        · exact M.done_ fb hb i' hi'
        · rw [List.mem_singleton.mp hb] at hi'
          exact absurd (rl_fun hi' hi) z
  · have ec := nc_uniq hk hnc hf hf' e1 e2
    rw [ec] at hj'
    have : j' = j := rl_fun hj' hj
    subst this
    refine ⟨i, j', j', hi, hj, e, hjj, hjj, ?_⟩
    rw [set_self hjj]
    refine ⟨M.len, M.let_, M.pro, fun fb hb => (List.mem_append.mp hb).elim (M.dsub fb) fun h => by rw [List.mem_singleton.mp h]; exact hf, fun fb hb i' hi' => ?_⟩
    rcases List.mem_append.mp hb with hb | hb
    · exact M.done_ fb hb i' hi'
    · rw [List.mem_singleton.mp hb] at hi' ⊢
      have : i' = i := rl_fun hi' hi
      subst this
      exact ⟨fa', hf', e1, e2, j', by rw [ec]; exact hj', e⟩
/-- at the end every product has its letter's number -/
theorem ms_end (hk : k ∈ lots) (hnc : NC k.2 c fas) (po : PhiOk ls fas) (hs : SbOk (Phi ls fas) (l.mergeSort leP)) (hN : NumsOk (l.mergeSort leP) kvn (l.mergeSort leP).length) {ab : List Nat} (M : MS ls fas (l.mergeSort leP) kvn ab fas) {og : List (Str × Str)} {ops : List (T3 Nat)}
    (ho : Paired (fun (x : Str × Str) (o : T3 Nat) => Rl kvn x.1 o.1 ∧ Rl kvn x.2 o.2.1 ∧ Rl kvn (mtext x.1 x.2) o.2.2) og ops) (h1 : ∀ x ∈ og, ∃ fa ∈ fas, fa.1 = x.1 ∧ fa.2.1 = x.2) (h2 : ∀ fa ∈ fas, (fa.1, fa.2.1) ∈ og) :
    Ab ab ∧ OpsLt ops ab.length ∧ NumP ls fas kvn ab ops := by
  have lt : ∀ t i, Rl kvn t i → i < ab.length := fun t i h => by
    obtain ⟨s, e⟩ := num_at (Ph := Phi ls fas) hN h
    rw [M.len]
    exact (List.getElem?_eq_some_iff.mp e).1
  have hcf : ∀ fa ∈ fas, Phi ls fas (.l fa.2.2) := fun fa hf => .inr ⟨fa, hf, by simp [tri]⟩
  have hop : ∀ (x : Str × Str) (o : T3 Nat), x ∈ og → (Rl kvn x.1 o.1 ∧ Rl kvn x.2 o.2.1 ∧ Rl kvn (mtext x.1 x.2) o.2.2) → ∃ fa ∈ fas, fa.1 = x.1 ∧ fa.2.1 = x.2 ∧ R3 (Rl kvn) fa (rt ab o) := fun x o hx r => by
    obtain ⟨fa, hf, e1, e2⟩ := h1 x hx
    obtain ⟨fa', hf', z1, z2, j, hj, ej⟩ := M.done_ fa hf o.2.2 (by rw [e1, e2]; exact r.2.2)
    have a1 := M.let_ x.1 (.inr ⟨fa, hf, by rw [← e1]; simp [tri]⟩) o.1 r.1
    have a2 := M.let_ x.2 (.inr ⟨fa, hf, by rw [← e2]; simp [tri]⟩) o.2.1 r.2.1
    refine ⟨fa', hf', by rw [z1, e1], by rw [z2, e2], ?_, ?_, ?_⟩
    · show Rl kvn fa'.1 (rof ab o.1)
      rw [rof_of a1, z1, e1]
      exact r.1
    · show Rl kvn fa'.2.1 (rof ab o.2.1)
      rw [rof_of a2, z2, e2]
      exact r.2.1
    · show Rl kvn fa'.2.2 (rof ab o.2.2)
      rw [rof_of ej]
      exact hj
  have back : ∀ {y : T3 Nat}, y ∈ ops → ∃ x ∈ og, (Rl kvn x.1 y.1 ∧ Rl kvn x.2 y.2.1 ∧ Rl kvn (mtext x.1 x.2) y.2.2) := fun {y} hy => by
    obtain ⟨i, ei⟩ := List.mem_iff_getElem?.mp hy
    obtain ⟨x, ex, r⟩ := paired_back ho ei
    exact ⟨x, List.mem_of_getElem? ex, r⟩
  refine ⟨fun i hi => ?_, fun o hoo => ?_, ?_⟩
  · rw [M.len] at hi
    obtain ⟨⟨s, t⟩, e⟩ : ∃ x, (l.mergeSort leP)[i]? = some x := ⟨_, List.getElem?_eq_getElem hi⟩
    obtain ⟨g, hg, rfl, hsg⟩ := hs.mem s t (List.mem_of_getElem? e)
    have hr : Rl kvn g.text i := (hN _ _).mpr ⟨i, s, hi, e, rfl⟩
    cases g with
    | l n =>
      have := M.let_ n hg i hr
      rw [rof_of this]
      exact this
    | m a b =>
      obtain ⟨fa, hf, rfl, rfl⟩ := hg
      obtain ⟨fa', hf', z1, z2, j, hj, ej⟩ := M.done_ fa hf i hr
      rw [rof_of ej]
      exact M.let_ _ (hcf fa' hf') j hj
  · obtain ⟨x, hx, r⟩ := back hoo
    exact ⟨lt _ _ r.1, lt _ _ r.2.1, lt _ _ r.2.2⟩
  · refine ⟨fun n hn => ?_, fun n n' i h h' => rl_inj (Ph := Phi ls fas) hN h h', fun o hoo => ?_, fun fa hf => ?_⟩
    · obtain ⟨i, hi, _⟩ := num_of hs hN hn
      exact ⟨i, hi, lt _ _ hi, rof_of (M.let_ n hn i hi)⟩
    · obtain ⟨x, hx, r⟩ := back hoo
      obtain ⟨fa, hf, _, _, r3⟩ := hop x o hx r
      exact ⟨fa, hf, r3⟩
    · obtain ⟨i, ei⟩ := List.mem_iff_getElem?.mp (h2 fa hf)
      obtain ⟨o, eo, r⟩ := paired_at ho ei
      obtain ⟨fa', hf', z1, z2, r3⟩ := hop _ o (h2 fa hf) r
      have ec := nc_uniq hk hnc hf hf' z1 z2
      have : fa' = fa := Prod.ext z1 (Prod.ext z2 ec)
      subst this
      exact ⟨o, List.mem_of_getElem? eo, r3⟩
end
end K85
/-! K85TF: Table.__init__ is kept. -/
namespace K85
open PySem PySem.Spec PyProof.Rows L2
section
variable {P : Program} {w : World} {K : PySem.W.Frag} {mg : Str → Option Value} {base : Heap} {Z : Cs} {f C : Addr} {fd : FuncData}
theorem LAt.setA {H : Hp} {p pa : Addr} {k : Str × List (T3 Nat)} {c : Bool} {ops : List (T3 Nat)} {ab ab' : List Nat} (h : LAt Z K H p k c ops pa ab) : LAt Z K (upd H pa (.lst (ivs ab'))) p k c ops pa ab' := by
  obtain ⟨dx, pk, po, n, pt, xs, h1, ⟨dk, h2⟩, h3, h4, h5, h6⟩ := h
  exact ⟨dx, pk, po, n, pt, xs, by rw [upd_ne (ne_of h1 h5 (by intro z; cases z))]; exact h1, ⟨dk, by rw [upd_ne (ne_of h2 h5 (by intro z; cases z))]; exact h2⟩, by rw [upd_ne h6.symm]; exact h3, paired_imp (fun _ _ ⟨b, e, q⟩ => ⟨b, e, tup_upd (lst_noT h5) q⟩) h4, upd_same, h6⟩
theorem nums_ne (a b : V) (r : List (Str × V)) (x y : V) : (("numbers", a) :: r : List (Str × V)) ≠ kfs x y := by
  intro z
  unfold kfs at z
  injection z with z _
  injection z with z _
  exact absurd z (by decide +kernel)
theorem ok780 (T : Txt K mg Z) (GS : ODef P w K mg base 1 Z.F "__str__" ["self"] (spStr Z.F)) (GL : ODef P w K mg base 1 Z.F "__len__" ["self"] (spLen Z.F)) (G403 : PDef P w K mg base CX0 3 Z.F "parts" (spParts K Z.F)) (G77 : GDef P w K mg base CX0 4 "triple_of" ["operation", "numbers"] [] (spTri Z))
    (G760 : CDef P w K mg base CX0 1 Z.L "Closing" PLI [] (spLI Z K)) (G763 : MDef P w K mg base CX0 2 Z.L "merge" N763 [] (spMerge Z)) (G764 : MDef P w K mg base CX0 4 Z.L "close" ["self"] [] (spClose Z K)) (G781 : MDef P w K mg base CX0 4 Z.T "number" ["self", "formula"] [] (spNum Z))
    (F : TF K "__init__" "Table.__init__" (met 78 0) [] [] f fd) : FnOk P w K mg base CX0 5 f fd ["self", "kind", "formulas", "facts"] (spTI Z K) := by
  refine F.ok sc780 (fun vs H Q E h => ?_) (fun cdv A outer s H vs Q E hr h => ?_)
  · obtain ⟨_, _, _, _, _, _, _, _, _, _, _, rfl, _⟩ := h
    rfl
  · obtain ⟨p, dx, pk, lf, tf, k, c, xs, ys, ls, fas, rfl, hp, hk, hkl, hlf, hxs, htf, hys, po, hnc, q⟩ := h
    have hu := hu_of hr
    have cF := T.iF.cl
    have cT := T.cT
    have cL := T.cL
    have hr2 : Room 2 _ := hr.mono (by decide)
    have hr3 : Room 3 _ := hr.mono (by decide)
    refine ⟨_, PSs.nox <| pss_cons (ps_set (i := 4) sc780.nd rfl (Or.inr rfl) pe_dnewK)
      (C8.pss_cut (ps_setLc2 (i := 5) (own := [("pair", 13), ("side", 12)]) (vs1 := [12]) (g := gName 13) (tt := tYes) (wi1 := iTup K (tVar 13)) (g1 := gName 12) (tt1 := tYes) (by rfl) sc780.nd rfl rfl (sw_true rfl rfl rfl (by decide +kernel)) (pi_tup (pv 3)) (blkOk_by (N := N780) (sc := defScope (met 78 0)) (by decide +kernel)) (by simp)
        (fun _ _ _ _ _ => pg_name (i := 13) sc780.nd rfl (Or.inl rfl)) (fun _ _ _ _ _ => pts_nil) (fun _ _ _ _ _ => pi_tup (pv 13)) (fun _ _ _ _ _ => pg_name (i := 12) sc780.nd rfl (Or.inl rfl)) (fun _ _ _ _ _ => pts_nil) (fun _ _ _ _ _ => pv 12))
      (C8.pss_cut (ps_for PassesOwn.never rfl (pi_list (pe_op op_cat (pe_callTy call_list_of (by rfl) T.lst boot_list (pa_cons (pv 2) pa_nil)) (pv 5))) (pg_name (i := 6) sc780.nd rfl (Or.inl rfl))
        (pss_one (ps_for PassesOwn.never rfl (pi_tup (pe_pr G403 cF hr pass0 (pv 6))) (pg_name (i := 7) sc780.nd rfl (Or.inl rfl)) (pss_one (ps_dput hu (pv 4) (pe_strO T GS cF hr3 (pv 7)) (pv 7) rfl)))))
      (C8.pss_cut (ps_set (i := 8) sc780.nd rfl (Or.inl rfl) (pe_b (cr_sortP hr) T.srt boot_sorted (pa_cons (pe_lock (pe_lc (own := [("text", 14)]) (g := gName 14) (tt := tYes) (te := tTup (tCons (tCB (rLenO Z.F (spLen Z.F) E0) (tCons (tDGet (tVar 4) (tVar 14)) tNil)) (tCons (tVar 14) tNil))) (by rfl) sc780.nd (pi_keys (pv 4)) (blkOk_by (N := N780) (sc := defScope (met 78 0)) (by decide +kernel))
        (fun _ _ _ _ _ => pg_name (i := 14) sc780.nd rfl (Or.inl rfl)) (fun _ _ _ _ _ => pts_nil) (fun _ _ _ _ _ => pe_tup (pa_cons (pe_lenO T GL cF hr2 (pe_dget hu (pv 4) (pv 14) (fun _ _ => rfl))) (pa_cons (pv 14) pa_nil))))) pa_nil)))
      (C8.pss_cut (ps_at cT T.t_numbers (pv 0) (pe_dc (own := [("at", 15), ("pair", 13)]) (g := gTup K 2 (gCons (gName 15) (gCons (gName 13) gNil))) (tt := tYes) (by rfl) sc780.nd (pi_enum (by rfl) T.enu (pa_cons (pv 8) pa_nil)) (blkOk_by (N := N780) (sc := defScope (met 78 0)) (by decide +kernel))
        (fun _ _ _ _ _ => pg_tup rfl (pgs_cons (pg_name (i := 15) sc780.nd rfl (Or.inl rfl)) (pgs_cons (pg_name (i := 13) sc780.nd rfl (Or.inl rfl)) pgs_nil))) (fun _ _ _ _ _ => pts_nil) (fun _ _ _ _ _ => pe_ix (r := rIxT K) ix_tup (pv 13) pe_int (fun _ _ => rfl)) (fun _ _ _ _ _ => pv 15)))
      (C8.pss_cut (ps_at cT T.t_letter_names (pv 0) (pe_b cr_sortedS T.srt boot_sorted (pa_cons (pe_lock (pe_lc (own := [("text", 14)]) (g := gName 14) (tt := tTest (tOp rEq (tCB (rLenO Z.F (spLen Z.F) E0) (tCons (tDGet (tVar 4) (tVar 14)) tNil)) (tC (.int 0)))) (by rfl) sc780.nd (pi_keys (pv 4)) (blkOk_by (N := N780) (sc := defScope (met 78 0)) (by decide +kernel))
        (fun _ _ _ _ _ => pg_name (i := 14) sc780.nd rfl (Or.inl rfl)) (fun _ _ _ _ _ => pts_one (pt_cmpR op_eq (pe_lenO T GL cF hr2 (pe_dget hu (pv 4) (pv 14) (fun _ _ => rfl))) pe_int (nomark _))) (fun _ _ _ _ _ => pv 14))) pa_nil)))
      (C8.pss_cut (ps_setLc (i := 9) (own := [("pair", 13)]) (g := gName 13) (by rfl) sc780.nd rfl rfl (sw_true rfl rfl rfl (by decide +kernel)) (pi_list (pv 8)) (blkOk_by (N := N780) (sc := defScope (met 78 0)) (by decide +kernel)) (fun _ _ _ _ _ => pg_name (i := 13) sc780.nd rfl (Or.inl rfl))
        (fun _ _ _ _ _ => pts_one (pt_cmpR op_gt (pe_ix (r := rIxT K) ix_tup (pv 13) pe_int (fun _ _ => rfl)) pe_int (nomark _))) (fun _ _ _ _ _ => pe_dget hu (pv 4) (pe_ix (r := rIxT K) ix_tup (pv 13) pe_int (fun _ _ => rfl)) (fun _ _ => rfl)))
      (C8.pss_cut (ps_at cT T.t_closing (pv 0) (pe_c1 G760 hr2 pass0 (pa_cons (pv 1) (pa_cons (pe_b call_len T.len PySem.boot_len (pa_cons (pv 8) pa_nil)) (pa_cons (pe_lc (own := [("one", 10)]) (g := gName 10) (tt := tYes) (by rfl) sc780.nd (pi_list (pv 9)) (blkOk_by (N := N780) (sc := defScope (met 78 0)) (by decide +kernel))
        (fun _ _ _ _ _ => pg_name (i := 10) sc780.nd rfl (Or.inl rfl)) (fun _ _ _ _ _ => pts_nil) (fun _ _ _ _ _ => pe_g G77 hr pass0 (pa_cons (pv 10) (pa_cons (pe_at cT T.t_numbers (pv 0)) pa_nil)))) pa_nil)))))
      (C8.pss_cut (ps_for PassesOwn.never rfl (pi_tup (pv 3)) (pg_tup rfl (pgs_cons (pg_name (i := 10) sc780.nd rfl (Or.inl rfl)) (pgs_cons (pg_name (i := 11) sc780.nd rfl (Or.inl rfl)) pgs_nil)))
        (pss_one (ps_expr (pe_m G763 cL hr2 pass0 (pe_at cT T.t_closing (pv 0)) (pa_cons (pe_m G781 cT hr pass0 (pv 0) (pa_cons (pv 10) pa_nil)) (pa_cons (pe_m G781 cT hr pass0 (pv 0) (pa_cons (pv 11) pa_nil)) pa_nil))))))
      (pss_one (ps_expr (pe_m0 G764 cL hr pass0 (pe_at cT T.t_closing (pv 0))))))))))))), ?_⟩
    obtain ⟨hph, hcov⟩ : (∀ fa ∈ fas, Phi ls fas (.m fa.1 fa.2.1) ∧ Phi ls fas (.l fa.2.2)) ∧ ∀ n ∈ ls, Phi ls fas (.l n) := ⟨fun fa hf => ⟨⟨fa, hf, rfl, rfl⟩, .inr ⟨fa, hf, by simp [tri]⟩⟩, fun n hn => .inl hn⟩
    have yl : ys.length = fas.length := Paired.length hys
    have xl : xs.length = ls.length := Paired.length hxs
    have pll := po.ll
    have pfl := po.fl
    intro dp hdp
    have S0 := Same.new (o := .dK []) hdp
    have hd0 : upd H dp (.dK []) dp = some (.dK []) := upd_same
    generalize upd H dp (.dK []) = H1 at S0 hd0 ⊢
    refine ⟨fun σ' H' => (∃ x6 x7 x8 x9 x10 x11 x12 x13 x14 x15 sl vs2, σ' = [some (.ref p), some (.ref pk), some (.ref lf), some (.ref tf), some (.ref dp), some (.ref sl), x6, x7, x8, x9, x10, x11, x12, x13, x14, x15] ∧ Same H H' ∧ H' dp = some (.dK []) ∧ H' sl = some (.lst vs2) ∧ vs2.length ≤ 8 ∧
      (∀ x ∈ vs2, ∃ q g, x = .ref q ∧ Phi ls fas g ∧ FmAt Z.F H q g) ∧ ∀ fa ∈ fas, (∃ q, .ref q ∈ vs2 ∧ FmAt Z.F H q (.m fa.1 fa.2.1)) ∧ ∃ q, .ref q ∈ vs2 ∧ FmAt Z.F H q (.l fa.2.2)), ?_, ?_⟩
    · refine ⟨_, rfl, tf, rfl, ⟨_, S0.tup htf⟩, fun L hL => ?_⟩
      have hL0 := S0.free hL
      refine cc_it walk_tup (fun i H' => Same H1 H' ∧ ∃ acc, H' L = some (.lst acc) ∧ acc.length = 2 * i ∧ (∀ x ∈ acc, ∃ q g, x = .ref q ∧ Phi ls fas g ∧ FmAt Z.F H q g) ∧ ∀ a fa, a < i → fas[a]? = some fa → (∃ q, V.ref q ∈ acc ∧ FmAt Z.F H q (.m fa.1 fa.2.1)) ∧ ∃ q, V.ref q ∈ acc ∧ FmAt Z.F H q (.l fa.2.2))
        ⟨.new hL, [], upd_same, rfl, (fun x hx => absurd hx List.not_mem_nil), fun a fa h => absurd h (Nat.not_lt_zero _)⟩ (fun i H' _ h => (S0.trans h.1).tup htf) ?_ ?_
      · rintro i x _ H2 hi ⟨S2, acc, hac, hal, ha1, ha2⟩ ⟨rfl, ex⟩
        obtain ⟨fa, ef, qq, pa, pb, rfl, hq, hpa, hpb⟩ := paired_at hys ex
        have hf := List.mem_of_getElem? ef
        refine ⟨rfl, _, rfl, qq, rfl, ⟨_, (S0.trans S2).tup hq⟩, ?_⟩
        refine cc_it walk_tup (fun j H' => Same H1 H' ∧ H' L = some (.lst (acc ++ ([V.ref pa, V.ref pb]).take j))) ⟨S2, by simpa using hac⟩ (fun j H' _ h => (S0.trans h.1).tup hq) ?_ ?_
        · rintro j y _ H3 hj ⟨S3, hac3⟩ ⟨rfl, ey⟩
          refine ⟨rfl, _, rfl, _, hac3, small1000 (by simp at hj ⊢; omega), S3.at hL, ?_⟩
          rw [upd_same, map_snoc ey, List.append_assoc]
        · rintro H3 ⟨S3, hac3⟩
          have hac3 : H3 L = some (.lst (acc ++ [V.ref pa, V.ref pb])) := hac3
          refine ⟨S3, _, hac3, by simp; omega, fun x hx => ?_, fun a fb ha' eb => ?_⟩
          · rcases List.mem_append.mp hx with h | h
            · exact ha1 x h
            · simp only [List.mem_cons, List.not_mem_nil, or_false] at h
              rcases h with rfl | rfl
              · exact ⟨pa, _, rfl, (hph fa hf).1, hpa⟩
              · exact ⟨pb, _, rfl, (hph fa hf).2, hpb⟩
          · by_cases h : a < i
            · obtain ⟨⟨q1, m1, z1⟩, q2, m2, z2⟩ := ha2 a fb h eb
              exact ⟨⟨q1, List.mem_append_left _ m1, z1⟩, q2, List.mem_append_left _ m2, z2⟩
            · have : a = i := by omega
              subst this
              rw [ef] at eb
              cases eb
              exact ⟨⟨pa, List.mem_append_right _ (by simp), hpa⟩, pb, List.mem_append_right _ (by simp), hpb⟩
      · rintro H2 ⟨S2, acc, hac, hal, ha1, ha2⟩
        refine ⟨_, _, _, _, _, _, _, _, _, _, L, acc, rfl, S0.trans S2, S2 _ _ hd0, hac, by omega, ha1, fun fa hf => ?_⟩
        obtain ⟨a, ea⟩ := List.mem_iff_getElem?.mp hf
        exact ha2 a fa (by have := (List.getElem?_eq_some_iff.mp ea).1; omega) ea
    · rintro σ' H2 ⟨x6, x7, x8, x9, x10, x11, x12, x13, x14, x15, sl, vs2, rfl, S2, hd2, hsl, v8, hv1, hv2⟩
      have hvs : ∀ x ∈ xs ++ vs2, ∃ q g, x = .ref q ∧ Phi ls fas g ∧ FmAt Z.F H q g := fun x hx => by
        rcases List.mem_append.mp hx with h | h
        · obtain ⟨i, ei⟩ := List.mem_iff_getElem?.mp h
          obtain ⟨n, en, q, rfl, hq⟩ := paired_at hxs ei
          exact ⟨q, .l n, rfl, hcov n (List.mem_of_getElem? en), hq⟩
        · exact hv1 x h
      have hall : ∀ g, Phi ls fas g → ∃ g0 q, V.ref q ∈ xs ++ vs2 ∧ FmAt Z.F H q g0 ∧ Phi ls fas g0 ∧ g ∈ fmParts g0 := fun g hg => by
        cases g with
        | l n =>
          rcases hg with hn | ⟨fa, hf, hn⟩
          · obtain ⟨i, ei⟩ := List.mem_iff_getElem?.mp hn
            obtain ⟨x, ex, q, rfl, hq⟩ := paired_back hxs ei
            exact ⟨.l n, q, List.mem_append_left _ (List.mem_of_getElem? ex), hq, hcov n hn, by simp [fmParts]⟩
          · obtain ⟨⟨q1, m1, z1⟩, q2, m2, z2⟩ := hv2 fa hf
            simp only [tri, List.mem_cons, List.not_mem_nil, or_false] at hn
            rcases hn with rfl | rfl | rfl
            · exact ⟨_, q1, List.mem_append_right _ m1, z1, (hph fa hf).1, by simp [fmParts]⟩
            · exact ⟨_, q1, List.mem_append_right _ m1, z1, (hph fa hf).1, by simp [fmParts]⟩
            · exact ⟨_, q2, List.mem_append_right _ m2, z2, (hph fa hf).2, by simp [fmParts]⟩
        | m a b =>
          obtain ⟨fa, hf, rfl, rfl⟩ := hg
          obtain ⟨⟨q1, m1, z1⟩, _⟩ := hv2 fa hf
          exact ⟨_, q1, List.mem_append_right _ m1, z1, (hph fa hf).1, by simp [fmParts]⟩
      have kpD : ∀ {Ha Hb : Hp} {kv : List (Key × V)}, But dp Ha Hb → Ha dp = some (.dK kv) → Kp Ha Hb := fun {Ha Hb kv} B h => ⟨fun b xs e => B _ _ e (ne_of e h (by intro z; cases z)), fun b C dx x fs e => B _ _ e (ne_of e h (by intro z; cases z))⟩
      refine ⟨fun σ' H' => (∃ x5 x6 x7 x8 x9 x10 x11 x12 x13 x14 x15 kvp, σ' = [some (.ref p), some (.ref pk), some (.ref lf), some (.ref tf), some (.ref dp), x5, x6, x7, x8, x9, x10, x11, x12, x13, x14, x15] ∧ Same H H' ∧ H' dp = some (.dK kvp) ∧ PartsOk Z (Phi ls fas) H' kvp), ?_, ?_⟩
      · refine ⟨_, rfl, lf, xs, rfl, .inl (.inl (.inl (S2 _ _ hlf))), fun l1 hl1 => ?_⟩
        have SN1 := Same.new (o := .lst xs) hl1
        refine ⟨_, rfl, l1, sl, xs, vs2, rfl, rfl, upd_same, SN1 _ _ hsl, line1000 (by omega), fun l2 hl2 => ?_⟩
        have SN2 := SN1.trans (Same.new (o := .lst (xs ++ vs2)) hl2)
        have hl2' : upd (upd H2 l1 (.lst xs)) l2 (.lst (xs ++ vs2)) l2 = some (.lst (xs ++ vs2)) := upd_same
        have hd3 := SN2 _ _ hd2
        have S3 := S2.trans SN2
        generalize upd (upd H2 l1 (.lst xs)) l2 (.lst (xs ++ vs2)) = H3 at SN2 hl2' hd3 S3 ⊢
        have n2d : l2 ≠ dp := ne_of hl2' hd3 (by intro z; cases z)
        refine ⟨l2, rfl, ⟨_, .inl (.inl hl2')⟩, for_it walk_list (fun i σ H' => (∃ x5 x6 x7 x8 x9 x10 x11 x12 x13 x14 x15, σ = [some (.ref p), some (.ref pk), some (.ref lf), some (.ref tf), some (.ref dp), x5, x6, x7, x8, x9, x10, x11, x12, x13, x14, x15]) ∧ But dp H3 H' ∧ ∃ kvp, H' dp = some (.dK kvp) ∧ (kvp.map (·.1)).Nodup ∧ kvp.length ≤ 3 * i ∧
            (∀ k v, valV kvp k = some v → ∃ q g, k = .inr g.text ∧ v = .ref q ∧ Phi ls fas g ∧ FmAt Z.F H' q g) ∧ ∀ j q g0, j < i → (xs ++ vs2)[j]? = some (.ref q) → FmAt Z.F H q g0 → Phi ls fas g0 → ∀ g' ∈ fmParts g0, (valV kvp (.inr g'.text)).isSome = true)
          ⟨⟨_, _, _, _, _, _, _, _, _, _, _, rfl⟩, .refl dp H3, [], hd3, List.nodup_nil, Nat.zero_le _, (fun k v e => nomatch e), fun j q g0 h => absurd h (Nat.not_lt_zero _)⟩ (fun i σ H' _ h => .inl (.inl (h.2.1 _ _ hl2' n2d))) ?_ ?_⟩
        · rintro i x σ _ H4 hi ⟨⟨x5, x6, x7, x8, x9, x10, x11, x12, x13, x14, x15, rfl⟩, B4, kvp, hd4, hnd4, hl4, hv4, ha4⟩ ⟨rfl, ex⟩
          obtain ⟨qx, g0, rfl, hg0, hq0⟩ := hvs x (List.mem_of_getElem? ex)
          have K04 : Kp H H4 := S3.kp.trans (kpD B4 hd3)
          have hq4 := hq0.kp K04
          obtain ⟨dxq, _, _, _, _, _, eq4, _⟩ := hq4.look
          refine ⟨_, rfl, qx, dxq, _, rfl, eq4, qx, g0, rfl, hq4, fun H5 t ps S5 ht hpl hcv => ⟨t, rfl, ⟨_, ht⟩, ?_⟩⟩
          have hd5 := S5 _ _ hd4
          have B5 := B4.trans S5.but
          refine for_it walk_tup (fun j σ H' => (∃ x5 x6 x7 x8 x9 x10 x11 x12 x13 x14 x15, σ = [some (.ref p), some (.ref pk), some (.ref lf), some (.ref tf), some (.ref dp), x5, x6, x7, x8, x9, x10, x11, x12, x13, x14, x15]) ∧ But dp H5 H' ∧ ∃ kv', H' dp = some (.dK kv') ∧ (kv'.map (·.1)).Nodup ∧ kv'.length ≤ 3 * i + j ∧
              (∀ k v, valV kv' k = some v → ∃ q g, k = .inr g.text ∧ v = .ref q ∧ Phi ls fas g ∧ FmAt Z.F H' q g) ∧ (∀ k, (valV kvp k).isSome = true → (valV kv' k).isSome = true) ∧ ∀ a q g', a < j → ps[a]? = some (.ref q) → FmAt Z.F H5 q g' → (valV kv' (.inr g'.text)).isSome = true)
            ⟨⟨_, _, _, _, _, _, _, _, _, _, _, rfl⟩, .refl dp H5, kvp, hd5, hnd4, hl4, fun k v e => let ⟨q, g, a, b, c, d⟩ := hv4 k v e; ⟨q, g, a, b, c, d.kp S5.kp⟩, fun k e => e, fun a q g' h => absurd h (Nat.not_lt_zero _)⟩ (fun j σ H' _ h => h.2.1.seqT (fun o e => by rw [hd5] at e; cases e; exact id) ht) ?_ ?_
          · rintro j y σ _ H6 hj ⟨⟨x5, x6, x7, x8, x9, x10, x11, x12, x13, x14, x15, rfl⟩, B6, kv', hd6, hnd6, hl6, hv6, ho6, ha6⟩ ⟨rfl, ey⟩
            obtain ⟨q', g', rfl, hg', hq'⟩ := hcv.1 y (List.mem_of_getElem? ey)
            have hq6 := hq'.kp (kpD B6 hd5)
            have hph' := phi_parts hg0 hg'
            obtain ⟨dxq', _, _, _, _, _, eq6, _⟩ := hq6.look
            have KU : Kp H6 (upd H6 dp (.dK (putK kv' (.inr g'.text) (.ref q')))) := kp_dK hd6
            refine ⟨_, rfl, _, rfl, _, rfl, q', dxq', _, rfl, eq6, q', g', rfl, hq6, Fm.text_le (po.good hph').short, g'.text, rfl, dp, _, rfl, DPut.k (k := .inr g'.text) hd6 (small1000 (by rw [List.length_append] at hi; omega)), ⟨_, _, _, _, _, _, _, _, _, _, _, rfl⟩, B6.trans (.upd dp _ _), _, upd_same, nd_put _ _ _ hnd6, ?_, fun k v e => ?_, fun k e => ?_, fun a q2 g2 ha2 ea2 hq2 => ?_⟩
            · have := length_putK kv' (.inr g'.text) (.ref q')
              omega
            · rw [valV_put] at e
              split at e
              · rename_i ek
                cases e
                exact ⟨q', g', ek, rfl, hph', hq6.kp KU⟩
              · obtain ⟨q, g, a, b, c, d⟩ := hv6 k v e
                exact ⟨q, g, a, b, c, d.kp KU⟩
            · rw [valV_put]
              split
              · rfl
              · exact ho6 k e
            · rw [valV_put]
              split
              · rfl
              · rename_i nk
                by_cases h : a < j
                · exact ha6 a q2 g2 h ea2 hq2
                · have : a = j := by omega
                  subst this
                  rw [ey] at ea2
                  cases ea2
                  exact absurd (congrArg Sum.inr (hq2.text_eq hq')) nk
          · rintro σ H6 ⟨hσ, B6, kv', hd6, hnd6, hl6, hv6, ho6, ha6⟩
            refine ⟨hσ, B5.trans B6, kv', hd6, hnd6, by omega, hv6, fun j q g1 hj' ej' hq1 hp1 g' hg' => ?_⟩
            by_cases h : j < i
            · exact ho6 _ (ha4 j q g1 h ej' hq1 hp1 g' hg')
            · have : j = i := by omega
              subst this
              rw [ex] at ej'
              cases ej'
              have hge : g1 = g0 := text_inj (po.good hp1) (po.good hg0) (hq1.text_eq hq0)
              subst hge
              obtain ⟨q', hm, hq'⟩ := hcv.2 g' hg'
              obtain ⟨a, ea⟩ := List.mem_iff_getElem?.mp hm
              exact ha6 a q' g' (List.getElem?_eq_some_iff.mp ea).1 ea hq'
        · rintro σ H4 ⟨⟨x5, x6, x7, x8, x9, x10, x11, x12, x13, x14, x15, rfl⟩, B4, kvp, hd4, hnd4, hl4, hv4, ha4⟩
          refine ⟨_, _, _, _, _, _, _, _, _, _, _, kvp, rfl, fun b o e => B4 _ _ (S3 _ _ e) (ne_of_none e hdp), hd4, hnd4, by rw [List.length_append] at hl4; omega, hv4, fun g hg => ?_⟩
          obtain ⟨g0, qq, hm, hq, hgq, hgp⟩ := hall g hg
          obtain ⟨j, ej⟩ := List.mem_iff_getElem?.mp hm
          exact ha4 j qq g0 (List.getElem?_eq_some_iff.mp ej).1 ej hq hgq g hgp
      · rintro σ' H3 ⟨x5, x6, x7, x8, x9, x10, x11, x12, x13, x14, x15, kvp, rfl, S3, hd3, hP3⟩
        have hvk : ∀ {i : Nat} {kv : V} {kk : Key}, kvp[i]? = some (kk, kv) → ∃ q g, kk = .inr g.text ∧ kv = .ref q ∧ Phi ls fas g ∧ FmAt Z.F H3 q g ∧ valV kvp (.inr g.text) = some (.ref q) := fun {i kv kk} ek => by
          have hv := val_nodup hP3.nd (kk, kv) (List.mem_of_getElem? ek)
          obtain ⟨q, g, e1, e2, e3, e4⟩ := hP3.val kk kv hv
          subst e1
          subst e2
          exact ⟨q, g, rfl, rfl, e3, e4, hv⟩
        have hk60 := hP3.ln
        refine ⟨fun σ' H' => (∃ x5 x6 x7 x9 x10 x11 x12 x13 x14 x15 tx ws, σ' = [some (.ref p), some (.ref pk), some (.ref lf), some (.ref tf), some (.ref dp), x5, x6, x7, some (.ref tx), x9, x10, x11, x12, x13, x14, x15] ∧ Same H H' ∧ H' dp = some (.dK kvp) ∧ PartsOk Z (Phi ls fas) H' kvp ∧ H' tx = some (.lst ws) ∧ PairsAt K H' ws (sbOf kvp)), ?_, ?_⟩
        · refine ⟨dp, .dK kvp, hd3, trivial, fun od => ⟨_, rfl, dp, od, rfl, .inl ⟨kvp, upd_same, fun L hL => ?_⟩⟩⟩
          have nLD : L ≠ dp := fun e => by rw [e, upd_same] at hL; cases hL
          have hL3 : H3 L = none := by rwa [upd_ne nLD] at hL
          refine cc_it walk_keys (fun i H' => But dp H3 H' ∧ H' dp = some (.frz od (.dK kvp)) ∧ ∃ acc, H' L = some (.lst acc) ∧ acc.length = i ∧ PairsAt K H' acc ((kvp.take i).map fun kv => (sgl (ktx kv.1), ktx kv.1)))
            ⟨fun b o e n => by rw [upd_ne (ne_of_none e hL3), upd_ne n]; exact e, by rw [upd_ne nLD.symm, upd_same], [], upd_same, rfl, .nil⟩ (fun i H' _ h => h.2.1) ?_ ?_
          · rintro i x _ H4 hi ⟨B4, hfz, acc, hLa, hal, hpa⟩ ⟨rfl, kk, v, ek, rfl⟩
            obtain ⟨q', g, rfl, rfl, hg, hq, hv⟩ := hvk ek
            have hq4 := hq.kp (kpD B4 hd3)
            obtain ⟨dx', _, _, _, _, sl', e1, e2⟩ := hq4.look
            have hgl : (g.sg.length : Int) = sgl g.text := sgl_good (po.good hg)
            have hl1 : g.sg.length ≤ 1 := by cases g <;> simp [Fm.sg]
            refine ⟨rfl, _, rfl, _, rfl, dp, _, rfl, .inl ⟨kvp, .inr g.text, .inr ⟨od, hfz⟩, rfl, hv.symm⟩, q', dx', _, rfl, e1, q', g, rfl, hq4, _, rfl, ⟨by omega, by omega⟩, _, rfl, line1000 (by simp), fun tp htp => ?_⟩
            have nT : L ≠ tp := fun e => by rw [← e, hLa] at htp; cases htp
            have nTd : dp ≠ tp := fun e => by rw [← e, hfz] at htp; cases htp
            refine ⟨acc, by rw [upd_ne nT]; exact hLa, small1000 (by omega), fun b o e n => ?_, by rw [upd_ne nLD.symm, upd_ne nTd]; exact hfz, _, upd_same, by simp [hal], ?_⟩
            · rw [upd_ne (ne_of_none e hL3)]
              exact (Same.new htp) _ _ (B4 _ _ e n)
            · have nL : ∀ o, upd H4 tp (.tup [.int g.sg.length, kV (.inr g.text)]) L = some o → ¬ TupO o := lst_noT (xs := acc) (by rw [upd_ne nT]; exact hLa)
              have e7 : kvp.take (i + 1) = kvp.take i ++ [(.inr g.text, .ref q')] := map_snoc ek
              rw [e7, List.map_append]
              refine pairs_snoc ⟨tp, rfl, .inl (.inl ?_)⟩ (pairs_of (fun t ys h => tup_upd nL ((Same.new htp).tup h)) hpa)
              rw [upd_ne nT.symm, upd_same, hgl]
              rfl
          · rintro H4 ⟨B4, hfz, acc, hLa, hal, hpa⟩
            rw [List.take_length] at hpa
            refine ⟨hfz, L, acc, _, rfl, .inl (.inl (by rw [upd_ne nLD]; exact hLa)), pairs_of (fun t ys h => tup_upd (fun o e => by rw [hfz] at e; cases e; exact id) h) hpa, fun ws tx hws htx => ?_⟩
            have SX := Same.new (o := .lst ws) htx
            have ntd : dp ≠ tx := ne_of_none upd_same htx
            have B5 : But dp H3 (upd (upd H4 dp (.dK kvp)) tx (.lst ws)) := fun b o e n => SX _ _ (by rw [upd_ne n]; exact B4 _ _ e n)
            exact ⟨_, _, _, _, _, _, _, _, _, _, tx, ws, rfl, fun b o e => B5 _ _ (S3 _ _ e) (ne_of_none e hdp), SX _ _ upd_same, hP3.kp (kpD B5 hd3), upd_same, pairs_of (fun t ys h => SX.tup h) hws⟩
        · rintro σ' H4 ⟨y5, y6, y7, y9, y10, y11, y12, y13, y14, y15, tx, ws, rfl, S4, hd4, hP4, htx, hws⟩
          have hsb : SbOk (Phi ls fas) (sbOf kvp) := sb_ok po hP4
          have wl : ws.length = (sbOf kvp).length := Paired.length hws
          have sbl : (sbOf kvp).length = kvp.length := by unfold sbOf; rw [List.length_mergeSort, List.length_map]
          -- numbers
          refine ⟨fun σ' H' => (∃ x5 x6 x7 x9 x10 x11 x12 x13 x14 x15 dn kvn, σ' = [some (.ref p), some (.ref pk), some (.ref lf), some (.ref tf), some (.ref dp), x5, x6, x7, some (.ref tx), x9, x10, x11, x12, x13, x14, x15] ∧ But p H4 H' ∧ H' p = some (.ins Z.T dx (putF "numbers" (.ref dn) [])) ∧ H' dn = some (.dK kvn) ∧ NumsOk (sbOf kvp) kvn (sbOf kvp).length), ?_, ?_⟩
          · refine ⟨_, rfl, tx, ws, rfl, .inl (.inl htx), fun Dn hDn => ?_⟩
            refine cc_it walk_enum (fun i H' => Same H4 H' ∧ ∃ kvn, H' Dn = some (.dK kvn) ∧ kvn.length ≤ i ∧ NumsOk (sbOf kvp) kvn i) ⟨.new hDn, [], upd_same, Nat.zero_le _, fun t v => ⟨fun e => (nomatch e), fun ⟨j, s, h, _⟩ => absurd h (Nat.not_lt_zero _)⟩⟩ (fun i H' _ h => .inl (.inl (h.1 _ _ htx))) ?_ ?_
            · rintro i v H5 H6 hi ⟨S5, kvn, hk5, hl5, hn5⟩ ⟨T0, a1, a2, rfl, hT, rfl, e1, e2⟩
              cases e1
              have e2 : ws[i]? = some a2 := e2
              obtain ⟨b, eb, tb, rfl, htb⟩ := pairs_at hws e2
              have SN := Same.new (o := .tup [.int (i : Nat), .ref tb]) hT
              refine ⟨T0, _, rfl, .inl (.inl upd_same), rfl, _, _, rfl, _, _, rfl, rfl, rfl, _, rfl, tb, _, _, _, rfl, rfl, SN.tup (S5.tup htb), atI_nat (j := 1) rfl, _, rfl, kvn, .inr b.2, rfl, SN _ _ hk5, small1000 (by omega), (S5.trans SN).at hDn, _, upd_same, ?_, fun t v => ?_⟩
              · have := length_putK kvn (.inr b.2) (.int (i : Nat))
                omega
              · rw [valV_put]
                by_cases ht : (Sum.inr t : Key) = .inr b.2
                · rw [if_pos ht]
                  injection ht with ht
                  subst ht
                  constructor
                  · intro e
                    cases e
                    exact ⟨i, b.1, Nat.lt_succ_self i, eb, rfl⟩
                  · rintro ⟨j, s', hj, ej, rfl⟩
                    have : j = i := nd_ix hsb.nd (by rw [List.getElem?_map, ej]; rfl) (by rw [List.getElem?_map, eb]; rfl)
                    rw [this]
                · rw [if_neg ht, hn5]
                  constructor
                  · rintro ⟨j, s', hj, ej, rfl⟩
                    exact ⟨j, s', Nat.lt_succ_of_lt hj, ej, rfl⟩
                  · rintro ⟨j, s', hj, ej, rfl⟩
                    refine ⟨j, s', ?_, ej, rfl⟩
                    by_cases hji : j = i
                    · subst hji
                      rw [eb] at ej
                      cases ej
                      exact absurd rfl ht
                    · omega
            · rintro H5 ⟨S5, kvn, hk5, hl5, hn5⟩
              have hp5 := S5 _ _ (S4 _ _ hp)
              have nDp : Dn ≠ p := ne_of hk5 hp5 (by intro z; cases z)
              exact ⟨_, rfl, p, dx, _, rfl, hp5, (by decide), _, _, _, _, _, _, _, _, _, _, Dn, kvn, rfl, S5.but.trans (.upd p _ _), upd_same, by rw [upd_ne nDp]; exact hk5, by rw [← wl]; exact hn5⟩
          · rintro σ' H5 ⟨z5, z6, z7, z9, z10, z11, z12, z13, z14, z15, dn, kvn, rfl, B5, hp5, hdn5, hN⟩
            have hp4 : H4 p = some (.ins Z.T dx []) := S4 _ _ hp
            have ndp : dp ≠ p := ne_of hd4 hp4 (by intro z; cases z)
            have ntx : tx ≠ p := ne_of htx hp4 (by intro z; cases z)
            have hnoT : ∀ o, H4 p = some o → ¬ TupO o := fun o e => by rw [hp4] at e; cases e; exact id
            have hd5 := B5 _ _ hd4 ndp
            have htx5 := B5 _ _ htx ntx
            have hP5 : PartsOk Z (Phi ls fas) H5 kvp := hP4.kp (B5.kp hp4)
            have hws5 : PairsAt K H5 ws (sbOf kvp) := pairs_of (fun t ys h => B5.seqT hnoT h) hws
            have BH5 : But p H H5 := S4.but.trans B5
            have hvk5 : ∀ {i : Nat} {kv : V} {kk : Key}, kvp[i]? = some (kk, kv) → ∃ q g, kk = .inr g.text ∧ kv = .ref q ∧ Phi ls fas g ∧ FmAt Z.F H5 q g ∧ valV kvp (.inr g.text) = some (.ref q) := fun {i kv kk} ek => by
              have hv := val_nodup hP5.nd (kk, kv) (List.mem_of_getElem? ek)
              obtain ⟨q, g, e1, e2, e3, e4⟩ := hP5.val kk kv hv
              subst e1
              subst e2
              exact ⟨q, g, rfl, rfl, e3, e4, hv⟩
            -- letter names
            refine ⟨fun σ' H' => (∃ x5 x6 x7 x9 x10 x11 x12 x13 x14 x15 vl, σ' = [some (.ref p), some (.ref pk), some (.ref lf), some (.ref tf), some (.ref dp), x5, x6, x7, some (.ref tx), x9, x10, x11, x12, x13, x14, x15] ∧ But p H5 H' ∧ H' p = some (.ins Z.T dx (putF "letter_names" vl (putF "numbers" (.ref dn) [])))), ?_, ?_⟩
            · refine ⟨dp, .dK kvp, hd5, trivial, fun od => ⟨_, rfl, dp, od, rfl, .inl ⟨kvp, upd_same, fun L hL => ?_⟩⟩⟩
              have nLD : L ≠ dp := fun e => by rw [e, upd_same] at hL; cases hL
              have hL5 : H5 L = none := by rwa [upd_ne nLD] at hL
              refine cc_it walk_keys (fun i H' => But dp H5 H' ∧ H' dp = some (.frz od (.dK kvp)) ∧ ∃ ss : List Str, H' L = some (.lst (ss.map V.str)) ∧ ss.length ≤ i)
                ⟨fun b o e n => by rw [upd_ne (ne_of_none e hL5), upd_ne n]; exact e, by rw [upd_ne nLD.symm, upd_same], [], upd_same, Nat.zero_le _⟩ (fun i H' _ h => h.2.1) ?_ ?_
              · rintro i x _ H6 hi ⟨B6, hfz, ss, hLa, hal⟩ ⟨rfl, kk, v, ek, rfl⟩
                obtain ⟨q', g, rfl, rfl, hg, hq, hv⟩ := hvk5 ek
                have hq6 := hq.kp (kpD B6 hd5)
                obtain ⟨dx', _, _, _, _, sl', e1, e2⟩ := hq6.look
                have hl1 : g.sg.length ≤ 1 := by cases g <;> simp [Fm.sg]
                refine ⟨rfl, _, rfl, _, rfl, dp, _, rfl, .inl ⟨kvp, .inr g.text, .inr ⟨od, hfz⟩, rfl, hv.symm⟩, q', dx', _, rfl, e1, q', g, rfl, hq6, _, rfl, ⟨by omega, by omega⟩, rfl, _, rfl, ?_⟩
                by_cases hz : V.int (g.sg.length : Nat) = V.int 0
                · refine iteD hz ⟨_, rfl, _, hLa, small1000 (by rw [List.length_map]; omega), fun b o e n => ?_, by rw [upd_ne nLD.symm]; exact hfz, ss ++ [g.text], by rw [upd_same, List.map_append]; rfl, by simp; omega⟩
                  rw [upd_ne (ne_of_none e hL5)]
                  exact B6 _ _ e n
                · exact iteDN hz ⟨B6, hfz, ss, hLa, by omega⟩
              · rintro H6 ⟨B6, hfz, ss, hLa, hal⟩
                refine ⟨hfz, L, ss, rfl, .inl (.inl (by rw [upd_ne nLD]; exact hLa)), by omega, fun ys' M _ _ hM => ?_⟩
                have SM := Same.new (o := .lst (ys'.map V.str)) hM
                have B7 : Same H5 (upd (upd H6 dp (.dK kvp)) M (.lst (ys'.map V.str))) := fun b o e => by
                  refine SM _ _ ?_
                  by_cases hb : b = dp
                  · rw [hb, upd_same]
                    rw [hb, hd5] at e
                    exact e
                  · rw [upd_ne hb]
                    exact B6 _ _ e hb
                exact ⟨_, rfl, p, dx, _, rfl, B7 _ _ hp5, (lt1000 (by kernel_rfl)), _, _, _, _, _, _, _, _, _, _, .ref M, rfl, B7.but.trans (.upd p _ _), upd_same⟩
            · rintro σ' H6 ⟨z5, z6, z7, z9, z10, z11, z12, z13, z14, z15, vl, rfl, B6, hp6⟩
              have ndn : dn ≠ p := ne_of hdn5 hp5 (by intro z; cases z)
              have hnoT5 : ∀ o, H5 p = some o → ¬ TupO o := fun o e => by rw [hp5] at e; cases e; exact id
              have BH6 : But p H H6 := BH5.trans B6
              have B46 : But p H4 H6 := B5.trans B6
              have hd6 := B6 _ _ hd5 ndp
              have htx6 := B6 _ _ htx5 ntx
              have hdn6 := B6 _ _ hdn5 ndn
              have hP6 : PartsOk Z (Phi ls fas) H6 kvp := hP4.kp (B46.kp hp4)
              have hws6 : PairsAt K H6 ws (sbOf kvp) := pairs_of (fun t ys h => B46.seqT hnoT h) hws
              -- operations
              refine ⟨fun σ' H' => (∃ x5 x6 x7 x10 x11 x12 x13 x14 x15 lo acc og, σ' = [some (.ref p), some (.ref pk), some (.ref lf), some (.ref tf), some (.ref dp), x5, x6, x7, some (.ref tx), some (.ref lo), x10, x11, x12, x13, x14, x15] ∧ Same H6 H' ∧ H' lo = some (.lst acc) ∧ Paired (fun x (ab : Str × Str) => ∃ q, x = V.ref q ∧ FmAt Z.F H6 q (.m ab.1 ab.2)) acc og ∧ acc.length ≤ 60 ∧
                  (∀ x ∈ og, ∃ fa ∈ fas, fa.1 = x.1 ∧ fa.2.1 = x.2) ∧ ∀ fa ∈ fas, (fa.1, fa.2.1) ∈ og), ?_, ?_⟩
              · refine ⟨_, rfl, tx, rfl, ⟨_, .inl (.inl htx6)⟩, fun L hL => ?_⟩
                refine cc_it walk_list (fun i H' => Same H6 H' ∧ ∃ acc og, H' L = some (.lst acc) ∧ Paired (fun x (ab : Str × Str) => ∃ q, x = V.ref q ∧ FmAt Z.F H6 q (.m ab.1 ab.2)) acc og ∧ acc.length ≤ i ∧ (∀ x ∈ og, ∃ fa ∈ fas, fa.1 = x.1 ∧ fa.2.1 = x.2) ∧
                    ∀ (j : Nat) (b : Int × Str), j < i → (sbOf kvp)[j]? = some b → ∀ fa ∈ fas, mtext fa.1 fa.2.1 = b.2 → (fa.1, fa.2.1) ∈ og) ⟨.new hL, [], [], upd_same, .nil, Nat.zero_le _, (fun x h => absurd h List.not_mem_nil), fun j b h => absurd h (Nat.not_lt_zero _)⟩ (fun i H' _ h => .inl (.inl (h.1 _ _ htx6))) ?_ ?_
                · rintro i y _ H7 hi ⟨S7, acc, og, hac, hpa, hal, hog, hcv⟩ ⟨rfl, ey⟩
                  obtain ⟨b, eb, tb, rfl, htb⟩ := pairs_at hws6 ey
                  obtain ⟨g, hg, etx, elen⟩ := hsb.mem b.1 b.2 (List.mem_of_getElem? eb)
                  refine ⟨rfl, _, rfl, tb, _, _, _, rfl, rfl, S7.tup htb, atI_nat (j := 0) rfl, _, _, rfl, rfl, _, rfl, ?_⟩
                  cases g with
                  | l n =>
                    have h0 : b.1 = 0 := elen
                    refine iteDN (by omega) ⟨S7, acc, og, hac, hpa, by omega, hog, fun j b' hj eb' fa hf em => ?_⟩
                    by_cases hji : j < i
                    · exact hcv j b' hji eb' fa hf em
                    · have : j = i := by omega
                      subst this
                      rw [eb] at eb'
                      cases eb'
                      have := text_inj (g := .m fa.1 fa.2.1) (g' := .l n) (po.good (hph fa hf).1) (po.good hg) (by rw [← etx]; exact em)
                      cases this
                  | m a a' =>
                    have h1 : b.1 = 1 := elen
                    obtain ⟨v, hv⟩ := Option.isSome_iff_exists.mp (hP6.all _ hg)
                    obtain ⟨qq, g', e1, rfl, hg', hq'⟩ := hP6.val _ v hv
                    have hgg : g' = .m a a' := (text_inj (po.good hg) (po.good hg') (Sum.inr.inj e1)).symm
                    subst hgg
                    refine iteD (by omega) ⟨_, rfl, _, rfl, tb, _, _, _, rfl, rfl, S7.tup htb, atI_nat (j := 1) rfl, dp, _, rfl, .inl ⟨kvp, .inr b.2, .inl (S7 _ _ hd6), rfl, by rw [etx]; exact hv.symm⟩, acc, hac, small1000 (by omega), S7.at hL, acc ++ [.ref qq], og ++ [(a, a')], upd_same, paired_snoc ⟨qq, rfl, hq'⟩ hpa, by simp; omega, fun x hx => ?_, fun j b' hj eb' fa hf em => ?_⟩
                    · rcases List.mem_append.mp hx with h | h
                      · exact hog x h
                      · rw [List.mem_singleton.mp h]
                        exact hg
                    · by_cases hji : j < i
                      · exact List.mem_append_left _ (hcv j b' hji eb' fa hf em)
                      · have : j = i := by omega
                        subst this
                        rw [eb] at eb'
                        cases eb'
                        have := text_inj (g := .m fa.1 fa.2.1) (g' := .m a a') (po.good (hph fa hf).1) (po.good hg) (by rw [← etx]; exact em)
                        injection this with z1 z2
                        rw [z1, z2]
                        exact List.mem_append_right _ (List.mem_singleton.mpr rfl)
                · rintro H7 ⟨S7, acc, og, hac, hpa, hal, hog, hcv⟩
                  refine ⟨_, _, _, _, _, _, _, _, _, L, acc, og, rfl, S7, hac, hpa, by omega, hog, fun fa hf => ?_⟩
                  obtain ⟨j, ej⟩ := List.mem_iff_getElem?.mp (hsb.all _ (hph fa hf).1)
                  exact hcv j _ (by have := (List.getElem?_eq_some_iff.mp ej).1; omega) ej fa hf rfl
              · rintro σ' H7 ⟨u5, u6, u7, u10, u11, u12, u13, u14, u15, lo, acc, og, rfl, S7, hlo, hpa, hal, hog1, hog2⟩
                have hp7 := S7 _ _ hp6
                have hdn7 := S7 _ _ hdn6
                have hmn : ∀ x ∈ og, ∃ i j m : Nat, Rl kvn x.1 i ∧ Rl kvn x.2 j ∧ Rl kvn (mtext x.1 x.2) m ∧ x.1.length ≤ 8 ∧ x.2.length ≤ 8 := fun x hx => by
                  obtain ⟨fa, hf, e1, e2⟩ := hog1 x hx
                  have g1 : Phi ls fas (.l x.1) := .inr ⟨fa, hf, by rw [← e1]; simp [tri]⟩
                  have g2 : Phi ls fas (.l x.2) := .inr ⟨fa, hf, by rw [← e2]; simp [tri]⟩
                  have g3 : Phi ls fas (.m x.1 x.2) := ⟨fa, hf, e1, e2⟩
                  obtain ⟨i, hi, _⟩ := num_of hsb hN g1
                  obtain ⟨j, hj, _⟩ := num_of hsb hN g2
                  obtain ⟨m, hm, _⟩ := num_of hsb hN g3
                  exact ⟨i, j, m, hi, hj, hm, (po.good g1).short, (po.good g2).short⟩
                have htx7 := S7 _ _ htx6
                have BH7 : But p H H7 := BH6.trans S7.but
                -- closing
                refine ⟨fun σ' H' => (∃ x5 x6 x7 x8 x9 x10 x11 x12 x13 x14 x15 pc pa ops, σ' = [some (.ref p), some (.ref pk), some (.ref lf), some (.ref tf), some (.ref dp), x5, x6, x7, x8, x9, x10, x11, x12, x13, x14, x15] ∧ But p H H' ∧ H' p = some (.ins Z.T dx (tfs (.ref dn) vl (.ref pc))) ∧ H' dn = some (.dK kvn) ∧ H pa = none ∧ LAt Z K H' pc k c ops pa (List.range (sbOf kvp).length) ∧
                    Paired (fun (x : Str × Str) (o : T3 Nat) => Rl kvn x.1 o.1 ∧ Rl kvn x.2 o.2.1 ∧ Rl kvn (mtext x.1 x.2) o.2.2) og ops ∧ ops.length ≤ 60), ?_, ?_⟩
                · refine ⟨_, rfl, _, rfl, _, ws.length, rfl, .inl ⟨ws, .inl (.inl htx7), rfl⟩, _, rfl, lo, rfl, ⟨_, .inl (.inl hlo)⟩, fun L hL => ?_⟩
                  refine cc_it walk_list (fun i H' => Same H7 H' ∧ ∃ ac ops, H' L = some (.lst ac) ∧ ac.length = i ∧ Paired (TupN K H') ac ops ∧ Paired (fun (x : Str × Str) (o : T3 Nat) => Rl kvn x.1 o.1 ∧ Rl kvn x.2 o.2.1 ∧ Rl kvn (mtext x.1 x.2) o.2.2) (og.take i) ops) ⟨.new hL, [], [], upd_same, rfl, .nil, .nil⟩ (fun i H' _ h => .inl (.inl (h.1 _ _ hlo))) ?_ ?_
                  · rintro i y _ H8 hi ⟨S8, ac, ops, hac, hil, hpo, hro⟩ ⟨rfl, ey⟩
                    obtain ⟨x, ex, qq, rfl, hq⟩ := paired_at hpa ey
                    obtain ⟨a1, a2, a3, r1, r2, r3, l1, l2⟩ := hmn x (List.mem_of_getElem? ex)
                    refine ⟨rfl, _, rfl, _, rfl, p, dx, _, _, rfl, S8 _ _ hp7, (by kernel_rfl), qq, dn, x.1, x.2, kvn, .int (a1 : Nat), .int (a2 : Nat), .int (a3 : Nat), rfl, hq.kp ((S7.trans S8).kp), l1, l2, S8 _ _ hdn7, r1, r2, r3, fun r hr' => ?_⟩
                    have SN := Same.new (o := .tup [.int (a1 : Nat), .int (a2 : Nat), .int (a3 : Nat)]) hr'
                    have hac' := SN _ _ hac
                    have hno := lst_noT hac'
                    refine ⟨ac, hac', small1000 (by omega), (S8.trans SN).at hL, ac ++ [.ref r], ops ++ [(a1, a2, a3)], upd_same, by simp [hil], ?_, ?_⟩
                    · exact paired_snoc ⟨r, rfl, tup_upd hno (.inl (.inl upd_same))⟩ (paired_imp (fun _ _ ⟨b, e, q⟩ => ⟨b, e, tup_upd hno (SN.tup q)⟩) hpo)
                    · rw [map_snoc ex]
                      exact paired_snoc ⟨r1, r2, r3⟩ hro
                  · rintro H8 ⟨S8, ac, ops, hac, hil, hpo, hro⟩
                    have ogl : acc.length = og.length := Paired.length hpa
                    rw [ogl, List.take_length] at hro
                    have ol : ac.length = ops.length := Paired.length hpo
                    intro x dx' hx hdx' _
                    have SM : Same H8 (upd (upd H8 dx' (.own x)) x (.ins Z.L dx' [])) := fun b o e => by rw [upd_ne (ne_of_none e hx), upd_ne (ne_of_none e hdx')]; exact e
                    have hkx : KindAt Z.K (upd (upd H8 dx' (.own x)) x (.ins Z.L dx' [])) pk k.1 c := (hk.kp (BH7.kp hp)).kp ((S8.trans SM).kp)
                    refine ⟨x, dx', pk, L, ws.length, k, c, ac, ops, rfl, upd_same, hkx, SM _ _ hac, paired_imp (fun _ _ ⟨b, e, q⟩ => ⟨b, e, SM.tup q⟩) hpo, by omega, fun H9 pa B9 hpan hLn => ⟨rfl, ?_⟩⟩
                    have S79 : Same H7 H9 := S8.trans (Same.made hx hdx' B9)
                    have hp9 := S79 _ _ hp7
                    have nxp : x ≠ p := fun e => by rw [e, S8 _ _ hp7] at hx; cases hx
                    have hpa0 : H pa = none := by
                      cases e : H pa with
                      | none => rfl
                      | some o =>
                        have npap : pa ≠ p ∨ pa = p := (Classical.em (pa = p)).symm
                        rcases npap with npap | npap
                        · rw [SM _ _ (S8 _ _ (BH7 _ _ e npap))] at hpan
                          cases hpan
                        · rw [npap, SM _ _ (S8 _ _ hp7)] at hpan
                          cases hpan
                    refine ⟨_, rfl, p, dx, _, rfl, hp9, (lt1000 (by kernel_rfl)), ?_⟩
                    rw [tfs_put]
                    have BP : But p H9 (upd H9 p (.ins Z.T dx (tfs (.ref dn) vl (.ref x)))) := .upd p _ _
                    have hnoT9 : ∀ o, H9 p = some o → ¬ TupO o := fun o e => by rw [hp9] at e; cases e; exact id
                    obtain ⟨dxc, pkc, poc, nc, ptc, xsc, g1, ⟨dk, g2⟩, g3, g4, g5, g6⟩ := hLn
                    have npkc : pkc ≠ p := fun e => by
                      rw [e, hp9] at g2
                      injection g2 with g2
                      injection g2 with _ _ g2
                      exact nums_ne (.ref dn) (.ref dn) _ _ _ g2
                    refine ⟨_, _, _, _, _, _, _, _, _, _, _, x, pa, ops, rfl, (BH7.trans S79.but).trans BP, upd_same, BP _ _ (S79 _ _ hdn7) (ne_of (S79 _ _ hdn7) hp9 (by intro z; cases z)), hpa0, ⟨dxc, pkc, poc, nc, ptc, xsc, BP _ _ g1 nxp, ⟨dk, BP _ _ g2 npkc⟩, BP _ _ g3 (ne_of g3 hp9 (by intro z; cases z)), paired_imp (fun _ _ q => q.but BP hnoT9) g4, ?_, g6⟩, hro, by omega⟩
                    rw [← wl]
                    exact BP _ _ g5 (ne_of g5 hp9 (by intro z; cases z))
                · rintro σ' H8 ⟨u5, u6, u7, u8, u9, u10, u11, u12, u13, u14, u15, pc, pa, ops, rfl, B8, hp8, hdn8, hpa0, hL8, hro, ol⟩
                  have napp : pa ≠ p := fun e => by rw [e, hp] at hpa0; cases hpa0
                  have ndnpa : dn ≠ pa := by
                    obtain ⟨_, _, _, _, _, _, _, _, _, _, g5, _⟩ := hL8
                    exact ne_of hdn8 g5 (by intro z; cases z)
                  -- merging
                  refine ⟨fun σ' H' => (∃ x5 x6 x7 x8 x9 x10 x11 x12 x13 x14 x15 ab, σ' = [some (.ref p), some (.ref pk), some (.ref lf), some (.ref tf), some (.ref dp), x5, x6, x7, x8, x9, x10, x11, x12, x13, x14, x15] ∧ But p H H' ∧ H' p = some (.ins Z.T dx (tfs (.ref dn) vl (.ref pc))) ∧ H' dn = some (.dK kvn) ∧ LAt Z K H' pc k c ops pa ab ∧ MS ls fas (sbOf kvp) kvn ab fas), ?_, ?_⟩
                  · have hnoTp : ∀ o, H p = some o → ¬ TupO o := fun o e => by rw [hp] at e; cases e; exact id
                    refine ⟨_, rfl, tf, rfl, ⟨_, B8.seqT hnoTp htf⟩, for_it walk_tup (fun i σ H' => (∃ x5 x6 x7 x8 x9 x10 x11 x12 x13 x14 x15, σ = [some (.ref p), some (.ref pk), some (.ref lf), some (.ref tf), some (.ref dp), x5, x6, x7, x8, x9, x10, x11, x12, x13, x14, x15]) ∧ But p H H' ∧ H' p = some (.ins Z.T dx (tfs (.ref dn) vl (.ref pc))) ∧ H' dn = some (.dK kvn) ∧ ∃ ab, LAt Z K H' pc k c ops pa ab ∧ MS ls fas (sbOf kvp) kvn ab (fas.take i))
                      ⟨⟨_, _, _, _, _, _, _, _, _, _, _, rfl⟩, B8, hp8, hdn8, _, hL8, ms_start hsb hN⟩ (fun i σ H' _ h => h.2.1.seqT hnoTp htf) ?_ ?_⟩
                    · rintro i x σ _ H9 hi ⟨⟨x5, x6, x7, x8, x9, x10, x11, x12, x13, x14, x15, rfl⟩, B9, hp9, hdn9, ab, hL9, hM⟩ ⟨rfl, ex⟩
                      obtain ⟨fa, ef, qq, qa, qb, rfl, hq, hqa, hqb⟩ := paired_at hys ex
                      have hf := List.mem_of_getElem? ef
                      have KB := B9.kp hp
                      obtain ⟨im, jc, a, r1, r2, e1, e2, e3, hM'⟩ := ms_step hkl hnc po hsb hN hM hf
                      obtain ⟨dxc, pkc, poc, nc, ptc, xsc, g1, g2⟩ := id hL9
                      obtain ⟨_, _, _, g5, _⟩ := g2
                      refine ⟨qq, _, rfl, B9.seqT hnoTp hq, rfl, _, _, rfl, _, _, rfl, rfl, ?_⟩
                      refine ⟨_, rfl, p, dx, _, _, rfl, hp9, tfs_closing .., pc, dxc, _, rfl, g1, lfs_no_merge .., _, rfl, p, dx, _, rfl, hp9, tfs_no_number .., _, rfl, p, dx, qa, dn, _, .m fa.1 fa.2.1, kvn, .int (im : Nat), rfl, hp9, tfs_numbers .., hqa.kp KB, (po.good (hph fa hf).1).short, hdn9, r1,
                        _, rfl, p, dx, _, rfl, hp9, tfs_no_number .., _, rfl, p, dx, qb, dn, _, .l fa.2.2, kvn, .int (jc : Nat), rfl, hp9, tfs_numbers .., LetAt.kp hqb KB, (po.good (hph fa hf).2).short, hdn9, r2, pc, dxc, pa, im, jc, a, jc, _, _, _, _, ab, rfl, g1, g5, e1, e2, e3, e3, ?_⟩
                      refine ⟨⟨_, _, _, _, _, _, _, _, _, _, _, rfl⟩, fun b o e n => by rw [upd_ne (ne_of_none e hpa0)]; exact B9 _ _ e n, by rw [upd_ne napp.symm]; exact hp9, by rw [upd_ne ndnpa]; exact hdn9, _, hL9.setA, ?_⟩
                      rw [map_snoc ef]
                      exact hM'
                    · rintro σ H9 ⟨⟨x5, x6, x7, x8, x9, x10, x11, x12, x13, x14, x15, rfl⟩, B9, hp9, hdn9, ab, hL9, hM⟩
                      rw [yl, List.take_length] at hM
                      exact ⟨_, _, _, _, _, _, _, _, _, _, _, ab, rfl, B9, hp9, hdn9, hL9, hM⟩
                  · rintro σ' H9 ⟨v5, v6, v7, v8, v9, v10, v11, v12, v13, v14, v15, ab, rfl, B9, hp9, hdn9, hL9, hM⟩
                    obtain ⟨hab, holt, hnum⟩ := ms_end hkl hnc po hsb hN hM hro hog1 hog2
                    obtain ⟨dxc, pkc, poc, nc, ptc, xsc, g1, g2⟩ := id hL9
                    refine ⟨_, rfl, p, dx, _, _, rfl, hp9, tfs_closing .., pc, dxc, _, rfl, g1, lfs_no_close .., pc, pa, k, c, ops, ab, rfl, hL9, hab, holt, hkl, by omega, ?_, fun H10 S10 => ?_⟩
                    · refine hnc.rel (R := fun x l => Rl kvn l x) (fun x y y' h h' => hnum.inj _ _ _ h h') (fun x x' y h h' => rl_fun h h') fun t ht => ?_
                      obtain ⟨o, ho, rfl⟩ := List.mem_map.mp ht
                      obtain ⟨fa, hf, r⟩ := hnum.ops1 o ho
                      exact ⟨fa, hf, r⟩
                    · exact q H10 (B9.trans S10.but) ⟨dx, dn, vl, pc, pa, kvn, ab, ops, S10 _ _ hp9, S10 _ _ hdn9, hL9.same S10, hab, holt, ol, hnum⟩
theorem g780 (T : Txt K mg Z) (GS : ODef P w K mg base 1 Z.F "__str__" ["self"] (spStr Z.F)) (GL : ODef P w K mg base 1 Z.F "__len__" ["self"] (spLen Z.F)) (G403 : PDef P w K mg base CX0 3 Z.F "parts" (spParts K Z.F)) (G77 : GDef P w K mg base CX0 4 "triple_of" ["operation", "numbers"] [] (spTri Z))
    (G760 : CDef P w K mg base CX0 1 Z.L "Closing" PLI [] (spLI Z K)) (G763 : MDef P w K mg base CX0 2 Z.L "merge" N763 [] (spMerge Z)) (G764 : MDef P w K mg base CX0 4 Z.L "close" ["self"] [] (spClose Z K)) (G781 : MDef P w K mg base CX0 4 Z.T "number" ["self", "formula"] [] (spNum Z))
    (G : CTxt K mg Z.T "Table" "Table.__init__" (met 78 0) [] []) : CDef P w K mg base CX0 5 Z.T "Table" ["self", "kind", "formulas", "facts"] [] (spTI Z K) := by
  obtain ⟨f, fd, F, M, hm⟩ := G
  exact ⟨f, fd, [], ok780 T GS GL G403 G77 G760 G763 G764 G781 F, F.bindsN fun _ _ _ _ _ _ us hl => match us, hl with | [_, _, _, _], _ => rfl, .nil, M, hm⟩
end
end K85
/-! K85F5: check_formulas, check_facts. -/
namespace K85
open PySem PySem.Spec PyProof.Rows L2
def InsAt (C : Addr) (H : Hp) (x : V) : Prop := ∃ p dx fs, x = .ref p ∧ H p = some (.ins C dx fs)
theorem InsAt.same {C : Addr} {H H' : Hp} {x : V} (h : InsAt C H x) (S : Same H H') : InsAt C H' x := by
  obtain ⟨p, dx, fs, e, h⟩ := h
  exact ⟨p, dx, fs, e, S _ _ h⟩
section
variable {P : Program} {w : World} {K : PySem.W.Frag} {mg : Str → Option Value} {base : Heap} {Z : Cs} {f : Addr} {fd : FuncData}
abbrev N49 : List Str := ["value", "least", "index", "formula"]
theorem sc49 : FnScope N49 ["value", "least"] (defScope (top 49)) := ⟨rfl, rfl, rfl, by decide +kernel, rfl, by decide +kernel, by decide +kernel⟩
def spForms (K : PySem.W.Frag) (C : Addr) : Sp := fun vs H Q _ => ∃ (t : Addr) (xs : List V), vs = [.ref t, .int 0] ∧ SqT K H t xs ∧ xs.length ≤ 6 ∧ (∀ x ∈ xs, InsAt C H x) ∧ ∀ H', Same H H' → Q .non H'
theorem ok49 (T : Txt K mg Z) {dvs : List V} (F : TF K "check_formulas" "check_formulas" (top 49) dvs [] f fd) : FnOk P w K mg base CX0 1 f fd ["value", "least"] (spForms K Z.F) := by
  refine F.ok sc49 (fun vs H Q E h => ?_) (fun cdv A outer s H vs Q E hr h => ?_)
  · obtain ⟨_, _, rfl, _⟩ := h
    rfl
  · obtain ⟨t, xs, rfl, ht, hl, hx, q⟩ := h
    refine ⟨_, PSs.nox <| pss_cons (ps_if (PW.pt (pw_or (pt_not (pt_val (pe_isT T T.tup boot_tuple (pv 0)))) (pw_or1 (pt_cmpR op_lt (pe_b call_len T.len PySem.boot_len (pa_cons (pv 0) pa_nil)) (pv 1) (nomark _))))) pss_never pss_nil)
      (pss_one (ps_for PassesOwn.never rfl (pi_enumT T.enu (pa_cons (pv 0) pa_nil)) (pg_tup rfl (pgs_cons (pg_name (i := 2) sc49.nd rfl (Or.inl rfl)) (pgs_cons (pg_name (i := 3) sc49.nd rfl (Or.inl rfl)) pgs_nil)))
        (pss_one (ps_if (PW.pt (pw_or (pt_cmpR op_eq (pv 2) (C8.pe_gc (by rfl) T.mFORMS) (nomark _)) (pw_or1 (pt_not (pt_val (pe_isC T T.gF T.iF (pv 3))))))) pss_never pss_nil)))), ?_⟩
    refine ⟨_, rfl, _, _, _, _, true, rfl, .ty _, ty_tup ht, kit_ty (by decide +kernel), true, rfl, iteF ⟨_, rfl, _, _, rfl, .inr ⟨_, ht, rfl⟩, _, rfl, _, _, rfl, rfl, _, rfl, iteDN (by omega) ?_⟩⟩
    refine ⟨_, rfl, t, _, rfl, ht, for_it walk_enumT (fun i σ H' => (∃ x y, σ = [some (.ref t), some (.int 0), x, y]) ∧ Same H H') ⟨⟨_, _, rfl⟩, .refl H⟩ (fun i σ H' _ h => h.2.tup ht) ?_ ?_⟩
    · rintro i x σ H1 H2 hi ⟨⟨x0, y0, rfl⟩, S⟩ ⟨T0, a1, a2, rfl, hT, rfl, e1, e2⟩
      cases e1
      have e2 : xs[i]? = some a2 := e2
      have S1 := S.trans (Same.new (o := .tup [.int (i : Nat), a2]) hT)
      obtain ⟨p, dx, fs, rfl, hp⟩ := (hx a2 (List.mem_of_getElem? e2)).same S1
      refine ⟨T0, _, rfl, .inl (.inl upd_same), rfl, _, _, rfl, _, _, rfl, rfl, ?_⟩
      refine ⟨_, rfl, rfl, _, rfl, iteDN (fun z => ?_) ⟨_, rfl, p, dx, fs, rfl, hp, true, rfl, iteF ⟨⟨_, _, rfl⟩, S1⟩⟩⟩
      injection z with z
      omega
    · rintro σ' H' ⟨_, S⟩
      exact q H' S
theorem g49 (T : Txt K mg Z) (G : GTxt K mg "check_formulas" (top 49) [.int 0] []) : GDef P w K mg base CX0 1 "check_formulas" ["value", "least"] [.int 0] (spForms K Z.F) := by
  obtain ⟨f, fd, F, hm⟩ := G
  obtain ⟨d1, v1, b1⟩ := F.binds1 (ps := ["value", "least"]) 1 0 (by simp) (by rfl) fun TT _ _ _ _ _ _ us its l1 l2 => match us, its, l1, l2 with | [_], [_], _, _ => ⟨_, rfl, rfl⟩
  exact ⟨f, fd, d1, ok49 T F, b1, v1, hm, F.kp⟩
abbrev N50 : List Str := ["value", "index", "pair", "side"]
theorem sc50 : FnScope N50 ["value"] (defScope (top 50)) := ⟨rfl, rfl, rfl, by decide +kernel, rfl, by decide +kernel, by decide +kernel⟩
def spFacts (K : PySem.W.Frag) (C : Addr) : Sp := fun vs H Q _ => ∃ (t : Addr) (xs : List V), vs = [.ref t] ∧ SqT K H t xs ∧ xs.length ≤ 4 ∧ (∀ x ∈ xs, ∃ q a b, x = .ref q ∧ SqT K H q [a, b] ∧ InsAt C H a ∧ InsAt C H b) ∧ ∀ H', Same H H' → Q .non H'
theorem ok50 (T : Txt K mg Z) (G36 : GDef P w K mg base CX0 1 "is_row" ["value", "length"] [] (spRow K)) (F : TF K "check_facts" "check_facts" (top 50) [] [] f fd) : FnOk P w K mg base CX0 2 f fd ["value"] (spFacts K Z.F) := by
  refine F.ok sc50 (fun vs H Q E h => ?_) (fun cdv A outer s H vs Q E hr h => ?_)
  · obtain ⟨_, _, rfl, _⟩ := h
    rfl
  · obtain ⟨t, xs, rfl, ht, hl, hx, q⟩ := h
    refine ⟨_, PSs.nox <| pss_cons (ps_if (pt_not (pt_val (pe_isT T T.tup boot_tuple (pv 0)))) pss_never pss_nil)
      (pss_one (ps_for PassesOwn.never rfl (pi_enumT T.enu (pa_cons (pv 0) pa_nil)) (pg_tup rfl (pgs_cons (pg_name (i := 1) sc50.nd rfl (Or.inl rfl)) (pgs_cons (pg_name (i := 2) sc50.nd rfl (Or.inl rfl)) pgs_nil)))
        (pss_one (ps_if (PW.pt (pw_or (pt_cmpR op_eq (pv 1) (C8.pe_gc (by rfl) T.mFACTS) (nomark _)) (pw_or (pt_not (pt_val (pe_g G36 hr pass0 (pa_cons (pv 2) (pa_cons pe_int pa_nil)))))
          (pw_or1 (pt_not (pt_val (pe_b (cr_all rfl) T.all (by decide +kernel) (pa_cons (pe_lc (own := [("side", 3)]) (g := gName 3) (tt := tYes) (by rfl) sc50.nd (pi_tup (pv 2)) (blkOk_by (N := N50) (sc := defScope (top 50)) (by decide +kernel))
            (fun _ _ _ _ _ => pg_name (i := 3) sc50.nd rfl (Or.inl rfl)) (fun _ _ _ _ _ => pts_nil) (fun _ _ _ _ _ => pe_isC T T.gF T.iF (pv 3))) pa_nil)))))))) pss_never pss_nil)))), ?_⟩
    refine ⟨_, rfl, _, _, _, _, true, rfl, .ty _, ty_tup ht, kit_ty (by decide +kernel), true, rfl, iteF ?_⟩
    refine ⟨_, rfl, t, _, rfl, ht, for_it walk_enumT (fun i σ H' => (∃ x y z, σ = [some (.ref t), x, y, z]) ∧ Same H H') ⟨⟨_, _, _, rfl⟩, .refl H⟩ (fun i σ H' _ h => h.2.tup ht) ?_ ?_⟩
    · rintro i x σ H1 H2 hi ⟨⟨x0, y0, z0, rfl⟩, S⟩ ⟨T0, a1, a2, rfl, hT, rfl, e1, e2⟩
      cases e1
      have e2 : xs[i]? = some a2 := e2
      have S1 := S.trans (Same.new (o := .tup [.int (i : Nat), a2]) hT)
      obtain ⟨p, a, b, rfl, hp, ha, hb⟩ := hx a2 (List.mem_of_getElem? e2)
      have hp1 := S1.tup hp
      refine ⟨T0, _, rfl, .inl (.inl upd_same), rfl, _, _, rfl, _, _, rfl, rfl, ?_⟩
      refine ⟨_, rfl, rfl, _, rfl, iteDN (fun z => by injection z with z; omega) ⟨_, rfl, p, _, 2, rfl, hp1, rfl, true, rfl, iteF ⟨_, rfl, p, rfl, ⟨_, hp1⟩, fun D hD => ?_⟩⟩⟩
      generalize upd H1 T0 (.tup [.int (i : Nat), .ref p]) = H2 at S1 hp1 hD ⊢
      refine cc_it walk_tup (fun i H' => Same H2 H' ∧ H' D = some (.lst ((List.replicate i true).map V.bl))) ⟨.new hD, upd_same⟩ (fun i H' _ h => h.1.tup hp1) ?_ ?_
      · rintro j x _ H3 hj ⟨S3, e⟩ ⟨rfl, ex⟩
        have hxi : InsAt Z.F H3 x := by
          have := List.mem_of_getElem? ex
          simp only [List.mem_cons, List.not_mem_nil, or_false] at this
          rcases this with rfl | rfl
          · exact (ha.same S1).same S3
          · exact (hb.same S1).same S3
        obtain ⟨p2, dx, fs, rfl, hp2⟩ := hxi
        refine ⟨rfl, _, rfl, p2, dx, fs, rfl, hp2, _, e, small1000 (by simp at hj ⊢; omega), S3.at hD, ?_⟩
        rw [upd_same, List.replicate_succ', List.map_append]
        rfl
      · rintro H3 ⟨S3, e⟩
        refine ⟨D, _, rfl, .inl (.inl e), ?_⟩
        rw [show ∀ n, (List.replicate n true).all id = true from fun n => by simp]
        exact ⟨true, rfl, iteF ⟨⟨_, _, _, rfl⟩, S1.trans S3⟩⟩
    · rintro σ' H' ⟨_, S⟩
      exact q H' S
theorem g50 (T : Txt K mg Z) (G36 : GDef P w K mg base CX0 1 "is_row" ["value", "length"] [] (spRow K)) (G : GTxt K mg "check_facts" (top 50) [] []) : GDef P w K mg base CX0 2 "check_facts" ["value"] [] (spFacts K Z.F) :=
  gdef G (fun _ _ _ _ _ _ us hl => match us, hl with | [_], _ => rfl) fun f fd F => ok50 T G36 F
end
end K85
/-! K85P: Kept, kept_for, tells. -/
namespace K85
open PySem PySem.Spec PyProof.Rows L2
/-- x is a letter's object -/
def LetA (Z : Cs) (H : Hp) (x : V) (n : Str) : Prop := ∃ q, x = V.ref q ∧ LetAt Z.F H q n
theorem LetA.kp {Z : Cs} {H H' : Hp} {x : V} {n : Str} (h : LetA Z H x n) (S : Kp H H') : LetA Z H' x n := by
  obtain ⟨q, e, h⟩ := h
  exact ⟨q, e, h.kp S⟩
/-- an object Kept -/
def KeptAt (Z : Cs) (K : PySem.W.Frag) (H : Hp) (p : Addr) (k : Str × List (T3 Nat)) (c : Bool) (ks : List Str) (wn : Str) (fas : List (T3 Str)) : Prop := ∃ dx pt d v dxt dn vl pc pa kvn ab ops kvs is, H p = some (.ins Z.P dx (pfs (.ref pt) (.ref d) v)) ∧ H pt = some (.ins Z.T dxt (tfs (.ref dn) vl (.ref pc))) ∧ H dn = some (.dK kvn) ∧
  LAt Z K H pc k c ops pa ab ∧ Ab ab ∧ NumP (ks ++ [wn]) fas kvn ab ops ∧ H d = some (.dK kvs) ∧ Paired (Rl kvn) ks is ∧ ∀ x : Nat, knN kvs x = true ↔ Got (ops.map (rt ab)) (is.map (rof ab)) x
theorem got_num {ks : List Str} {wn : Str} {fas : List (T3 Str)} {kvn : List (Key × V)} {ab is : List Nat} {ops : List (T3 Nat)} (hN : NumP (ks ++ [wn]) fas kvn ab ops) (hi : Paired (Rl kvn) ks is) {x : Nat} (hx : Rl kvn wn x) : Got (ops.map (rt ab)) (is.map (rof ab)) x ↔ Got fas ks wn := by
  have root : ∀ l ∈ ks, ∀ i, Rl kvn l i → rof ab i = i := fun l hl i h => by
    obtain ⟨j, hj, _, e⟩ := hN.lett l (.inl (List.mem_append_left _ hl))
    rw [rl_fun h hj]
    exact e
  constructor
  · intro g
    refine g.rel (R := fun x l => Rl kvn l x) (U := fas) (C := ks) (fun x y y' h h' => hN.inj _ _ _ h h') (fun t ht => ?_) (fun x hx => ?_) wn hx
    · obtain ⟨o, ho, rfl⟩ := List.mem_map.mp ht
      obtain ⟨fa, hf, r⟩ := hN.ops1 o ho
      exact ⟨fa, hf, r⟩
    · obtain ⟨i, hi', rfl⟩ := List.mem_map.mp hx
      obtain ⟨a, ea⟩ := List.mem_iff_getElem?.mp hi'
      obtain ⟨l, el, r⟩ := paired_back hi ea
      have hl := List.mem_of_getElem? el
      exact ⟨l, hl, by rw [root l hl i r]; exact r⟩
  · intro g
    refine g.rel (R := Rl kvn) (fun x y y' h h' => rl_fun h h') (fun fa hf => ?_) (fun l hl => ?_) x hx
    · obtain ⟨o, ho, r⟩ := hN.ops2 fa hf
      exact ⟨rt ab o, List.mem_map.mpr ⟨o, ho, rfl⟩, r⟩
    · obtain ⟨a, ea⟩ := List.mem_iff_getElem?.mp hl
      obtain ⟨i, ei, r⟩ := paired_at hi ea
      exact ⟨i, List.mem_map.mpr ⟨i, List.mem_of_getElem? ei, root l hl i r⟩, r⟩
section
variable {P : Program} {w : World} {K : PySem.W.Frag} {mg : Str → Option Value} {base : Heap} {Z : Cs} {f C : Addr} {fd : FuncData}
abbrev N800 : List Str := ["self", "kind", "facts", "kept", "asked", "formula"]
abbrev PPI : List Str := ["self", "kind", "facts", "kept", "asked"]
theorem sc800 : FnScope N800 PPI (defScope (met 80 0)) := ⟨rfl, rfl, rfl, by decide +kernel, rfl, by decide +kernel, by decide +kernel⟩
def spPI (Z : Cs) (K : PySem.W.Frag) : Sp := fun vs H Q _ => ∃ (p dx pk tf tk ta qw : Addr) (k : Str × List (T3 Nat)) (c : Bool) (xs ys : List V) (ks : List Str) (wn : Str) (fas : List (T3 Str)), vs = [.ref p, .ref pk, .ref tf, .ref tk, .ref ta] ∧ H p = some (.ins Z.P dx []) ∧ KindAt Z.K H pk k.1 c ∧ k ∈ lots ∧
  SqT K H tf ys ∧ Paired (FactAt Z K H) ys fas ∧ SqT K H tk xs ∧ Paired (LetA Z H) xs ks ∧ SqT K H ta [.ref qw] ∧ LetAt Z.F H qw wn ∧ PhiOk (ks ++ [wn]) fas ∧ NC k.2 c fas ∧ ∀ H', But p H H' → KeptAt Z K H' p k c ks wn fas → Q .non H'
theorem ok800 (T : Txt K mg Z) (G780 : CDef P w K mg base CX0 5 Z.T "Table" ["self", "kind", "formulas", "facts"] [] (spTI Z K)) (G781 : MDef P w K mg base CX0 4 Z.T "number" ["self", "formula"] [] (spNum Z)) (G766 : MDef P w K mg base CX0 2 Z.L "got" ["self", "things"] [] (spGotL Z K))
    (F : TF K "__init__" "Kept.__init__" (met 80 0) [] [] f fd) : FnOk P w K mg base CX0 7 f fd PPI (spPI Z K) := by
  refine F.ok sc800 (fun vs H Q E h => ?_) (fun cdv A outer s H vs Q E hr h => ?_)
  · obtain ⟨_, _, _, _, _, _, _, _, _, _, _, _, _, _, rfl, _⟩ := h
    rfl
  · obtain ⟨p, dx, pk, tf, tk, ta, qw, k, c, xs, ys, ks, wn, fas, rfl, hp, hk, hkl, htf, hys, htk, hxs, hta, hqw, po, hnc, q⟩ := h
    have cT := T.cT
    have cL := T.cL
    have cP := T.cP
    have hr4 : Room 4 _ := hr.mono (by decide)
    have hr2 : Room 2 _ := hr.mono (by decide)
    refine ⟨_, PSs.nox <| pss_cons (ps_at cP T.p_table (pv 0) (pe_c1 G780 hr pass0 (pa_cons (pv 1) (pa_cons (pe_op op_cat (pe_callTy call_list_of (by rfl) T.lst boot_list (pa_cons (pv 3) pa_nil)) (pe_callTy call_list_of (by rfl) T.lst boot_list (pa_cons (pv 4) pa_nil))) (pa_cons (pv 2) pa_nil)))))
      (pss_one (ps_asg (pe_m G766 cL hr2 pass0 (pe_at cT T.t_closing (pe_at cP T.p_table (pv 0))) (pa_cons (pe_lc (own := [("formula", 5)]) (g := gName 5) (tt := tYes) (by rfl) sc800.nd (pi_tup (pv 3)) (blkOk_by (N := N800) (sc := defScope (met 80 0)) (by decide +kernel)) (fun _ _ _ _ _ => pg_name (i := 5) sc800.nd rfl (Or.inl rfl)) (fun _ _ _ _ _ => pts_nil)
          (fun _ _ _ _ _ => pe_m G781 cT hr4 pass0 (pe_at cP T.p_table (pv 0)) (pa_cons (pv 5) pa_nil))) pa_nil)) (pg_tup rfl (pgs_cons (pg_at cP T.p_known (pv 0)) (pgs_cons (pg_at cP T.p_steps (pv 0)) pgs_nil))))), ?_⟩
    have xl : xs.length = ks.length := Paired.length hxs
    have pl := po.ll
    rw [List.length_append] at pl
    have pl : ks.length + 1 ≤ 10 := pl
    refine ⟨_, rfl, _, rfl, tk, xs, rfl, .inr htk, fun l1 hl1 => ?_⟩
    have S1 := Same.new (o := .lst xs) hl1
    refine ⟨_, rfl, ta, _, rfl, .inr (S1.tup hta), fun l2 hl2 => ?_⟩
    have S2 := S1.trans (Same.new (o := .lst [.ref qw]) hl2)
    refine ⟨l1, l2, xs, _, rfl, rfl, (Same.new hl2) _ _ upd_same, upd_same, line1000 (by simp; omega), fun l3 hl3 => ?_⟩
    have S3 := S2.trans (Same.new (o := .lst (xs ++ [.ref qw])) hl3)
    have e3 : upd (upd (upd H l1 (.lst xs)) l2 (.lst [.ref qw])) l3 (.lst (xs ++ [.ref qw])) l3 = some (.lst (xs ++ [.ref qw])) := upd_same
    generalize upd (upd (upd H l1 (.lst xs)) l2 (.lst [.ref qw])) l3 (.lst (xs ++ [.ref qw])) = H3 at S3 e3 ⊢
    refine ⟨_, rfl, ?_⟩
    intro x dx' hx hdx' _
    have SM : Same H3 (upd (upd H3 dx' (.own x)) x (.ins Z.T dx' [])) := fun b o e => by rw [upd_ne (ne_of_none e hx), upd_ne (ne_of_none e hdx')]; exact e
    have SHM := S3.trans SM
    have fact_kp : ∀ {Ha Hb : Hp}, Same Ha Hb → ∀ {y : V} {fa : T3 Str}, FactAt Z K Ha y fa → FactAt Z K Hb y fa := fun {Ha Hb} S {y fa} ⟨qq, qa, qb, e, h1, h2, h3⟩ => ⟨qq, qa, qb, e, S.tup h1, h2.kp S.kp, h3.kp S.kp⟩
    refine ⟨x, dx', pk, l3, tf, k, c, xs ++ [.ref qw], ys, ks ++ [wn], fas, rfl, upd_same, hk.kp SHM.kp, hkl, SM _ _ e3, paired_snoc ⟨qw, rfl, hqw.kp SHM.kp⟩ (paired_imp (fun _ _ h => h.kp SHM.kp) hxs), SHM.tup htf, paired_imp (fun _ _ h => fact_kp SHM h) hys, po, hnc, fun H4 B4 hT4 => ⟨rfl, ?_⟩⟩
    have S4 : Same H H4 := S3.trans (Same.made hx hdx' B4)
    have hp4 := S4 _ _ hp
    obtain ⟨dxt, dn, vl, pc, pa, kvn, ab, ops, t1, t2, t3, hab, holt, opl, hnum⟩ := hT4
    have nxp : x ≠ p := fun e => by rw [e, S3 _ _ hp] at hx; cases hx
    refine ⟨_, rfl, p, dx, _, rfl, hp4, (by decide), ?_⟩
    have BP : But p H4 (upd H4 p (.ins Z.P dx (putF "table" (.ref x) []))) := .upd p _ _
    have KB : Kp H (upd H4 p (.ins Z.P dx (putF "table" (.ref x) []))) := (S4.but.trans BP).kp hp
    have B5 : But p H (upd H4 p (.ins Z.P dx (putF "table" (.ref x) []))) := S4.but.trans BP
    have hnoT : ∀ o, H p = some o → ¬ TupO o := fun o e => by rw [hp] at e; cases e; exact id
    have hnoT4 : ∀ o, H4 p = some o → ¬ TupO o := fun o e => by rw [hp4] at e; cases e; exact id
    have u1 := BP _ _ t1 nxp
    have u2 := BP _ _ t2 (ne_of t2 hp4 (by intro z; cases z))
    have u3 : LAt Z K (upd H4 p (.ins Z.P dx (putF "table" (.ref x) []))) pc k c ops pa ab := by
      obtain ⟨dxc, pkc, poc, nc, ptc, xsc, g1, g2, g3, g4, g5, g6⟩ := t3
      have K4 := BP.kp hp4
      exact ⟨dxc, pkc, poc, nc, ptc, xsc, K4.ins _ _ _ _ _ g1, g2.kp K4, K4.lst _ _ g3, paired_imp (fun _ _ q => q.but BP hnoT4) g4, K4.lst _ _ g5, g6⟩
    have p5 : upd H4 p (.ins Z.P dx (putF "table" (.ref x) [])) p = some (.ins Z.P dx (putF "table" (.ref x) [])) := upd_same
    generalize upd H4 p (.ins Z.P dx (putF "table" (.ref x) [])) = H5 at BP KB B5 u1 u2 u3 p5 ⊢
    obtain ⟨dxc, pkc, poc, nc, ptc, xsc, g1, g2⟩ := id u3
    refine ⟨_, rfl, p, dx, _, _, rfl, p5, (by kernel_rfl), x, dxt, _, _, rfl, u1, tfs_closing .., pc, dxc, _, rfl, g1, lfs_no_got .., _, rfl, tk, rfl, ⟨_, B5.seqT hnoT htk⟩, fun L hL => ?_⟩
    refine cc_it walk_tup (fun i H' => Same H5 H' ∧ ∃ is : List Nat, H' L = some (.lst (ivs is)) ∧ is.length = i ∧ Paired (Rl kvn) (ks.take i) is) ⟨.new hL, [], upd_same, rfl, .nil⟩ (fun i H' _ h => h.1.tup (B5.seqT hnoT htk)) ?_ ?_
    · rintro i y _ H6 hi ⟨S6, is, hac, hil, hpi⟩ ⟨rfl, ey⟩
      obtain ⟨n, en, qq, rfl, hq⟩ := paired_at hxs ey
      have hnk := List.mem_of_getElem? en
      have hphi : Phi (ks ++ [wn]) fas (.l n) := .inl (List.mem_append_left _ hnk)
      obtain ⟨j, hj, _, _⟩ := hnum.lett n hphi
      refine ⟨rfl, _, rfl, p, dx, _, _, rfl, S6 _ _ p5, (by kernel_rfl), x, dxt, _, rfl, S6 _ _ u1, tfs_no_number .., _, rfl, x, dxt, qq, dn, _, .l n, kvn, .int (j : Nat), rfl, S6 _ _ u1, tfs_numbers .., (LetAt.kp hq KB).kp S6.kp, (po.good hphi).short, S6 _ _ u2, hj, _, hac, small1000 (by rw [List.length_map]; omega), S6.at hL, is ++ [j], by rw [upd_same, ivs_snoc], by simp [hil], ?_⟩
      rw [map_snoc en]
      exact paired_snoc hj hpi
    · rintro H6 ⟨S6, is, hac, hil, hpi⟩
      rw [xl, List.take_length] at hpi
      refine ⟨pc, pa, L, k, c, ops, ab, is, rfl, u3.same S6, hab, holt, by omega, .inl (.inl hac), by omega, fun i hi => ?_, fun H7 r d s' kvs S7 hr7 hd7 hgot => ?_⟩
      · obtain ⟨a, ea⟩ := List.mem_iff_getElem?.mp hi
        obtain ⟨n, en, rn⟩ := paired_back hpi ea
        obtain ⟨j, hj, hlt, _⟩ := hnum.lett n (.inl (List.mem_append_left _ (List.mem_of_getElem? en)))
        rw [rl_fun rn hj]
        exact hlt
      · have S67 := S6.trans S7
        have p7 := S67 _ _ p5
        have ndp : d ≠ p := ne_of hd7 p7 (by intro z; cases z)
        refine ⟨r, _, rfl, hr7, rfl, _, _, rfl, _, rfl, p, dx, _, rfl, p7, (lt1000 (by kernel_rfl)), _, _, rfl, _, rfl, p, dx, _, rfl, upd_same, (lt1000 (by kernel_rfl)), rfl, ?_⟩
        rw [upd_upd, pfs_put]
        have BQ : But p H7 (upd H7 p (.ins Z.P dx (pfs (.ref x) (.ref d) (.ref s')))) := .upd p _ _
        have hnoT7 : ∀ o, H7 p = some o → ¬ TupO o := fun o e => by rw [p7] at e; cases e; exact id
        have v3 : LAt Z K (upd H7 p (.ins Z.P dx (pfs (.ref x) (.ref d) (.ref s')))) pc k c ops pa ab := by
          obtain ⟨dxc, pkc, poc, nc, ptc, xsc, g1, ⟨dk, g2⟩, g3, g4, g5, g6⟩ := u3.same S67
          have npc : pc ≠ p := fun e => by
            rw [e, p7] at g1
            injection g1 with g1
            injection g1 with _ _ g1
            have := congrArg List.length g1
            have e1 : (putF "table" (.ref x) []).length = 1 := by kernel_rfl
            rw [e1] at this
            simp [lfs] at this
          have npk : pkc ≠ p := fun e => by
            rw [e, p7] at g2
            injection g2 with g2
            injection g2 with _ _ g2
            have := congrArg List.length g2
            have e1 : (putF "table" (.ref x) []).length = 1 := by kernel_rfl
            rw [e1] at this
            simp [kfs] at this
          exact ⟨dxc, pkc, poc, nc, ptc, xsc, BQ _ _ g1 npc, ⟨dk, BQ _ _ g2 npk⟩, BQ _ _ g3 (ne_of g3 p7 (by intro z; cases z)), paired_imp (fun _ _ q => q.but BQ hnoT7) g4, BQ _ _ g5 (ne_of g5 p7 (by intro z; cases z)), g6⟩
        exact q _ ((B5.trans S67.but).trans BQ) ⟨dx, x, d, _, dxt, dn, vl, pc, pa, kvn, ab, ops, kvs, is, upd_same, BQ _ _ (S67 _ _ u1) nxp, BQ _ _ (S67 _ _ u2) (ne_of (S67 _ _ u2) p7 (by intro z; cases z)), v3, hab, hnum, BQ _ _ hd7 ndp, hpi, hgot⟩
end
end K85
/-! K85P2: Kept.root, Kept.has, kept_for, tells. -/
namespace K85
open PySem PySem.Spec PyProof.Rows L2
section
variable {P : Program} {w : World} {K : PySem.W.Frag} {mg : Str → Option Value} {base : Heap} {Z : Cs} {f C : Addr} {fd : FuncData}
theorem g800 (T : Txt K mg Z) (G780 : CDef P w K mg base CX0 5 Z.T "Table" ["self", "kind", "formulas", "facts"] [] (spTI Z K)) (G781 : MDef P w K mg base CX0 4 Z.T "number" ["self", "formula"] [] (spNum Z)) (G766 : MDef P w K mg base CX0 2 Z.L "got" ["self", "things"] [] (spGotL Z K))
    (G : CTxt K mg Z.P "Kept" "Kept.__init__" (met 80 0) [] []) : CDef P w K mg base CX0 7 Z.P "Kept" PPI [] (spPI Z K) := by
  obtain ⟨f, fd, F, M, hm⟩ := G
  exact ⟨f, fd, [], ok800 T G780 G781 G766 F, F.bindsN fun _ _ _ _ _ _ us hl => match us, hl with | [_, _, _, _, _], _ => rfl, .nil, M, hm⟩
theorem sc801 : FnScope ["self", "formula"] ["self", "formula"] (defScope (met 80 1)) := ⟨rfl, rfl, rfl, by decide +kernel, rfl, by decide +kernel, by decide +kernel⟩
/-- the wanted letter's number -/
def spPR (Z : Cs) (K : PySem.W.Frag) : Sp := fun vs H Q _ => ∃ (p qw dx pt d dxt dn pc pa : Addr) (v vl : V) (k : Str × List (T3 Nat)) (c : Bool) (wn : Str) (kvn : List (Key × V)) (ab : List Nat) (ops : List (T3 Nat)) (i : Nat), vs = [.ref p, .ref qw] ∧ H p = some (.ins Z.P dx (pfs (.ref pt) (.ref d) v)) ∧ H pt = some (.ins Z.T dxt (tfs (.ref dn) vl (.ref pc))) ∧
  H dn = some (.dK kvn) ∧ LAt Z K H pc k c ops pa ab ∧ LetAt Z.F H qw wn ∧ wn.length ≤ 8 ∧ Rl kvn wn i ∧ i < ab.length ∧ rof ab i = i ∧ Q (.int i) H
theorem ok801 (T : Txt K mg Z) (G761 : MDef P w K mg base CX0 1 Z.L "root" ["self", "thing"] [] (spRoot Z)) (G781 : MDef P w K mg base CX0 4 Z.T "number" ["self", "formula"] [] (spNum Z)) (F : TF K "root" "Kept.root" (met 80 1) [] [] f fd) : FnOk P w K mg base CX0 5 f fd ["self", "formula"] (spPR Z K) := by
  refine F.ok sc801 (fun vs H Q E h => ?_) (fun cdv A outer s H vs Q E hr h => ?_)
  · obtain ⟨_, _, _, _, _, _, _, _, _, _, _, _, _, _, _, _, _, _, rfl, _⟩ := h
    rfl
  · obtain ⟨p, qw, dx, pt, d, dxt, dn, pc, pa, v, vl, k, c, wn, kvn, ab, ops, i, rfl, hp, ht, hd, hL, hq, hl, hi, hlt, hrf, q⟩ := h
    obtain ⟨dxc, pkc, poc, nc, ptc, xsc, g1, _, _, _, g5, _⟩ := hL
    have hii : ab[i]? = some i := by
      have := rof_at hlt
      rw [hrf] at this
      exact this
    exact ⟨_, PSs.nox <| pss_one (ps_ret (pe_m G761 T.cL (hr.mono (by decide)) pass0 (pe_at T.cT T.t_closing (pe_at T.cP T.p_table (pv 0))) (pa_cons (pe_m G781 T.cT hr pass0 (pe_at T.cP T.p_table (pv 0)) (pa_cons (pv 1) pa_nil)) pa_nil))),
      _, rfl, p, dx, _, _, rfl, hp, pfs_table .., pt, dxt, _, _, rfl, ht, tfs_closing .., pc, dxc, _, rfl, g1, lfs_no_root .., _, rfl, p, dx, _, _, rfl, hp, pfs_table .., pt, dxt, _, rfl, ht, tfs_no_number .., _, rfl, pt, dxt, qw, dn, _, .l wn, kvn, .int (i : Nat), rfl, ht, tfs_numbers .., hq, hl, hd, hi,
      pc, dxc, pa, i, i, _, _, _, _, ab, rfl, g1, g5, hii, hii, q⟩
theorem g801 (T : Txt K mg Z) (G761 : MDef P w K mg base CX0 1 Z.L "root" ["self", "thing"] [] (spRoot Z)) (G781 : MDef P w K mg base CX0 4 Z.T "number" ["self", "formula"] [] (spNum Z)) (G : MTxt K Z.P "Kept" "root" "Kept.root" (met 80 1) [] []) : MDef P w K mg base CX0 5 Z.P "root" ["self", "formula"] [] (spPR Z K) :=
  mdef G (fun _ _ _ _ _ _ us hl => match us, hl with | [_, _], _ => rfl) fun f fd F => ok801 T G761 G781 F
theorem sc802 : FnScope ["self", "formula"] ["self", "formula"] (defScope (met 80 2)) := ⟨rfl, rfl, rfl, by decide +kernel, rfl, by decide +kernel, by decide +kernel⟩
def spHas (Z : Cs) (K : PySem.W.Frag) : Sp := fun vs H Q _ => ∃ (p qw : Addr) (k : Str × List (T3 Nat)) (c : Bool) (ks : List Str) (wn : Str) (fas : List (T3 Str)), vs = [.ref p, .ref qw] ∧ KeptAt Z K H p k c ks wn fas ∧ LetAt Z.F H qw wn ∧ wn.length ≤ 8 ∧ ∀ b : Bool, (b = true ↔ Got fas ks wn) → Q (.bl b) H
theorem ok802 (T : Txt K mg Z) (G801 : MDef P w K mg base CX0 5 Z.P "root" ["self", "formula"] [] (spPR Z K)) (F : TF K "has" "Kept.has" (met 80 2) [] [] f fd) : FnOk P w K mg base CX0 6 f fd ["self", "formula"] (spHas Z K) := by
  refine F.ok sc802 (fun vs H Q E h => ?_) (fun cdv A outer s H vs Q E hr h => ?_)
  · obtain ⟨_, _, _, _, _, _, _, rfl, _⟩ := h
    rfl
  · obtain ⟨p, qw, k, c, ks, wn, fas, rfl, hK, hq, hl, q⟩ := h
    have hu := hu_of hr
    obtain ⟨dx, pt, d, v, dxt, dn, vl, pc, pa, kvn, ab, ops, kvs, is, hp, ht, hd, hL, hab, hnum, hkd, hpi, hgot⟩ := hK
    obtain ⟨i, hi, hlt, hrf⟩ := hnum.lett wn (.inl (List.mem_append_right _ (List.mem_singleton.mpr rfl)))
    refine ⟨_, PSs.nox <| pss_one (ps_ret (pe_cmp (pc_din hu (pe_m G801 T.cP hr pass0 (pv 0) (pa_cons (pv 1) pa_nil)) (pe_at T.cP T.p_known (pv 0))) rfl)), ?_⟩
    refine ⟨_, rfl, p, dx, _, rfl, hp, pfs_no_root .., _, rfl, p, qw, dx, pt, d, dxt, dn, pc, pa, v, vl, k, c, wn, kvn, ab, ops, i, rfl, hp, ht, hd, hL, hq, hl, hi, hlt, hrf, _, rfl, p, dx, _, _, rfl, hp, pfs_known .., d, _, rfl, DGet.k (k := Sum.inl ((i : Nat) : Int)) hkd, ?_⟩
    refine q _ ?_
    exact (hgot i).trans (got_num hnum hpi hi)
theorem g802 (T : Txt K mg Z) (G801 : MDef P w K mg base CX0 5 Z.P "root" ["self", "formula"] [] (spPR Z K)) (G : MTxt K Z.P "Kept" "has" "Kept.has" (met 80 2) [] []) : MDef P w K mg base CX0 6 Z.P "has" ["self", "formula"] [] (spHas Z K) :=
  mdef G (fun _ _ _ _ _ _ us hl => match us, hl with | [_, _], _ => rfl) fun f fd F => ok802 T G801 F
/-! kept_for -/
abbrev N81 : List Str := ["kind", "facts", "kept", "wanted"]
theorem sc81 : FnScope N81 N81 (defScope (top 81)) := ⟨rfl, rfl, rfl, by decide +kernel, rfl, by decide +kernel, by decide +kernel⟩
/-- the arguments of tells -/
structure TellA (Z : Cs) (K : PySem.W.Frag) (H : Hp) (pk tf tk qw : Addr) (k : Str × List (T3 Nat)) (c : Bool) (ks : List Str) (wn : Str) (fas : List (T3 Str)) : Prop where
  kd : KindAt Z.K H pk k.1 c
  lot : k ∈ lots
  fs : ∃ ys, SqT K H tf ys ∧ Paired (FactAt Z K H) ys fas
  kpt : ∃ xs, SqT K H tk xs ∧ Paired (LetA Z H) xs ks
  wnt : LetAt Z.F H qw wn
  po : PhiOk (ks ++ [wn]) fas
  k6 : ks.length ≤ 6
  nc : NC k.2 c fas
theorem TellA.same {H H' : Hp} {pk tf tk qw : Addr} {k : Str × List (T3 Nat)} {c : Bool} {ks : List Str} {wn : Str} {fas : List (T3 Str)} (h : TellA Z K H pk tf tk qw k c ks wn fas) (S : Same H H') : TellA Z K H' pk tf tk qw k c ks wn fas := by
  obtain ⟨ys, y1, y2⟩ := h.fs
  obtain ⟨xs, x1, x2⟩ := h.kpt
  exact ⟨h.kd.kp S.kp, h.lot, ⟨ys, S.tup y1, paired_imp (fun _ _ ⟨qq, qa, qb, e, a1, a2, a3⟩ => ⟨qq, qa, qb, e, S.tup a1, a2.kp S.kp, a3.kp S.kp⟩) y2⟩, ⟨xs, S.tup x1, paired_imp (fun _ _ q => q.kp S.kp) x2⟩, h.wnt.kp S.kp, h.po, h.k6, h.nc⟩
def spKF (Z : Cs) (K : PySem.W.Frag) : Sp := fun vs H Q _ => ∃ (pk tf tk qw : Addr) (k : Str × List (T3 Nat)) (c : Bool) (ks : List Str) (wn : Str) (fas : List (T3 Str)), vs = [.ref pk, .ref tf, .ref tk, .ref qw] ∧ TellA Z K H pk tf tk qw k c ks wn fas ∧ ∀ H' r, Same H H' → KeptAt Z K H' r k c ks wn fas → Q (.ref r) H'
theorem let_ins {H : Hp} {q : Addr} {n : Str} (h : LetAt Z.F H q n) : InsAt Z.F H (.ref q) := by
  obtain ⟨dx, sl, e, _⟩ := h
  exact ⟨q, dx, _, rfl, e⟩
theorem fm_ins {H : Hp} {q : Addr} {g : Fm} (h : FmAt Z.F H q g) : InsAt Z.F H (.ref q) := by
  obtain ⟨dx, _, _, _, _, _, e, _⟩ := h.look
  exact ⟨q, dx, _, rfl, e⟩
theorem ok81 (T : Txt K mg Z) (G54 : GDef P w K mg base CX0 1 "check_kind" ["value"] [] (spIns Z.K)) (G50 : GDef P w K mg base CX0 2 "check_facts" ["value"] [] (spFacts K Z.F)) (G49 : GDef P w K mg base CX0 1 "check_formulas" ["value", "least"] [.int 0] (spForms K Z.F)) (G48 : GDef P w K mg base CX0 1 "check_formula" ["value"] [] (spIns Z.F))
    (G800 : CDef P w K mg base CX0 7 Z.P "Kept" PPI [] (spPI Z K)) (F : TF K "kept_for" "kept_for" (top 81) [] [] f fd) : FnOk P w K mg base CX0 9 f fd N81 (spKF Z K) := by
  refine F.ok sc81 (fun vs H Q E h => ?_) (fun cdv A outer s H vs Q E hr h => ?_)
  · obtain ⟨_, _, _, _, _, _, _, _, _, rfl, _⟩ := h
    rfl
  · obtain ⟨pk, tf, tk, qw, k, c, ks, wn, fas, rfl, hA, q⟩ := h
    have hr1 : Room 1 _ := hr.mono (by decide)
    refine ⟨_, PSs.nox <| pss_cons (ps_expr (pe_g G54 hr1 pass0 (pa_cons (pv 0) pa_nil))) (pss_cons (ps_expr (pe_g G50 (hr.mono (by decide)) pass0 (pa_cons (pv 1) pa_nil))) (pss_cons (ps_expr (pe_g G49 hr1 pass0 (pa_cons (pv 2) pa_nil))) (pss_cons (ps_expr (pe_g G48 hr1 pass0 (pa_cons (pv 3) pa_nil)))
      (pss_one (ps_ret (pe_c1 G800 hr pass0 (pa_cons (pv 0) (pa_cons (pv 1) (pa_cons (pv 2) (pa_cons (pe_tup (pa_cons (pv 3) pa_nil)) pa_nil)))))))))), ?_⟩
    obtain ⟨dk, hkd⟩ := hA.kd
    obtain ⟨ys, y1, y2⟩ := hA.fs
    obtain ⟨xs, x1, x2⟩ := hA.kpt
    have yl : ys.length = fas.length := Paired.length y2
    have xl : xs.length = ks.length := Paired.length x2
    have pfl := hA.po.fl
    have k6 := hA.k6
    refine ⟨_, rfl, pk, dk, _, rfl, hkd, ?_⟩
    refine ⟨_, rfl, tf, ys, rfl, y1, by omega, fun x hx => ?_, fun H1 S1 => ?_⟩
    · obtain ⟨i, ei⟩ := List.mem_iff_getElem?.mp hx
      obtain ⟨fa, ef, qq, qa, qb, rfl, z1, z2, z3⟩ := paired_at y2 ei
      exact ⟨qq, _, _, rfl, z1, fm_ins z2, let_ins z3⟩
    · refine ⟨_, rfl, tk, xs, rfl, S1.tup x1, by omega, fun x hx => ?_, fun H2 S2 => ?_⟩
      · obtain ⟨i, ei⟩ := List.mem_iff_getElem?.mp hx
        obtain ⟨n, en, qq, rfl, z1⟩ := paired_at x2 ei
        exact (let_ins z1).same S1
      · have S12 := S1.trans S2
        have hA2 := hA.same S12
        obtain ⟨dxw, slw, ew, _⟩ := hA2.wnt
        refine ⟨_, rfl, qw, dxw, _, rfl, ew, ?_⟩
        refine ⟨_, rfl, _, rfl, _, rfl, _, rfl, line1000 (by simp), fun ta hta => ?_⟩
        have S3 := Same.new (o := .tup [.ref qw]) hta
        have hA3 := hA2.same S3
        intro x dx hx hdx _
        have SM : Same (upd H2 ta (.tup [.ref qw])) (upd (upd (upd H2 ta (.tup [.ref qw])) dx (.own x)) x (.ins Z.P dx [])) := fun b o e => by rw [upd_ne (ne_of_none e hx), upd_ne (ne_of_none e hdx)]; exact e
        have hA4 := hA3.same SM
        obtain ⟨ys4, y41, y42⟩ := hA4.fs
        obtain ⟨xs4, x41, x42⟩ := hA4.kpt
        exact ⟨x, dx, pk, tf, tk, ta, qw, k, c, xs4, ys4, ks, wn, fas, rfl, upd_same, hA4.kd, hA4.lot, y41, y42, x41, x42, SM.tup (.inl (.inl upd_same)), hA4.wnt, hA4.po, hA4.nc, fun H5 B5 hK => ⟨rfl, q H5 x ((S12.trans S3).trans (Same.made hx hdx B5)) hK⟩⟩
theorem g81 (T : Txt K mg Z) (G54 : GDef P w K mg base CX0 1 "check_kind" ["value"] [] (spIns Z.K)) (G50 : GDef P w K mg base CX0 2 "check_facts" ["value"] [] (spFacts K Z.F)) (G49 : GDef P w K mg base CX0 1 "check_formulas" ["value", "least"] [.int 0] (spForms K Z.F)) (G48 : GDef P w K mg base CX0 1 "check_formula" ["value"] [] (spIns Z.F))
    (G800 : CDef P w K mg base CX0 7 Z.P "Kept" PPI [] (spPI Z K)) (G : GTxt K mg "kept_for" (top 81) [] []) : GDef P w K mg base CX0 9 "kept_for" N81 [] (spKF Z K) := gdef G (fun _ _ _ _ _ _ us hl => match us, hl with | [_, _, _, _], _ => rfl) fun f fd F => ok81 T G54 G50 G49 G48 G800 F
/-! tells -/
theorem sc82 : FnScope N81 N81 (defScope (top 82)) := ⟨rfl, rfl, rfl, by decide +kernel, rfl, by decide +kernel, by decide +kernel⟩
def spTells (Z : Cs) (K : PySem.W.Frag) : Sp := fun vs H Q _ => ∃ (pk tf tk qw : Addr) (k : Str × List (T3 Nat)) (c : Bool) (ks : List Str) (wn : Str) (fas : List (T3 Str)), vs = [.ref pk, .ref tf, .ref tk, .ref qw] ∧ TellA Z K H pk tf tk qw k c ks wn fas ∧ ∀ H' (b : Bool), Same H H' → (b = true ↔ Got fas ks wn) → Q (.bl b) H'
theorem ok82 (T : Txt K mg Z) (G81 : GDef P w K mg base CX0 9 "kept_for" N81 [] (spKF Z K)) (G802 : MDef P w K mg base CX0 6 Z.P "has" ["self", "formula"] [] (spHas Z K)) (F : TF K "tells" "tells" (top 82) [] [] f fd) : FnOk P w K mg base CX0 10 f fd N81 (spTells Z K) := by
  refine F.ok sc82 (fun vs H Q E h => ?_) (fun cdv A outer s H vs Q E hr h => ?_)
  · obtain ⟨_, _, _, _, _, _, _, _, _, rfl, _⟩ := h
    rfl
  · obtain ⟨pk, tf, tk, qw, k, c, ks, wn, fas, rfl, hA, q⟩ := h
    refine ⟨_, PSs.nox <| pss_one (ps_ret (pe_m G802 T.cP (hr.mono (by decide)) pass0 (pe_g G81 hr pass0 (pa_cons (pv 0) (pa_cons (pv 1) (pa_cons (pv 2) (pa_cons (pv 3) pa_nil))))) (pa_cons (pv 3) pa_nil))), ?_⟩
    refine ⟨_, rfl, _, rfl, _, rfl, _, rfl, pk, tf, tk, qw, k, c, ks, wn, fas, rfl, hA, fun H1 r S1 hK => ?_⟩
    obtain ⟨dx, pt, d, v, rest⟩ := id hK
    obtain ⟨dxt, dn, vl, pc, pa, kvn, ab, ops, kvs, is, hp, _⟩ := rest
    exact ⟨r, dx, _, rfl, hp, pfs_no_has .., _, rfl, r, qw, k, c, ks, wn, fas, rfl, hK, hA.wnt.kp S1.kp, (hA.po.gl wn (List.mem_append_right _ (List.mem_singleton.mpr rfl))).1, fun b hb => q H1 b S1 hb⟩
theorem g82 (T : Txt K mg Z) (G81 : GDef P w K mg base CX0 9 "kept_for" N81 [] (spKF Z K)) (G802 : MDef P w K mg base CX0 6 Z.P "has" ["self", "formula"] [] (spHas Z K)) (G : GTxt K mg "tells" (top 82) [] []) : GDef P w K mg base CX0 10 "tells" N81 [] (spTells Z K) :=
  gdef G (fun _ _ _ _ _ _ us hl => match us, hl with | [_, _, _, _], _ => rfl) fun f fd F => ok82 T G81 G802 F
end
end K85
/-! K85W: the law's own small defs: purse, pick, kind, letter. -/
namespace K85
open PySem PySem.Spec PyProof.Rows L2
/-- three ints -/
def Purse (H : Hp) (a : Addr) : Prop := ∃ x y z : Int, H a = some (.lst [.int x, .int y, .int z])
section
variable {P : Program} {w : World} {K : PySem.W.Frag} {mg : Str → Option Value} {base : Heap} {Z : Cs} {f C : Addr} {fd : FuncData}
abbrev N84 : List Str := ["_law_script", "_law_spot", "_law_own", "_law_mixed", "_law_cell_here"]
theorem sc84 : FnScope N84 ["_law_script", "_law_spot"] (defScope (top 84)) := ⟨rfl, rfl, rfl, by decide +kernel, rfl, by decide +kernel, by decide +kernel⟩
def spPurse (K : PySem.W.Frag) : Sp := fun vs H Q _ => ∃ (a i : Nat) (ns : List Int), vs = [.ref a, .int i] ∧ SqL K H a (ns.map V.int) ∧ ns.length ≤ 100000 ∧ ∀ H' p, Same H H' → H p = none → Purse H' p → Q (.ref p) H'
theorem cut_ints (ns : List Int) (lo hi : Option Int) : ∃ ms : List Int, cutV (ns.map V.int) lo hi = ms.map V.int ∧ ms.length ≤ ns.length := by
  unfold cutV
  refine ⟨(ns.drop _).take _, by rw [List.map_take, List.map_drop], ?_⟩
  rw [List.length_take, List.length_drop]
  omega
theorem ok84 (T : Txt K mg Z) (F : TF K "_law_purse" "_law_purse" (top 84) [] [] f fd) : FnOk P w K mg base CX0 1 f fd ["_law_script", "_law_spot"] (spPurse K) := by
  refine F.ok sc84 (fun vs H Q E h => ?_) (fun cdv A outer s H vs Q E hr h => ?_)
  · obtain ⟨_, _, _, rfl, _⟩ := h
    rfl
  · obtain ⟨a, i, ns, rfl, ha, hl, q⟩ := h
    refine ⟨_, PSs.nox <| C8.pss_cut (ps_set (i := 2) sc84.nd rfl (Or.inl rfl) (pe_ifExp (pt_cmpR op_lt (pv 1) (pe_b call_len T.len PySem.boot_len (pa_cons (pv 0) pa_nil)) (nomark _)) (pe_ix ix_list (pv 0) (pv 1) (fun _ _ => rfl)) pe_int))
      (pss_cons (ps_set (i := 3) sc84.nd rfl (Or.inl rfl) (pe_op op_add pe_int (pe_op op_mul pe_int (pv 1))))
      (C8.pss_cut (ps_for PassesOwn.never rfl (pi_list (pe_op op_cat (pe_slice sl_list (pv 0) po_none (po_some pe_int)) (pe_slice sl_list (pv 0) (po_some (pv 1)) (po_some (pe_op op_add (pv 1) pe_int))))) (pg_name (i := 4) sc84.nd rfl (Or.inl rfl))
        (pss_one (ps_set (i := 3) sc84.nd rfl (Or.inl rfl) (pe_op op_mod (pe_callTy call_int1 (by rfl) T.int boot_int (pa_cons (pe_op op_add (pe_op op_add (pe_op op_mul (pv 3) pe_int) (pe_op op_mul (pv 4) pe_int)) pe_int) pa_nil)) pe_int))))
      (pss_one (ps_ret (pe_lst (pa_cons (pe_ifExp (pt_cmpR op_ge (pe_b call_abs T.abs (by decide +kernel) (pa_cons (pv 2) pa_nil)) (pe_op op_pow pe_int pe_int) (nomark _)) (pe_b call_abs T.abs (by decide +kernel) (pa_cons (pv 2) pa_nil)) pe_int) (pa_cons (pv 3) (pa_cons pe_int pa_nil)))))))), ?_⟩
    refine ⟨fun σ' H' => (∃ o : Int, σ' = [some (.ref a), some (.int i), some (.int o), none, none]) ∧ H' = H, ?_, ?_⟩
    · refine ⟨_, rfl, _, rfl, _, ns.length, rfl, .inl ⟨_, ha, by rw [List.length_map]⟩, _, _, rfl, rfl, _, rfl, ?_⟩
      by_cases hi : i < ns.length
      · refine iteD (by omega) ⟨_, rfl, _, rfl, a, _, _, .int (ns[i]), rfl, rfl, ha, atI_nat (by rw [List.getElem?_map, List.getElem?_eq_getElem hi]; rfl), ⟨_, rfl⟩, rfl⟩
      · exact iteDN (by omega) ⟨⟨_, rfl⟩, rfl⟩
    · rintro _ H' ⟨⟨o, rfl⟩, e⟩
      rw [e]
      refine ⟨_, rfl, _, _, rfl, rfl, .inl ⟨by decide, by decide⟩, _, _, rfl, rfl, ?_⟩
      refine ⟨fun σ' H' => (∃ (m : Int) (x : Option V), σ' = [some (.ref a), some (.int i), some (.int o), some (.int m), x]) ∧ Same H H', ?_, ?_⟩
      · obtain ⟨ms, em, lm⟩ := cut_ints ns none (some 4)
        obtain ⟨ms2, em2, lm2⟩ := cut_ints ns (some (i : Int)) (some ((i : Int) + 1))
        refine ⟨_, rfl, _, rfl, a, _, rfl, ha, fun p1 h1 => ?_⟩
        rw [em]
        have S1 := Same.new (o := .lst (ms.map V.int)) h1
        refine ⟨_, rfl, _, rfl, _, rfl, _, rfl, _, _, rfl, rfl, _, rfl, a, _, rfl, S1.seq ha, fun p2 h2 => ?_⟩
        rw [em2]
        have S2 := S1.trans (Same.new (o := .lst (ms2.map V.int)) h2)
        refine ⟨p1, p2, _, _, rfl, rfl, (Same.new h2) _ _ upd_same, upd_same, by rw [List.length_map, List.length_map]; exact Nat.le_trans (Nat.add_le_add lm lm2) (Nat.le_trans (Nat.add_le_add hl hl) (by decide)), fun p3 h3 => ?_⟩
        have S3 := S2.trans (Same.new (o := .lst (ms.map V.int ++ ms2.map V.int)) h3)
        have e3 : upd (upd (upd H p1 (.lst (ms.map V.int))) p2 (.lst (ms2.map V.int))) p3 (.lst (ms.map V.int ++ ms2.map V.int)) p3 = some (.lst ((ms ++ ms2).map V.int)) := by rw [upd_same, List.map_append]
        refine ⟨p3, rfl, ⟨_, .inl (.inl e3)⟩, for_it (walk_list (xs := (ms ++ ms2).map V.int)) (fun j σ H' => (∃ (m : Int) (x : Option V), σ = [some (.ref a), some (.int i), some (.int o), some (.int m), x]) ∧ Same (upd (upd (upd H p1 (.lst (ms.map V.int))) p2 (.lst (ms2.map V.int))) p3 (.lst (ms.map V.int ++ ms2.map V.int))) H') ⟨⟨_, _, rfl⟩, .refl _⟩ (fun j σ H' _ h => .inl (.inl (h.2 _ _ e3))) ?_ ?_⟩
        · rintro j x σ _ H4 hj ⟨⟨m, x0, rfl⟩, S4⟩ ⟨rfl, ex⟩
          rw [List.getElem?_map] at ex
          obtain ⟨n, en, rfl⟩ := Option.map_eq_some_iff.mp ex
          exact ⟨_, rfl, _, _, rfl, rfl, .inr ⟨by decide, by decide⟩, _, rfl, _, _, rfl, rfl, .inr ⟨by decide, by decide⟩, _, _, rfl, rfl, _, _, rfl, rfl, .inl ⟨_, rfl, _, _, rfl, rfl, (by show (0 : Int) < 2147483587; decide), ⟨_, _, rfl⟩, S4⟩⟩
        · rintro σ H4 ⟨hσ, S4⟩
          exact ⟨hσ, S3.trans S4⟩
      · rintro σ' H4 ⟨⟨m, x, rfl⟩, S4⟩
        refine ⟨_, rfl, o, rfl, _, _, rfl, rfl, ⟨by decide, by decide, by decide⟩, _, _, rfl, rfl, _, rfl, ?_⟩
        refine ite2 (fun _ => ?_) fun _ => ?_
        · exact ⟨_, rfl, o, rfl, _, rfl, line1000 (by simp), fun p hp => q _ p (S4.trans (.new hp)) (S4.free hp) ⟨_, _, _, upd_same⟩⟩
        · exact ⟨_, rfl, line1000 (by simp), fun p hp => q _ p (S4.trans (.new hp)) (S4.free hp) ⟨_, _, _, upd_same⟩⟩
theorem g84 (T : Txt K mg Z) (G : GTxt K mg "_law_purse" (top 84) [] []) : GDef P w K mg base CX0 1 "_law_purse" ["_law_script", "_law_spot"] [] (spPurse K) := gdef G (fun _ _ _ _ _ _ us hl => match us, hl with | [_, _], _ => rfl) fun f fd F => ok84 T F
/-! pick -/
abbrev N85 : List Str := ["_law_purse_here", "_law_length", "_law_seed", "_law_again", "_law_digit"]
theorem sc85 : FnScope N85 ["_law_purse_here", "_law_length"] (defScope (top 85)) := ⟨rfl, rfl, rfl, by decide +kernel, rfl, by decide +kernel, by decide +kernel⟩
def spPick : Sp := fun vs H Q _ => ∃ (a n : Nat), vs = [.ref a, .int n] ∧ 0 < n ∧ n ≤ 1000 ∧ Purse H a ∧ ∀ H' (d : Nat), But a H H' → Purse H' a → d < n → Q (.int d) H'
theorem ok85 (T : Txt K mg Z) (F : TF K "_law_pick" "_law_pick" (top 85) [] [] f fd) : FnOk P w K mg base CX0 1 f fd ["_law_purse_here", "_law_length"] spPick := by
  refine F.ok sc85 (fun vs H Q E h => ?_) (fun cdv A outer s H vs Q E hr h => ?_)
  · obtain ⟨_, _, rfl, _⟩ := h
    rfl
  · obtain ⟨a, n, rfl, hn, hn2, ⟨x, y, z, ha⟩, q⟩ := h
    have il : ∀ {X : Cx}, True := trivial
    refine ⟨_, PSs.nox <| pss_cons (ps_asg (pe_op op_add (pe_ix ix_list (pv 0) pe_int (fun _ _ => rfl)) pe_int) (pg_sub (pv 0) pe_int set_list))
      (pss_cons (ps_set (i := 2) sc85.nd rfl (Or.inl rfl) (pe_callTy call_int1 (by rfl) T.int boot_int (pa_cons (pe_ix ix_list (pv 0) pe_int (fun _ _ => rfl)) pa_nil)))
      (pss_cons (ps_set (i := 3) sc85.nd rfl (Or.inl rfl) (pe_op op_mul (pe_op op_add (pe_op op_mod (pe_callTy call_int1 (by rfl) T.int boot_int (pa_cons (pv 2) pa_nil)) pe_int) pe_int) (pe_op op_add (pe_op op_fdiv (pv 2) pe_int) pe_int)))
      (pss_cons (ps_asg (pe_op op_mod (pe_callTy call_int1 (by rfl) T.int boot_int (pa_cons (pe_op op_add (pv 3) (pe_op op_mul (pe_ix ix_list (pv 0) pe_int (fun _ _ => rfl)) pe_int)) pa_nil)) pe_int) (pg_sub (pv 0) pe_int set_list))
      (pss_cons (ps_if (pt_cmpR op_gt (pe_ix ix_list (pv 0) pe_int (fun _ _ => rfl)) pe_int (nomark _))
        (pss_cons (ps_asg (pe_b call_divmod T.dmd boot_divmod (pa_cons (pe_ix ix_list (pv 0) pe_int (fun _ _ => rfl)) (pa_cons (pv 1) pa_nil))) (pg_tup rfl (pgs_cons (pg_sub (pv 0) pe_int set_list) (pgs_cons (pg_name (i := 4) sc85.nd rfl (Or.inl rfl)) pgs_nil)))) (pss_one (ps_ret (pv 4)))) pss_nil)
      (pss_one (ps_ret (pe_op op_mod (pe_callTy call_int1 (by rfl) T.int boot_int (pa_cons (pe_op op_fdiv (pe_ix ix_list (pv 0) pe_int (fun _ _ => rfl)) pe_int) pa_nil)) (pv 1)))))))), ?_⟩
    have hn0 : (0 : Int) < (n : Int) := by omega
    have hmod : ∀ v : Int, ∃ d : Nat, v % (n : Int) = (d : Int) ∧ d < n := fun v => by
      have h1 := Int.emod_nonneg v (show (n : Int) ≠ 0 by omega)
      have h2 := Int.emod_lt_of_pos v hn0
      exact ⟨(v % (n : Int)).toNat, by omega, by omega⟩
    refine ⟨_, rfl, a, _, 2, _, rfl, rfl, .inl (.inl ha), atI_nat (j := 2) rfl, _, _, rfl, rfl, _, rfl, a, _, 2, 2, rfl, rfl, ha, rfl, ?_⟩
    refine ⟨_, rfl, a, _, 1, _, rfl, rfl, .inl (.inl upd_same), atI_nat (j := 1) rfl, .inl ⟨_, rfl, ?_⟩⟩
    have hb1 := Int.emod_nonneg y (show (65521 : Int) ≠ 0 by decide)
    have hb2 := Int.emod_lt_of_pos y (show (0 : Int) < 65521 by decide)
    refine ⟨_, rfl, .inl ⟨_, rfl, _, _, rfl, rfl, (by show (0 : Int) < 65521; decide), _, _, rfl, rfl, _, rfl, _, _, rfl, rfl, ⟨by decide, by decide⟩, _, _, rfl, rfl, _, _, rfl, rfl, .inl ⟨by omega, by omega⟩, ?_⟩⟩
    refine ⟨_, rfl, _, rfl, a, _, 2, _, rfl, rfl, .inl (.inl upd_same), atI_nat (j := 2) rfl, _, _, rfl, rfl, .inr ⟨by decide, by decide⟩, _, _, rfl, rfl, .inl ⟨_, rfl, _, _, rfl, rfl, (by show (0 : Int) < 2147483629; decide), _, rfl, a, _, 1, 1, rfl, rfl, upd_same, rfl, ?_⟩⟩
    rw [upd_upd]
    refine ⟨_, rfl, a, _, 0, _, rfl, rfl, .inl (.inl upd_same), atI_nat (j := 0) rfl, _, _, rfl, rfl, _, rfl, ite2 (fun _ => ?_) fun _ => ?_⟩
    · refine ⟨_, rfl, a, _, 0, _, rfl, rfl, .inl (.inl upd_same), atI_nat (j := 0) rfl, _, rfl, _, _, rfl, ⟨hn0, by omega⟩, fun p hp => ?_⟩
      have nap : a ≠ p := ne_of_none upd_same hp
      refine ⟨p, _, rfl, .inl (.inl upd_same), rfl, _, _, rfl, _, rfl, a, _, 0, 0, rfl, rfl, by rw [upd_ne nap]; exact upd_same, rfl, _, _, rfl, rfl, _, rfl, ?_⟩
      obtain ⟨d, ed, hd⟩ := hmod x
      rw [ed]
      refine q _ d (fun b o e n' => ?_) ⟨_, _, _, upd_same⟩ hd
      have hbp : b ≠ p := by
        intro z'
        subst z'
        rw [upd_ne n'] at hp
        rw [hp] at e
        cases e
      rw [upd_ne n', upd_ne hbp, upd_ne n']
      exact e
    · refine ⟨_, rfl, a, _, 1, _, rfl, rfl, .inl (.inl upd_same), atI_nat (j := 1) rfl, _, _, rfl, rfl, ⟨by decide, by decide⟩, .inl ⟨_, rfl, _, rfl, _, _, rfl, rfl, hn0, ?_⟩⟩
      obtain ⟨d, ed, hd⟩ := hmod ((((y % 65521 + 29) * (y / 65521 + 40503) + (z + 1) * 7919) % 2147483629) / 61)
      show Q (V.int (((((y % 65521 + 29) * (y / 65521 + 40503) + (z + 1) * 7919) % 2147483629) / 61) % (n : Int))) _
      rw [ed]
      exact q _ d (.upd a H _) ⟨_, _, _, upd_same⟩ hd
theorem g85 (T : Txt K mg Z) (G : GTxt K mg "_law_pick" (top 85) [] []) : GDef P w K mg base CX0 1 "_law_pick" ["_law_purse_here", "_law_length"] [] spPick := gdef G (fun _ _ _ _ _ _ us hl => match us, hl with | [_, _], _ => rfl) fun f fd F => ok85 T F
end
end K85
/-! K85W2: the law's kind and letter. -/
namespace K85
open PySem PySem.Spec PyProof.Rows L2
def nms : List Str := ["p", "x", "y", "q"]
/-- the letter of a name in the copy i -/
def lett (i : Nat) (n : Str) : Str := if i = 1 ∧ n = "p" then "q0" else n ++ toString (i : Int)
theorem lett_ok {i : Nat} {n : Str} (hi : i < 2) (hn : n ∈ nms) : NameOk (lett i n) := by
  have h : ∀ i, i < 2 → ∀ n ∈ nms, nameOkB (lett i n) = true := by decide +kernel
  exact nameOk_of (h i hi n hn)
def lotNames : List V := [.str "plain", .str "sides", .str "front", .str "back", .str "round", .str "all", .str "plain"]
theorem lot_at {d : Nat} (h : d < 7) : ∃ q ∈ lots, lotNames[d]? = some (V.str q.1) := by
  match d, h with
  | 0, _ => exact ⟨_, by simp [lots]; exact .inl rfl, rfl⟩
  | 1, _ => exact ⟨_, by simp [lots]; exact .inr (.inl rfl), rfl⟩
  | 2, _ => exact ⟨_, by simp [lots]; exact .inr (.inr (.inl rfl)), rfl⟩
  | 3, _ => exact ⟨_, by simp [lots]; exact .inr (.inr (.inr (.inl rfl))), rfl⟩
  | 4, _ => exact ⟨_, by simp [lots]; exact .inr (.inr (.inr (.inr (.inl rfl)))), rfl⟩
  | 5, _ => exact ⟨_, by simp [lots]; exact .inr (.inr (.inr (.inr (.inr rfl)))), rfl⟩
  | 6, _ => exact ⟨_, by simp [lots]; exact .inl rfl, rfl⟩
section
variable {P : Program} {w : World} {K : PySem.W.Frag} {mg : Str → Option Value} {base : Heap} {Z : Cs} {f C : Addr} {fd : FuncData}
abbrev N86 : List Str := ["_law_purse_here", "_law_lots"]
theorem sc86 : FnScope N86 ["_law_purse_here"] (defScope (top 86)) := ⟨rfl, rfl, rfl, by decide +kernel, rfl, by decide +kernel, by decide +kernel⟩
def spKd : Sp := fun vs H Q _ => ∃ a : Addr, vs = [.ref a] ∧ Purse H a ∧ ∀ H' t (q : Str × List (T3 Nat)) (c : Bool), q ∈ lots → But a H H' → Purse H' a → H' t = some (.tup [.str q.1, .bl c]) → Q (.ref t) H'
abbrev G85T (P : Program) (w : World) (K : PySem.W.Frag) (mg : Str → Option Value) (base : Heap) : Prop := GDef P w K mg base CX0 1 "_law_pick" ["_law_purse_here", "_law_length"] [] spPick
theorem ok86 (T : Txt K mg Z) (G85 : G85T P w K mg base) (F : TF K "_law_kind" "_law_kind" (top 86) [] [] f fd) : FnOk P w K mg base CX0 2 f fd ["_law_purse_here"] spKd := by
  refine F.ok sc86 (fun vs H Q E h => ?_) (fun cdv A outer s H vs Q E hr h => ?_)
  · obtain ⟨_, rfl, _⟩ := h
    rfl
  · obtain ⟨a, rfl, hp, q⟩ := h
    refine ⟨_, PSs.nox <| pss_cons (ps_set (i := 1) sc86.nd rfl (Or.inl rfl) (pe_lst (pa_cons pe_str (pa_cons pe_str (pa_cons pe_str (pa_cons pe_str (pa_cons pe_str (pa_cons pe_str (pa_cons pe_str pa_nil)))))))))
      (pss_one (ps_ret (pe_tup (pa_cons (pe_ix ix_list (pv 1) (pe_g G85 hr pass0 (pa_cons (pv 0) (pa_cons pe_int pa_nil))) (fun _ _ => rfl)) (pa_cons (pe_cmpR op_eq (pe_g G85 hr pass0 (pa_cons (pv 0) (pa_cons pe_int pa_nil))) pe_int (nomark _)) pa_nil))))), ?_⟩
    obtain ⟨x, y, z, ha⟩ := id hp
    refine ⟨line1000 (by simp), fun l hl => ?_⟩
    have S1 := Same.new (o := .lst lotNames) hl
    have nal : l ≠ a := (ne_of_none ha hl).symm
    refine ⟨_, rfl, _, rfl, a, 7, rfl, by decide, by decide, ⟨x, y, z, S1 _ _ ha⟩, fun H1 d B1 hp1 hd => ?_⟩
    obtain ⟨qk, hqk, eq⟩ := lot_at hd
    refine ⟨l, _, _, _, rfl, rfl, .inl (.inl (B1 _ _ upd_same nal)), atI_nat eq, _, rfl, a, 3, rfl, by decide, by decide, hp1, fun H2 d2 B2 hp2 hd2 => ⟨rfl, line1000 (by simp), fun t ht => ?_⟩⟩
    obtain ⟨x2, y2, z2, ha2⟩ := hp2
    exact q _ t qk _ hqk (((S1.but.trans B1).trans B2).trans (Same.new ht).but) ⟨x2, y2, z2, (Same.new ht) _ _ ha2⟩ upd_same
theorem g86 (T : Txt K mg Z) (G85 : G85T P w K mg base) (G : GTxt K mg "_law_kind" (top 86) [] []) : GDef P w K mg base CX0 2 "_law_kind" ["_law_purse_here"] [] spKd := gdef G (fun _ _ _ _ _ _ us hl => match us, hl with | [_], _ => rfl) fun f fd F => ok86 T G85 F
/-! letter -/
abbrev N88 : List Str := ["_law_index", "_law_name"]
theorem sc88 : FnScope N88 N88 (defScope (top 88)) := ⟨rfl, rfl, rfl, by decide +kernel, rfl, by decide +kernel, by decide +kernel⟩
def spLt (Z : Cs) : Sp := fun vs H Q _ => ∃ (i : Nat) (n : Str), vs = [.int i, .str n] ∧ i < 2 ∧ n ∈ nms ∧ ∀ p H', Same H H' → LetN Z.F H H' p (lett i n) → Q (.ref p) H'
theorem ok88 (T : Txt K mg Z) (G41 : GDef P w K mg base CX0 3 "letter" ["name"] [] (spLetter Z.F)) (F : TF K "_law_letter" "_law_letter" (top 88) [] [] f fd) : FnOk P w K mg base CX0 4 f fd N88 (spLt Z) := by
  refine F.ok sc88 (fun vs H Q E h => ?_) (fun cdv A outer s H vs Q E hr h => ?_)
  · obtain ⟨_, _, rfl, _⟩ := h
    rfl
  · obtain ⟨i, n, rfl, hi, hn, q⟩ := h
    refine ⟨_, PSs.nox <| pss_one (ps_ret (pe_ifExp (PW.pt (pw_and (pt_cmpR op_eq (pv 0) pe_int (nomark _)) (pw_and1 (pt_cmpR op_eq (pv 1) pe_str (nomark _))))) (pe_g G41 hr pass0 (pa_cons pe_str pa_nil))
      (pe_g G41 hr pass0 (pa_cons (pe_op op_add_str (pv 1) (pe_callTy call_str_int (by rfl) T.str boot_str (pa_cons (pv 0) pa_nil))) pa_nil)))), ?_⟩
    have hok := lett_ok hi hn
    have hlen : n.length + (Str.ofString (toString (i : Int))).length ≤ 1000 := by
      have h : ∀ i : Nat, i < 2 → ∀ n ∈ nms, n.length + (Str.ofString (toString (i : Int))).length ≤ 1000 := by decide +kernel
      exact h i hi n hn
    have hlog : (i : Int).natAbs.log2 < 1920 := by
      have h : ∀ i : Nat, i < 2 → (i : Int).natAbs.log2 < 1920 := by decide +kernel
      exact h i hi
    refine ⟨_, rfl, rfl, _, rfl, ?_⟩
    by_cases h1 : i = 1
    · subst h1
      refine iteD rfl ⟨_, rfl, rfl, _, rfl, ?_⟩
      by_cases h2 : n = "p"
      · subst h2
        have e : lett 1 "p" = "q0" := if_pos ⟨rfl, rfl⟩
        rw [e] at q hok
        exact iteD rfl ⟨"q0", rfl, hok, fun p H' S L => q p H' S L⟩
      · refine iteDN (fun z => h2 (by injection z)) ?_
        have e : lett 1 n = n ++ toString ((1 : Nat) : Int) := if_neg fun z => h2 z.2
        rw [e] at q hok
        exact ⟨_, rfl, _, rfl, _, rfl, hlog, n, _, rfl, rfl, line1000 hlen, _, rfl, hok, fun p H' S L => q p H' S L⟩
    · refine iteDN (fun z => h1 (by injection z with z; omega)) (iteF ?_)
      have e : lett i n = n ++ toString (i : Int) := if_neg fun z => h1 z.1
      rw [e] at q hok
      exact ⟨_, rfl, _, rfl, _, rfl, hlog, n, _, rfl, rfl, line1000 hlen, _, rfl, hok, fun p H' S L => q p H' S L⟩
theorem g88 (T : Txt K mg Z) (G41 : GDef P w K mg base CX0 3 "letter" ["name"] [] (spLetter Z.F)) (G : GTxt K mg "_law_letter" (top 88) [] []) : GDef P w K mg base CX0 4 "_law_letter" N88 [] (spLt Z) := gdef G (fun _ _ _ _ _ _ us hl => match us, hl with | [_, _], _ => rfl) fun f fd F => ok88 T G41 F
end
end K85
/-! K85W3: the law's cell. -/
namespace K85
open PySem PySem.Spec PyProof.Rows L2
section
variable {P : Program} {w : World} {K : PySem.W.Frag} {mg : Str → Option Value} {base : Heap} {Z : Cs} {f C : Addr} {fd : FuncData}
abbrev N87 : List Str := ["_law_purse_here", "_law_kind_here", "_law_inner", "_law_names", "_law_rows", "_law_k", "_law_places", "_law_on_shelf", "_law_start", "_law_ending", "_law_goal_form", "_law_rules", "_law_shelf", "_law_goals", "_law_mids", "_law_triples", "_law_mine", "e", "_law_place", "_law_name"]
theorem sc87 : FnScope N87 ["_law_purse_here", "_law_kind_here", "_law_inner"] (defScope (top 87)) := ⟨rfl, rfl, rfl, by decide +kernel, rfl, by decide +kernel, by decide +kernel⟩
theorem takesN {X : Cx} : Takes X (fun _ _ _ _ => False) := fun u s' ⟨_, _, _, _, _, _, _, _, _, _, _, _, _, _, _, _, h⟩ => h.elim
/-- what _law_cell hands out -/
def CellOut (Z : Cs) (K : PySem.W.Frag) (H : Hp) (l : Addr) (D : CD) : Prop := ∃ m rl sh go st en xs, H l = some (.lst [.ref m, .ref rl, .ref sh, .ref go, .ref st, .ref en]) ∧ CellAt Z K H m D ∧ D.Ok ∧ NC D.k.2 D.c (chain D.rows) ∧ H rl = some (.lst xs) ∧ Paired (RowAt K H) xs D.rows ∧
  H sh = some (.lst (D.stored.map V.str)) ∧ H go = some (.lst (D.wanted.map V.str)) ∧ TxS K H st D.start ∧ TxS K H en D.stop
def spLC (Z : Cs) (K : PySem.W.Frag) : Sp := fun vs H Q _ => ∃ (a kt inn : Addr) (q : Str × List (T3 Nat)) (c : Bool) (inner : List Str), vs = [.ref a, .ref kt, .ref inn] ∧ Purse H a ∧ SqT K H kt [.str q.1, .bl c] ∧ q ∈ lots ∧ H inn = some (.lst (inner.map V.str)) ∧ (inner = nX ∨ inner = nXY) ∧
  (∀ H', But a H H' → Purse H' a → Q .non H') ∧ ∀ H' l D, But a H H' → Purse H' a → CellOut Z K H' l D → D.k = q → D.c = c → D.inner = inner → Q (.ref l) H'
theorem rd_two {n : Str} {σ : L2.St} {a : Addr} {H : Hp} {Q : VK} (hσ : σ[0]? = some (some (V.ref a))) (hp : Purse H a) (k : ∀ t S H', But a H H' → Purse H' a → TxS K H' t S → (S = [n] ∨ S = []) → Q (.ref t) H') :
    tOp (rIxL K) (tLst (tCons (tTup (tCons (tC (V.str n)) tNil)) (tCons (tTup tNil) tNil))) (tCall spPick [] E0 (tCons (tVar 0) (tCons (tC (V.int 2)) tNil))) σ H Q := by
  obtain ⟨x, y, z, ha⟩ := id hp
  refine ⟨line1000 (by simp), fun t1 h1 => ⟨line1000 (by simp), fun t2 h2 => ⟨line1000 (by simp), fun l hl => ?_⟩⟩⟩
  have S1 := (Same.new (o := .tup [.str n]) h1).trans (Same.new (o := .tup []) h2)
  have e1 : upd (upd H t1 (.tup [.str n])) t2 (.tup []) t1 = some (.tup [.str n]) := (Same.new h2) _ _ upd_same
  have e2 : upd (upd H t1 (.tup [.str n])) t2 (.tup []) t2 = some (.tup []) := upd_same
  generalize upd (upd H t1 (.tup [.str n])) t2 (.tup []) = H1 at S1 hl e1 e2 ⊢
  have S2 := Same.new (o := .lst [.ref t1, .ref t2]) hl
  have ha2 := S2 _ _ (S1 _ _ ha)
  have la : l ≠ a := (ne_of_none (S1 _ _ ha) hl).symm
  refine ⟨_, hσ, a, 2, rfl, by decide, by decide, ⟨x, y, z, ha2⟩, fun H2 d B hp2 hd => ?_⟩
  have hno : ∀ o, upd H1 l (.lst [.ref t1, .ref t2]) a = some o → ¬ TupO o := fun o e' => by rw [ha2] at e'; cases e'; exact id
  have el := B _ _ upd_same la
  have B0 := (S1.trans S2).but.trans B
  match d, hd with
  | 0, _ => exact ⟨l, _, 0, _, rfl, rfl, .inl (.inl el), atI_nat (j := 0) rfl, k t1 [n] _ B0 hp2 (B.seqT hno (.inl (.inl (S2 _ _ e1)))) (.inl rfl)⟩
  | 1, _ => exact ⟨l, _, 1, _, rfl, rfl, .inl (.inl el), atI_nat (j := 1) rfl, k t2 [] _ B0 hp2 (B.seqT hno (.inl (.inl (S2 _ _ e2)))) (.inr rfl)⟩
theorem ok87 (T : Txt K mg Z) (X : XTxt K mg C) (XM : PySem.W.exmOne K (.ref C) (.ref C) = some true) (G85 : G85T P w K mg base) (G530 : KDef P w K mg base CX0 1 1 Z.K "Kind" PKI ["calm"] (spKI Z.K)) (G630 : KDef P w K mg base (L2.CX P w) 6 5 Z.C "Cell" PCI ["stored", "wanted", "begin", "end"] (spCellI Z K C))
    (F : TF K "_law_cell" "_law_cell" (top 87) [] [] f fd) : FnOk P w K mg base CX0 8 f fd ["_law_purse_here", "_law_kind_here", "_law_inner"] (spLC Z K) := by
  refine F.ok sc87 (fun vs H Q E h => ?_) (fun cdv A outer s H vs Q E hr h => ?_)
  · obtain ⟨_, _, _, _, _, _, rfl, _⟩ := h
    rfl
  · obtain ⟨a, kt, inn, q, c, inner, rfl, hp, hkt, hq, hin, hinn, q1, q2⟩ := h
    have hr1 : Room 1 _ := hr.mono (by decide)
    have hr2 : Room 2 _ := hr.mono (by decide)
    refine ⟨_, PSs.nox <| pss_cons (ps_set (i := 3) sc87.nd rfl (Or.inr rfl) (pe_op op_cat (pe_op op_cat (pe_lst (pa_cons pe_str pa_nil)) (pv 2)) (pe_lst (pa_cons pe_str pa_nil))))
      (pss_cons (ps_set (i := 4) sc87.nd rfl (Or.inl rfl) (pe_lst pa_nil))
      (C8.pss_cut (ps_for PassesOwn.never rfl (pi_range1 rfl T.ran (pa_cons (pe_op op_add pe_int (pe_g G85 hr1 pass0 (pa_cons (pv 0) (pa_cons pe_int pa_nil)))) pa_nil)) (pg_name (i := 5) sc87.nd rfl (Or.inl rfl))
        (C8.pss_cut (ps_setLc (i := 6) (own := [("_law_place", 18)]) (g := gName 18) (tt := tYes) (by rfl) sc87.nd rfl rfl (sw_true rfl rfl rfl (by decide +kernel)) (pi_range1 rfl T.ran (pa_cons pe_int pa_nil)) (blkOk_by (N := N87) (sc := defScope (top 87)) (by decide +kernel)) (fun _ _ _ _ _ => pg_name (i := 18) sc87.nd rfl (Or.inl rfl)) (fun _ _ _ _ _ => pts_nil)
          (fun _ _ _ _ _ => pe_g G85 hr1 pass0 (pa_cons (pv 0) (pa_cons (pe_b (r := rLen K) call_len T.len PySem.boot_len (pa_cons (pv 3) pa_nil)) pa_nil))))
        (pss_one (ps_expr (pe_bm PySem.F.plainAttrs_list PySem.F.slot_list_append PySem.F.type_list_append mt_append (pv 4) (pa_cons (pe_tup (pa_cons (pe_ix ix_list (pv 3) (pe_ix ix_list (pv 6) pe_int (fun _ _ => rfl)) (fun _ _ => rfl)) (pa_cons (pe_ix ix_list (pv 3) (pe_ix ix_list (pv 6) pe_int (fun _ _ => rfl)) (fun _ _ => rfl)) (pa_cons (pe_ix ix_list (pv 3) (pe_ix ix_list (pv 6) pe_int (fun _ _ => rfl)) (fun _ _ => rfl)) pa_nil)))) pa_nil))))))
      (C8.pss_cut (ps_setLc (i := 7) (own := [("_law_name", 19)]) (g := gName 19) (by rfl) sc87.nd rfl rfl (sw_true rfl rfl rfl (by decide +kernel)) (pi_list (pe_op op_cat (pv 2) (pe_lst (pa_cons pe_str pa_nil)))) (blkOk_by (N := N87) (sc := defScope (top 87)) (by decide +kernel)) (fun _ _ _ _ _ => pg_name (i := 19) sc87.nd rfl (Or.inl rfl))
        (fun _ _ _ _ _ => pts_one (pt_cmpR op_gt (pe_g G85 hr1 pass0 (pa_cons (pv 0) (pa_cons pe_int pa_nil))) pe_int (nomark _))) (fun _ _ _ _ _ => pv 19))
      (C8.pss_cut (ps_par (i := 8) (j := 9) rfl sc87.nd rfl rfl (by decide) rfl rfl (pa_cons (pe_ix ix_list (pe_lst (pa_cons (pe_tup (pa_cons pe_str pa_nil)) (pa_cons (pe_tup pa_nil) pa_nil))) (pe_g G85 hr1 pass0 (pa_cons (pv 0) (pa_cons pe_int pa_nil))) (fun _ _ => rfl)) (pa_cons (pe_ix ix_list (pe_lst (pa_cons (pe_tup (pa_cons pe_str pa_nil)) (pa_cons (pe_tup pa_nil) pa_nil))) (pe_g G85 hr1 pass0 (pa_cons (pv 0) (pa_cons pe_int pa_nil))) (fun _ _ => rfl)) pa_nil)) (by rfl))
      (C8.pss_cut (ps_set (i := 10) sc87.nd rfl (Or.inl rfl) (pe_op op_cat (pe_lst (pa_cons (pe_ix ix_list (pv 2) (pe_g G85 hr1 pass0 (pa_cons (pv 0) (pa_cons (pe_b call_len T.len PySem.boot_len (pa_cons (pv 2) pa_nil)) pa_nil))) (fun _ _ => rfl)) pa_nil)) (pe_ifExp (pt_cmpR op_eq (pe_g G85 hr1 pass0 (pa_cons (pv 0) (pa_cons pe_int pa_nil))) pe_int (nomark _)) (pe_lst (pa_cons pe_str pa_nil)) (pe_lst pa_nil))))
      (C8.pss_cut (ps_par3 (i := 11) (j := 12) (l := 13) rfl sc87.nd rfl rfl rfl (by decide) (by decide) (by decide) rfl rfl rfl (pa_cons (pe_ck G530 hr2 pass0 (pa_cons (pe_ix ix_tup (pv 1) pe_int (fun _ _ => rfl)) pa_nil) (pk_cons (pe_ix ix_tup (pv 1) pe_int (fun _ _ => rfl)) pk_nil)) (pa_cons (pe_callTy call_tuple_of (by rfl) T.tup boot_tuple (pa_cons (pv 7) pa_nil)) (pa_cons (pe_callTy call_tuple_of (by rfl) T.tup boot_tuple (pa_cons (pv 10) pa_nil)) pa_nil))) (by rfl))
      (C8.pss_cut (ps_par (i := 14) (j := 15) rfl sc87.nd rfl rfl (by decide) rfl rfl (pa_cons (pe_callTy call_tuple_of (by rfl) T.tup boot_tuple (pa_cons (pv 2) pa_nil)) (pa_cons (pe_callTy call_tuple_of (by rfl) T.tup boot_tuple (pa_cons (pv 4) pa_nil)) pa_nil)) (by rfl))
      (pss_cons (ps_try_as (i := 17) (tb := fun W => tAsg (tMakeK Z.C 5 4 (spCellI Z K C) (fun vs zs => vs ++ zs) (fun cls d H => ∀ σ, W cls d σ H) (tCons (tVar 11) (tCons (tTupF (tCons (tC (.str "p")) tNil)) (tCons (tVar 14) (tCons (tTup (tCons (tC (.str "q")) tNil)) (tCons (tVar 15) tNil))))) (tCons (tVar 12) (tCons (tVar 13) (tCons (tVar 8) (tCons (tVar 9) tNil))))) (gName 16)) (ts := fun _ _ _ => tRet (tC .non)) (Wout := fun _ _ _ _ => False) rfl rfl sc87.nd rfl rfl ⟨rfl, by decide, Or.inl X.g⟩ takesN
          (fun W pn xe tk _ => by exact pss_one (ps_set (i := 16) sc87.nd rfl (Or.inl rfl) (pe_ck (E := fun cls d H => ∀ σ, W cls d σ H) G630 hr (passes_call tk fun _ _ σ _ h => h σ) (pa_cons (pv 11) (pa_cons (pe_tupF (pa_cons pe_str pa_nil)) (pa_cons (pv 14) (pa_cons (pe_tup (pa_cons pe_str pa_nil)) (pa_cons (pv 15) pa_nil))))) (pk_cons (pv 12) (pk_cons (pv 13) (pk_cons (pv 8) (pk_cons (pv 9) pk_nil)))))))
          (fun a oe cls d pn hz hf => by exact pss_one (ps_ret pe_non)))
      (pss_one (ps_ret (pe_lst (pa_cons (pv 16) (pa_cons (pv 4) (pa_cons (pv 7) (pa_cons (pv 10) (pa_cons (pv 8) (pa_cons (pv 9) pa_nil))))))))))))))))), ?_⟩
    obtain ⟨px, py, pz, ha⟩ := id hp
    have hil : inner.length ≤ 2 ∧ 1 ≤ inner.length := by rcases hinn with e | e <;> rw [e] <;> exact ⟨by decide, by decide⟩
    have pure_noT : ∀ {G : Hp}, Purse G a → ∀ o, G a = some o → ¬ TupO o := fun {G} ⟨_, _, _, e⟩ o e' => by rw [e] at e'; cases e'; exact id
    have hnoT := pure_noT hp
    refine ⟨line1000 (by simp), fun l1 h1 => ⟨_, rfl, ?_⟩⟩
    have S1 := Same.new (o := .lst [.str "p"]) h1
    refine ⟨l1, inn, _, _, rfl, rfl, upd_same, S1 _ _ hin, line1000 (by simp; omega), fun l2 h2 => ⟨line1000 (by simp), fun l3 h3 => ?_⟩⟩
    have S2 := S1.trans (Same.new (o := .lst ([.str "p"] ++ inner.map V.str)) h2)
    have S3 := S2.trans (Same.new (o := .lst [.str "q"]) h3)
    refine ⟨l2, l3, _, _, rfl, rfl, (Same.new h3) _ _ upd_same, upd_same, line1000 (by simp; omega), fun ln hln => ?_⟩
    have S4 := S3.trans (Same.new (o := .lst ([.str "p"] ++ inner.map V.str ++ [.str "q"])) hln)
    have eln : upd (upd (upd (upd H l1 (.lst [.str "p"])) l2 (.lst ([.str "p"] ++ inner.map V.str))) l3 (.lst [.str "q"])) ln (.lst ([.str "p"] ++ inner.map V.str ++ [.str "q"])) ln = some (.lst ((nP ++ inner ++ nQ).map V.str)) := by
      rw [upd_same, List.map_append, List.map_append]
      rfl
    generalize upd (upd (upd (upd H l1 (.lst [.str "p"])) l2 (.lst ([.str "p"] ++ inner.map V.str))) l3 (.lst [.str "q"])) ln (.lst ([.str "p"] ++ inner.map V.str ++ [.str "q"])) = H4 at S4 eln ⊢
    refine ⟨line1000 (by simp), fun lr hlr => ?_⟩
    have S5 := S4.trans (Same.new (o := .lst []) hlr)
    have eln5 := (Same.new (o := .lst []) hlr) _ _ eln
    have elr5 : upd H4 lr (.lst []) lr = some (.lst []) := upd_same
    have hlr0 : H lr = none := S4.free hlr
    generalize upd H4 lr (.lst []) = H5 at S5 eln5 elr5 ⊢
    have nla : ln ≠ a := by
      intro e
      rw [e, S4 _ _ ha] at eln
      injection eln with eln
      injection eln with eln
      have := congrArg List.length eln
      rcases hinn with z | z <;> rw [z] at eln <;> injection eln with e1 _ <;> cases e1
    have nra : lr ≠ a := ne_of_none ha hlr0 |>.symm
    have nln : ln ≠ lr := ne_of_none eln hlr
    have hp5 : Purse H5 a := ⟨px, py, pz, S5 _ _ ha⟩
    have Nl : (nP ++ inner ++ nQ).length ≤ 4 := by simp; omega
    -- rows
    refine ⟨fun σ' H' => (∃ x5 x6 x7 x8 x9 x10 x11 x12 x13 x14 x15 x16 x17 x18 x19 xs rows, σ' = [some (.ref a), some (.ref kt), some (.ref inn), some (.ref ln), some (.ref lr), x5, x6, x7, x8, x9, x10, x11, x12, x13, x14, x15, x16, x17, x18, x19] ∧ But a H H' ∧ Purse H' a ∧ H' ln = some (.lst ((nP ++ inner ++ nQ).map V.str)) ∧ H' lr = some (.lst xs) ∧ Paired (RowAt K H') xs rows ∧ rows.length ≤ 2 ∧
      ∀ r ∈ rows, ∀ n ∈ tri r, n ∈ nP ++ inner ++ nQ), ?_, ?_⟩
    · refine ⟨_, rfl, a, 2, rfl, by decide, by decide, hp5, fun H6 d B6 hp6 hd => ⟨_, _, rfl, rfl, (1 : Int) + (d : Nat), rfl, by omega, by omega, ?_⟩⟩
      have en : ((1 : Int) + (d : Nat)).toNat = 1 + d := by omega
      rw [en]
      have e6n := B6 _ _ eln5 nla
      have e6r := B6 _ _ elr5 nra
      have B06 : But a H H6 := S5.but.trans B6
      refine for_it (walk_range (lo := 0) (n := 1 + d)) (fun i σ H' => (∃ x5 x6 x7 x8 x9 x10 x11 x12 x13 x14 x15 x16 x17 x18 x19, σ = [some (.ref a), some (.ref kt), some (.ref inn), some (.ref ln), some (.ref lr), x5, x6, x7, x8, x9, x10, x11, x12, x13, x14, x15, x16, x17, x18, x19]) ∧ But a H H' ∧ Purse H' a ∧ H' ln = some (.lst ((nP ++ inner ++ nQ).map V.str)) ∧
          ∃ xs rows, H' lr = some (.lst xs) ∧ Paired (RowAt K H') xs rows ∧ rows.length = i ∧ ∀ r ∈ rows, ∀ n ∈ tri r, n ∈ nP ++ inner ++ nQ)
        ⟨⟨_, _, _, _, _, _, _, _, _, _, _, _, _, _, _, rfl⟩, B06, hp6, e6n, [], [], e6r, .nil, rfl, fun r h => absurd h List.not_mem_nil⟩ (fun _ _ _ _ _ => trivial) ?_ ?_
      · rintro i x σ _ H7 hi ⟨⟨x5, x6, x7, x8, x9, x10, x11, x12, x13, x14, x15, x16, x17, x18, x19, rfl⟩, B7, hp7, e7n, xs, rows, e7r, hpr, hrl, hrn⟩ ⟨rfl, ex⟩
        refine ⟨fun σ' H' => (∃ pl d0 d1 d2, σ' = [some (.ref a), some (.ref kt), some (.ref inn), some (.ref ln), some (.ref lr), some x, some (.ref pl), x7, x8, x9, x10, x11, x12, x13, x14, x15, x16, x17, x18, x19] ∧ But a H7 H' ∧ Purse H' a ∧ H' pl = some (.lst (ivs [d0, d1, d2])) ∧ d0 < (nP ++ inner ++ nQ).length ∧ d1 < (nP ++ inner ++ nQ).length ∧ d2 < (nP ++ inner ++ nQ).length), ?_, ?_⟩
        · refine ⟨3, rfl, by decide, by decide, fun L hL => ?_⟩
          have nLa : L ≠ a := by obtain ⟨_, _, _, z⟩ := hp7; exact (ne_of_none z hL).symm
          refine cc_it (walk_range (lo := 0) (n := 3)) (fun j H' => But a H7 H' ∧ Purse H' a ∧ ∃ ds : List Nat, H' L = some (.lst (ivs ds)) ∧ ds.length = j ∧ ∀ d ∈ ds, d < (nP ++ inner ++ nQ).length) ⟨(Same.new hL).but, let ⟨u, v, w', z⟩ := hp7; ⟨u, v, w', (Same.new hL) _ _ z⟩, [], upd_same, rfl, fun d h => absurd h List.not_mem_nil⟩ (fun _ _ _ _ => trivial) ?_ ?_
          · rintro j y _ H8 hj ⟨B8, hp8, ds, hds, hdl, hdn⟩ ⟨rfl, ey⟩
            have e8n := B8 _ _ e7n nla
            refine ⟨rfl, _, rfl, _, rfl, _, (nP ++ inner ++ nQ).length, rfl, .inl ⟨_, .inl (.inl e8n), by rw [List.length_map]⟩, a, (nP ++ inner ++ nQ).length, rfl, by simp, by omega, hp8, fun H9 d9 B9 hp9 hd9 => ?_⟩
            obtain ⟨u, v, w', z9⟩ := hp9
            refine ⟨_, B9 _ _ hds nLa, small1000 (by rw [List.length_map]; omega), fun b o e n => ?_, ⟨u, v, w', by rw [upd_ne nLa.symm]; exact z9⟩, ds ++ [d9], by rw [upd_same, ivs_snoc], by simp [hdl], fun d' hd' => ?_⟩
            · rw [upd_ne (ne_of_none e hL)]
              exact B9 _ _ (B8 _ _ e n) n
            · rcases List.mem_append.mp hd' with h | h
              · exact hdn d' h
              · rw [List.mem_singleton.mp h]
                exact hd9
          · rintro H8 ⟨B8, hp8, ds, hds, hdl, hdn⟩
            match ds, hdl, hds, hdn with
            | [d0, d1, d2], _, hds, hdn => exact ⟨L, d0, d1, d2, rfl, B8, hp8, hds, hdn d0 (by simp), hdn d1 (by simp), hdn d2 (by simp)⟩
        · rintro σ' H8 ⟨pl, d0, d1, d2, rfl, B8, hp8, epl, h0, h1, h2⟩
          have e8n := B8 _ _ e7n nla
          have e8r := B8 _ _ e7r nra
          have nm : ∀ {m : Nat}, m < (nP ++ inner ++ nQ).length → ∃ n, n ∈ nP ++ inner ++ nQ ∧ atI ((nP ++ inner ++ nQ).map V.str) (m : Int) = some (.str n) := fun {m} hm => by
            refine ⟨(nP ++ inner ++ nQ)[m], List.getElem_mem hm, atI_nat ?_⟩
            rw [List.getElem?_map, List.getElem?_eq_getElem hm]
            rfl
          obtain ⟨n0, m0, a0⟩ := nm h0
          obtain ⟨n1, m1, a1⟩ := nm h1
          obtain ⟨n2, m2, a2⟩ := nm h2
          refine ⟨_, rfl, .inl ⟨rfl, xs, .inl (.inl e8r)⟩, _, rfl, _, rfl, pl, _, 0, _, rfl, rfl, .inl (.inl epl), atI_nat (j := 0) rfl, ln, _, _, _, rfl, rfl, .inl (.inl e8n), a0, _, rfl, _, rfl, pl, _, 1, _, rfl, rfl, .inl (.inl epl), atI_nat (j := 1) rfl, ln, _, _, _, rfl, rfl, .inl (.inl e8n), a1,
            _, rfl, _, rfl, pl, _, 2, _, rfl, rfl, .inl (.inl epl), atI_nat (j := 2) rfl, ln, _, _, _, rfl, rfl, .inl (.inl e8n), a2, line1000 (by simp), fun tp htp => ?_⟩
          have SN := Same.new (o := .tup [.str n0, .str n1, .str n2]) htp
          have e9r := SN _ _ e8r
          have hno := lst_noT e9r
          obtain ⟨u, v, w', z8⟩ := hp8
          have xl : xs.length = rows.length := Paired.length hpr
          refine ⟨lr, xs, _, rfl, rfl, e9r, small1000 (by omega), ⟨_, _, _, _, _, _, _, _, _, _, _, _, _, _, _, rfl⟩, fun b o e n => ?_, ⟨u, v, w', by rw [upd_ne nra.symm]; exact SN _ _ z8⟩, by rw [upd_ne nln]; exact SN _ _ e8n, _, rows ++ [(n0, n1, n2)], upd_same, ?_, by simp [hrl], fun r hr' n hn => ?_⟩
          · rw [upd_ne (ne_of_none e hlr0)]
            exact SN _ _ (B8 _ _ (B7 _ _ e n) n)
          · exact paired_snoc ⟨tp, rfl, tup_upd hno (.inl (.inl upd_same))⟩ (paired_imp (fun _ _ ⟨b, e, q⟩ => ⟨b, e, tup_upd hno (SN.tup (B8.seqT (pure_noT hp7) q))⟩) hpr)
          · rcases List.mem_append.mp hr' with h | h
            · exact hrn r h n hn
            · rw [List.mem_singleton.mp h] at hn
              simp only [tri, List.mem_cons, List.not_mem_nil, or_false] at hn
              rcases hn with rfl | rfl | rfl <;> assumption
      · rintro σ H7 ⟨⟨x5, x6, x7, x8, x9, x10, x11, x12, x13, x14, x15, x16, x17, x18, x19, rfl⟩, B7, hp7, e7n, xs, rows, e7r, hpr, hrl, hrn⟩
        exact ⟨_, _, _, _, _, _, _, _, _, _, _, _, _, _, _, xs, rows, rfl, B7, hp7, e7n, e7r, hpr, by omega, hrn⟩
    · rintro σ' H6 ⟨x5, x6, x7, x8, x9, x10, x11, x12, x13, x14, x15, x16, x17, x18, x19, xs, rows, rfl, B6, hp6, e6n, e6r, hpr, hrl, hrn⟩
      have nia : inn ≠ a := by
        intro e
        rw [e, ha] at hin
        injection hin with z
        injection z with z
        have := congrArg List.length z
        rw [List.length_map] at this
        simp at this
        omega
      have B6H : But a H6 H6 := fun _ _ e _ => e
      have e6i := B6 _ _ hin nia
      have e6k : SqT K H6 kt [.str q.1, .bl c] := B6.seqT hnoT hkt
      -- on_shelf
      refine ⟨fun σ' H' => (∃ ls on, σ' = [some (.ref a), some (.ref kt), some (.ref inn), some (.ref ln), some (.ref lr), x5, x6, some (.ref ls), x8, x9, x10, x11, x12, x13, x14, x15, x16, x17, x18, x19] ∧ But a H6 H' ∧ Purse H' a ∧ H' ls = some (.lst (on.map V.str)) ∧ List.Sublist on (inner ++ nQ) ∧ ls ≠ a), ?_, ?_⟩
      · refine ⟨_, rfl, line1000 (by simp), fun l1 h1 => ⟨inn, l1, _, _, rfl, rfl, (Same.new h1) _ _ e6i, upd_same, line1000 (by simp; omega), fun l2 h2 => ?_⟩⟩
        have S7 := (Same.new (o := .lst [.str "q"]) h1).trans (Same.new (o := .lst (inner.map V.str ++ [.str "q"])) h2)
        have e7l : upd (upd H6 l1 (.lst [.str "q"])) l2 (.lst (inner.map V.str ++ [.str "q"])) l2 = some (.lst ((inner ++ nQ).map V.str)) := by
          rw [upd_same, List.map_append]
          rfl
        generalize upd (upd H6 l1 (.lst [.str "q"])) l2 (.lst (inner.map V.str ++ [.str "q"])) = H7 at S7 e7l ⊢
        obtain ⟨u, v, w', z6⟩ := hp6
        have z7 := S7 _ _ z6
        have l2a : l2 ≠ a := by
          intro e
          rw [e, z7] at e7l
          injection e7l with z
          injection z with z
          rcases hinn with y | y <;> rw [y] at z <;> injection z with z1 _ <;> cases z1
        refine ⟨l2, rfl, ⟨_, .inl (.inl e7l)⟩, fun L hL => ?_⟩
        have La : L ≠ a := (ne_of_none z7 hL).symm
        have l2L : l2 ≠ L := ne_of_none e7l hL
        refine cc_it (walk_list (xs := (inner ++ nQ).map V.str)) (fun j H' => But a H7 H' ∧ Purse H' a ∧ ∃ on, H' L = some (.lst (on.map V.str)) ∧ List.Sublist on ((inner ++ nQ).take j)) ⟨(Same.new hL).but, ⟨u, v, w', (Same.new hL) _ _ z7⟩, [], upd_same, List.nil_sublist _⟩ (fun j H' _ ⟨B, _⟩ => .inl (.inl (B _ _ e7l l2a))) ?_ ?_
        · rintro j y _ H8 hj ⟨B8, hp8, on, hon, hsub⟩ ⟨rfl, ey⟩
          rw [List.getElem?_map] at ey
          cases ej : (inner ++ nQ)[j]? with
          | none => rw [ej] at ey; cases ey
          | some nm =>
          rw [ej] at ey
          injection ey with ey
          subst ey
          have etk : (inner ++ nQ).take (j + 1) = (inner ++ nQ).take j ++ [nm] := by rw [List.take_add_one, ej]; rfl
          refine ⟨rfl, _, rfl, a, 4, rfl, by decide, by decide, hp8, fun H9 d B9 hp9 hd => ⟨_, _, rfl, rfl, ?_⟩⟩
          have B79 : But a H7 H9 := B8.trans B9
          have hon9 := B9 _ _ hon La
          have hle : on.length ≤ 3 := by
            have := hsub.length_le
            rw [List.length_take, List.length_append] at this
            have e : nQ.length = 1 := rfl
            omega
          by_cases hd0 : (0 : Int) < (d : Nat)
          · refine ⟨_, rfl, iteD hd0 ⟨_, rfl, _, hon9, small1000 (by rw [List.length_map]; omega), fun b o e n => ?_, ?_, on ++ [nm], by rw [upd_same, List.map_append]; rfl, ?_⟩⟩
            · rw [upd_ne (ne_of_none e hL)]
              exact B79 _ _ e n
            · obtain ⟨u, v, w', z9⟩ := hp9
              exact ⟨u, v, w', by rw [upd_ne La.symm]; exact z9⟩
            · rw [etk]
              exact hsub.append (List.Sublist.refl _)
          · refine ⟨_, rfl, iteDN hd0 ⟨B79, hp9, on, hon9, ?_⟩⟩
            rw [etk]
            exact hsub.trans (List.sublist_append_left _ _)
        · rintro H8 ⟨B8, hp8, on, hon, hsub⟩
          rw [List.take_of_length_le (by simp)] at hsub
          exact ⟨L, on, rfl, S7.but.trans B8, hp8, hon, hsub, La⟩
      · rintro σ' H7 ⟨ls, on, rfl, B7, hp7, e7s, hsub, lsa⟩
        have B67 : But a H H7 := B6.trans B7
        have e7i := B67 _ _ hin nia
        have e7k : SqT K H7 kt [.str q.1, .bl c] := B67.seqT hnoT hkt
        -- start, ending
        refine ⟨fun σ' H' => (∃ st en S E, σ' = [some (.ref a), some (.ref kt), some (.ref inn), some (.ref ln), some (.ref lr), x5, x6, some (.ref ls), some (.ref st), some (.ref en), x10, x11, x12, x13, x14, x15, x16, x17, x18, x19] ∧ But a H7 H' ∧ Purse H' a ∧ TxS K H' st S ∧ TxS K H' en E ∧ (S = nP ∨ S = []) ∧ (E = nQ ∨ E = [])), ?_, ?_⟩
        · refine rd_two rfl hp7 fun st S H8 B8 hp8 hst oS => rd_two rfl hp8 fun en E H9 B9 hp9 hen oE => ?_
          exact ⟨_, _, rfl, st, en, S, E, rfl, B8.trans B9, hp9, B9.seqT (pure_noT hp8) hst, hen, oS, oE⟩
        · rintro σ' H8 ⟨st, en, S, E, rfl, B8, hp8, hst, hen, oS, oE⟩
          have B68 : But a H H8 := B67.trans B8
          have e8i := B68 _ _ hin nia
          have e8k : SqT K H8 kt [.str q.1, .bl c] := B68.seqT hnoT hkt
          have e8s := B8 _ _ e7s lsa
          -- goal_form
          refine ⟨fun σ' H' => (∃ gf W, σ' = [some (.ref a), some (.ref kt), some (.ref inn), some (.ref ln), some (.ref lr), x5, x6, some (.ref ls), some (.ref st), some (.ref en), some (.ref gf), x11, x12, x13, x14, x15, x16, x17, x18, x19] ∧ But a H8 H' ∧ Purse H' a ∧ H' gf = some (.lst (W.map V.str)) ∧ (∃ n ∈ inner, W = [n] ∨ W = [n, "q"]) ∧ gf ≠ a), ?_, ?_⟩
          · refine ⟨_, rfl, _, rfl, _, rfl, _, inner.length, rfl, .inl ⟨_, .inl (.inl e8i), by rw [List.length_map]⟩, a, inner.length, rfl, by omega, by omega, hp8, fun H9 d B9 hp9 hd => ?_⟩
            refine ⟨inn, _, _, .str inner[d], rfl, rfl, .inl (.inl (B9 _ _ e8i nia)), atI_nat (by rw [List.getElem?_map, List.getElem?_eq_getElem hd]; rfl), line1000 (by simp), fun l1 h1 => ?_⟩
            have hnm : inner[d] ∈ inner := List.getElem_mem hd
            generalize inner[d] = nm at hnm h1 ⊢
            obtain ⟨u9, v9, w9, z9⟩ := id hp9
            have N1 := Same.new (o := .lst [.str nm]) h1
            have l1a : l1 ≠ a := (ne_of_none z9 h1).symm
            refine ⟨_, rfl, a, 2, rfl, by decide, by decide, ⟨u9, v9, w9, N1 _ _ z9⟩, fun H10 d2 B10 hp10 hd2 => ⟨rfl, _, rfl, ?_⟩⟩
            have e10 : H10 l1 = some (.lst [.str nm]) := B10 _ _ upd_same l1a
            have B810 := (B9.trans N1.but).trans B10
            obtain ⟨u0, v0, w0, z0⟩ := id hp10
            by_cases hd0 : (V.int (d2 : Nat)) = .int 0
            · refine iteD hd0 ⟨line1000 (by simp), fun l2 h2 => ⟨l1, l2, _, _, rfl, rfl, (Same.new h2) _ _ e10, upd_same, line1000 (by simp), fun l3 h3 => ?_⟩⟩
              have S3' := (Same.new (o := .lst [.str "q"]) h2).trans (Same.new (o := .lst ([.str nm] ++ [.str "q"])) h3)
              exact ⟨l3, [nm, "q"], rfl, B810.trans S3'.but, ⟨u0, v0, w0, S3' _ _ z0⟩, upd_same, ⟨nm, hnm, .inr rfl⟩, (ne_of_none ((Same.new h2) _ _ z0) h3).symm⟩
            · refine iteDN hd0 ⟨line1000 (by simp), fun l2 h2 => ⟨l1, l2, _, _, rfl, rfl, (Same.new h2) _ _ e10, upd_same, line1000 (by simp), fun l3 h3 => ?_⟩⟩
              have S3' := (Same.new (o := .lst []) h2).trans (Same.new (o := .lst ([.str nm] ++ [])) h3)
              exact ⟨l3, [nm], rfl, B810.trans S3'.but, ⟨u0, v0, w0, S3' _ _ z0⟩, upd_same, ⟨nm, hnm, .inl rfl⟩, (ne_of_none ((Same.new h2) _ _ z0) h3).symm⟩
          · rintro σ' H9 ⟨gf, W, rfl, B9, hp9, e9g, ⟨n, hn, oW⟩, gfa⟩
            have B69 : But a H H9 := B68.trans B9
            have e9k : SqT K H9 kt [.str q.1, .bl c] := B69.seqT hnoT hkt
            have e9s := B9 _ _ e8s lsa
            have h9st := B9.seqT (pure_noT hp8) hst
            have h9en := B9.seqT (pure_noT hp8) hen
            -- rules, shelf, goals
            refine ⟨fun σ' H' => (∃ rp sp gp, σ' = [some (.ref a), some (.ref kt), some (.ref inn), some (.ref ln), some (.ref lr), x5, x6, some (.ref ls), some (.ref st), some (.ref en), some (.ref gf), some (.ref rp), some (.ref sp), some (.ref gp), x14, x15, x16, x17, x18, x19] ∧ Same H9 H' ∧ KindAt Z.K H' rp q.1 c ∧ TxS K H' sp on ∧ TxS K H' gp W), ?_, ?_⟩
            · refine ⟨_, rfl, kt, _, _, _, rfl, rfl, e9k, atI_nat (j := 0) rfl, _, rfl, kt, _, _, _, rfl, rfl, e9k, atI_nat (j := 1) rfl, rfl, rfl, fun x dx hx hdx hne => ?_⟩
              have Sa := (Same.new (o := .own x) hdx).trans (Same.new (o := .ins Z.K dx []) (show upd H9 dx (.own x) x = none by rw [upd_ne hne.symm]; exact hx))
              refine ⟨x, dx, q, c, rfl, upd_same, hq, fun Ha Ba hka => ⟨rfl, ?_⟩⟩
              have Sb : Same H9 Ha := fun b o e => Ba _ _ (Sa _ _ e) (ne_of_none e hx)
              refine ⟨_, rfl, ls, _, rfl, .inl ⟨.inl (.inl (Sb _ _ e9s)), fun l hl => ⟨_, rfl, gf, _, rfl, .inl ⟨.inl (.inl ((Same.new hl) _ _ (Sb _ _ e9g))), fun l2 hl2 => ?_⟩⟩⟩⟩
              have Sc := (Same.new (o := .tup (on.map V.str)) hl).trans (Same.new (o := .tup (W.map V.str)) hl2)
              exact ⟨_, _, _, rfl, x, l, l2, rfl, Sb.trans Sc, hka.kp Sc.kp, .inl (.inl ((Same.new hl2) _ _ upd_same)), .inl (.inl upd_same)⟩
            · rintro σ' H10 ⟨rp, sp, gp, rfl, S10, hkind, hshelf, hgoals⟩
              have B010 : But a H H10 := B69.trans S10.but
              have e10i := B010 _ _ hin nia
              have e10r : H10 lr = some (.lst xs) := S10 _ _ (B9 _ _ (B8 _ _ (B7 _ _ e6r nra) nra) nra)
              have h10r : Paired (RowAt K H10) xs rows := paired_imp (fun _ _ ⟨b, e, q⟩ => ⟨b, e, S10.tup (B9.seqT (pure_noT hp8) (B8.seqT (pure_noT hp7) (B7.seqT (pure_noT hp6) q)))⟩) hpr
              refine ⟨fun σ' H' => (∃ mp tp, σ' = [some (.ref a), some (.ref kt), some (.ref inn), some (.ref ln), some (.ref lr), x5, x6, some (.ref ls), some (.ref st), some (.ref en), some (.ref gf), some (.ref rp), some (.ref sp), some (.ref gp), some (.ref mp), some (.ref tp), x16, x17, x18, x19] ∧ Same H10 H' ∧ TxS K H' mp inner ∧ SqT K H' tp xs), ?_, ?_⟩
              · refine ⟨_, rfl, inn, _, rfl, .inl ⟨.inl (.inl e10i), fun l hl => ⟨_, rfl, lr, _, rfl, .inl ⟨.inl (.inl ((Same.new hl) _ _ e10r)), fun l2 hl2 => ?_⟩⟩⟩⟩
                have Sc := (Same.new (o := .tup (inner.map V.str)) hl).trans (Same.new (o := .tup xs) hl2)
                exact ⟨_, _, rfl, l, l2, rfl, Sc, .inl (.inl ((Same.new hl2) _ _ upd_same)), .inl (.inl upd_same)⟩
              · rintro σ' H11 ⟨mp, tp, rfl, S11, hmid, htri⟩
                have h11k := hkind.kp S11.kp
                have h11s := S11.tup hshelf
                have h11g := S11.tup hgoals
                have h11st := S11.tup (S10.tup h9st)
                have h11en := S11.tup (S10.tup h9en)
                have h11r : Paired (RowAt K H11) xs rows := paired_imp (fun _ _ ⟨b, e, q⟩ => ⟨b, e, S11.tup q⟩) h10r
                refine ⟨_, rfl, line1000 (by simp), fun ti ob hti eob => ⟨_, rfl, line1000 (by simp), fun to hto => ⟨_, rfl, _, rfl, _, rfl, _, rfl, _, rfl, rfl, rfl, fun x dx hx hdx hne => ?_⟩⟩⟩
                have Sd := (Same.new (o := .frz ob (.tup [.str "p"])) hti).trans (Same.new (o := .tup [.str "q"]) hto)
                have eti := (Same.new (o := .tup [.str "q"]) hto) _ _ (upd_same (a := ti) (H := H11) (o := .frz ob (.tup [.str "p"])))
                have eto : upd (upd H11 ti (.frz ob (.tup [.str "p"]))) to (.tup [.str "q"]) to = some (.tup [.str "q"]) := upd_same
                generalize upd (upd H11 ti (.frz ob (.tup [.str "p"]))) to (.tup [.str "q"]) = H12 at Sd eti eto hx hdx ⊢
                have Se := (Same.new (o := .own x) hdx).trans (Same.new (o := .ins Z.C dx []) (show upd H12 dx (.own x) x = none by rw [upd_ne hne.symm]; exact hx))
                have ex : upd (upd H12 dx (.own x)) x (.ins Z.C dx []) x = some (.ins Z.C dx []) := upd_same
                generalize upd (upd H12 dx (.own x)) x (.ins Z.C dx []) = H13 at Se ex ⊢
                have Sf := Sd.trans Se
                have Bend : ∀ {G : Hp}, But x H13 G → Same H12 G := fun B b o e => B _ _ (Se _ _ e) (ne_of_none e hx)
                obtain ⟨u9, v9, w9, z9⟩ := id hp9
                have z12 := Sd _ _ (S11 _ _ (S10 _ _ z9))
                have B12 : But a H H12 := ((B010.trans S11.but).trans Sd.but)
                have nd : (inner ++ nQ).Nodup := by rcases hinn with e | e <;> rw [e] <;> decide
                have sl := hsub.length_le
                rw [List.length_append] at sl
                have eq1 : nQ.length = 1 := rfl
                have hnq : n ≠ "q" := fun e => by
                  rw [e] at hn
                  rcases hinn with z | z <;> rw [z] at hn <;> revert hn <;> decide
                have sl6 : on.length ≤ 6 := by omega
                have okD : CD.Ok ⟨q, c, inner, rows, on, W, S, E⟩ := by
                  refine ⟨hq, hinn, hrl, hrn, fun m hm => hsub.subset hm, hsub.nodup nd, sl6, ?_, ?_, ?_, oS, oE⟩
                  · rcases oW with e | e <;> subst e <;> intro m hm <;> simp only [List.mem_cons, List.not_mem_nil, or_false] at hm
                    · subst hm
                      exact List.mem_append.mpr (.inl hn)
                    · rcases hm with e | e <;> subst e
                      · exact List.mem_append.mpr (.inl hn)
                      · exact List.mem_append.mpr (.inr (by simp))
                  · rcases oW with e | e <;> subst e
                    · simp
                    · simp [hnq]
                  · rcases oW with e | e
                    · exact .inl ⟨_, e⟩
                    · exact .inr ⟨_, _, e⟩
                refine ⟨x, dx, rp, ti, mp, to, tp, sp, gp, st, en, ob, ⟨q, c, inner, rows, on, W, S, E⟩, rfl, ex, okD, h11k.kp Sf.kp, Se _ _ eti, eob, Sf.tup hmid, Se.tup (.inl (.inl eto)), ⟨xs, Sf.tup htri, paired_imp (fun _ _ ⟨b, e, q⟩ => ⟨b, e, Sf.tup q⟩) h11r⟩, Sf.tup h11s, Sf.tup h11g, Sf.tup h11st, Sf.tup h11en, ?_, ?_⟩
                · intro H14 B14 hcell hnc
                  have S14 := Bend B14
                  have SA : Same H9 H14 := ((S10.trans S11).trans Sd).trans S14
                  refine ⟨rfl, _, rfl, _, rfl, _, rfl, _, rfl, _, rfl, _, rfl, line1000 (by simp), fun l hl => ?_⟩
                  have SL := Same.new (o := .lst [.ref x, .ref lr, .ref ls, .ref gf, .ref st, .ref en]) hl
                  have S11L := (Sd.trans S14).trans SL
                  refine q2 _ l ⟨q, c, inner, rows, on, W, S, E⟩ ((B12.trans S14.but).trans SL.but) ⟨u9, v9, w9, SL _ _ (SA _ _ z9)⟩ ⟨x, lr, ls, gf, st, en, xs, upd_same, hcell.same SL, okD, hnc, S11L _ _ (S11 _ _ e10r), paired_imp (fun _ _ ⟨b, e, q⟩ => ⟨b, e, S11L.tup q⟩) h11r, SL _ _ (SA _ _ e9s), SL _ _ (SA _ _ e9g), S11L.tup h11st, S11L.tup h11en⟩ rfl rfl rfl
                · intro d G B14 σ
                  have S14 := Bend B14
                  exact ⟨true, XM, fun _ b hb => q1 _ (B12.trans S14.but) ⟨u9, v9, w9, S14 _ _ z12⟩, fun z => nomatch z⟩
theorem g87 (T : Txt K mg Z) (X : XTxt K mg C) (XM : PySem.W.exmOne K (.ref C) (.ref C) = some true) (G85 : G85T P w K mg base) (G530 : KDef P w K mg base CX0 1 1 Z.K "Kind" PKI ["calm"] (spKI Z.K)) (G630 : KDef P w K mg base (L2.CX P w) 6 5 Z.C "Cell" PCI ["stored", "wanted", "begin", "end"] (spCellI Z K C))
    (G : GTxt K mg "_law_cell" (top 87) [] []) : GDef P w K mg base CX0 8 "_law_cell" ["_law_purse_here", "_law_kind_here", "_law_inner"] [] (spLC Z K) := gdef G (fun _ _ _ _ _ _ us hl => match us, hl with | [_, _, _], _ => rfl) fun f fd F => ok87 T X XM G85 G530 G630 F
end
end K85
/-! K85WM: the law's letters and the chain's things. -/
namespace K85
open PySem PySem.Spec PyProof.Rows L2
/-- the seven things of two copies -/
def dom : List Th := [(0, "p"), (0, "x"), (0, "y"), (0, "q"), (1, "x"), (1, "y"), (1, "q")]
def txt (t : Th) : Str := t.2 ++ toString t.1
def RL (s : Str) (t : Th) : Prop := t ∈ dom ∧ s = txt t
def RLi (t : Th) (s : Str) : Prop := t ∈ dom ∧ s = txt t
theorem txt_inj : ∀ t ∈ dom, ∀ u ∈ dom, txt t = txt u → t = u := by decide +kernel
theorem rl_f : ∀ (s : Str) (t u : Th), RL s t → RL s u → t = u := fun s t u ⟨h, e⟩ ⟨h', e'⟩ => txt_inj t h u h' (by rw [← e, e'])
theorem rl_i : ∀ (s s' : Str) (t : Th), RL s t → RL s' t → s = s' := fun s s' t ⟨_, e⟩ ⟨_, e'⟩ => by rw [e, e']
theorem lett_txt : ∀ i : Nat, i < 2 → ∀ n ∈ nms, thg i n ∈ dom ∧ lett i n = txt (thg i n) := by decide +kernel
theorem rl_lett {i : Nat} {n : Str} (hi : i < 2) (hn : n ∈ nms) : RL (lett i n) (thg i n) := lett_txt i hi n hn
def lett3 (i : Nat) (r : T3 Str) : T3 Str := (lett i r.1, lett i r.2.1, lett i r.2.2)
def factsL (rows : List (T3 Str)) : List (T3 Str) := (List.range 2).flatMap fun i => rows.map (lett3 i)
theorem mem_factsL {rows : List (T3 Str)} {t : T3 Str} : t ∈ factsL rows ↔ ∃ i, i < 2 ∧ ∃ r ∈ rows, t = lett3 i r := by
  unfold factsL
  constructor
  · intro h
    obtain ⟨i, hi, h⟩ := List.mem_flatMap.mp h
    obtain ⟨r, hr, e⟩ := List.mem_map.mp h
    exact ⟨i, List.mem_range.mp hi, r, hr, e.symm⟩
  · rintro ⟨i, hi, r, hr, rfl⟩
    exact List.mem_flatMap.mpr ⟨i, List.mem_range.mpr hi, List.mem_map.mpr ⟨r, hr, rfl⟩⟩
theorem mem_chain {rows : List (T3 Str)} {t : T3 Th} : t ∈ chain rows ↔ ∃ i, i < 2 ∧ ∃ r ∈ rows, t = thg3 i r := by
  unfold chain
  constructor
  · intro h
    obtain ⟨r, hr, h⟩ := List.mem_flatMap.mp h
    simp only [List.mem_cons, List.not_mem_nil, or_false] at h
    rcases h with e | e
    · exact ⟨0, by omega, r, hr, e⟩
    · exact ⟨1, by omega, r, hr, e⟩
  · rintro ⟨i, hi, r, hr, rfl⟩
    refine List.mem_flatMap.mpr ⟨r, hr, ?_⟩
    match i, hi with
    | 0, _ => simp
    | 1, _ => simp
theorem r3_lett {i : Nat} {r : T3 Str} (hi : i < 2) (hr : ∀ n ∈ tri r, n ∈ nms) : R3 RL (lett3 i r) (thg3 i r) :=
  ⟨rl_lett hi (hr _ (by simp [tri])), rl_lett hi (hr _ (by simp [tri])), rl_lett hi (hr _ (by simp [tri]))⟩
theorem facts_chain {rows : List (T3 Str)} (hr : ∀ r ∈ rows, ∀ n ∈ tri r, n ∈ nms) : ∀ t ∈ factsL rows, ∃ u ∈ chain rows, R3 RL t u := fun t ht => by
  obtain ⟨i, hi, r, h, rfl⟩ := mem_factsL.mp ht
  exact ⟨thg3 i r, mem_chain.mpr ⟨i, hi, r, h, rfl⟩, r3_lett hi (hr r h)⟩
theorem chain_facts {rows : List (T3 Str)} (hr : ∀ r ∈ rows, ∀ n ∈ tri r, n ∈ nms) : ∀ u ∈ chain rows, ∃ t ∈ factsL rows, R3 RLi u t := fun u hu => by
  obtain ⟨i, hi, r, h, rfl⟩ := mem_chain.mp hu
  exact ⟨lett3 i r, mem_factsL.mpr ⟨i, hi, r, h, rfl⟩, r3_lett hi (hr r h)⟩
theorem names_nms {D : CD} (ok : D.Ok) : ∀ n ∈ D.names, n ∈ nms := by
  intro n hn
  unfold CD.names at hn
  rcases ok.inn with e | e <;> rw [e] at hn <;> simp [nms] at hn ⊢ <;> first | exact hn | (rcases hn with h | h | h <;> simp [h])
theorem rows_nms {D : CD} (ok : D.Ok) : ∀ r ∈ D.rows, ∀ n ∈ tri r, n ∈ nms := fun r hr n hn => names_nms ok n (ok.names r hr n hn)
theorem nc_facts {D : CD} (ok : D.Ok) (h : NC D.k.2 D.c (chain D.rows)) : NC D.k.2 D.c (factsL D.rows) := h.rel rl_f (fun x x' y a b => rl_i x x' y a b) (facts_chain (rows_nms ok))
/-- the kept letters stand for the kept things -/
def KeptR (ks : List Str) (B : List Th) : Prop := (∀ s ∈ ks, ∃ t ∈ B, RL s t) ∧ ∀ t ∈ B, ∃ s ∈ ks, RL s t
theorem got_iff {D : CD} {ks : List Str} {B : List Th} (ok : D.Ok) (hk : KeptR ks B) {s : Str} {t : Th} (r : RL s t) : Got (factsL D.rows) ks s ↔ Got (chain D.rows) B t := by
  constructor
  · intro h
    exact h.rel (R := RL) rl_f (facts_chain (rows_nms ok)) hk.1 t r
  · intro h
    exact h.rel (R := RLi) (fun x y y' a b => by rw [a.2, b.2]) (chain_facts (rows_nms ok)) hk.2 s r
theorem want_two {D : CD} (ok : D.Ok) {i : Nat} {n : Str} (hi : i < 2) (hn : n ∈ D.inner ++ nQ) : n ∈ nms ∧ thg i n = ((i : Int), n) := by
  have h : n = "x" ∨ n = "y" ∨ n = "q" := by
    rcases ok.inn with e | e <;> rw [e] at hn <;> simp at hn <;> first | exact hn | (rcases hn with h | h <;> simp [h])
  refine ⟨by rcases h with e | e | e <;> subst e <;> decide, ?_⟩
  unfold thg
  refine if_neg fun z => ?_
  rcases h with e | e | e <;> subst e <;> exact absurd z.2 (by decide)
/-- the kept letters, of kept things out of the shelf and the ends -/
theorem keptR_of {D : CD} (ok : D.Ok) {lost kept : List Th} (hk : ∀ t, t ∈ kept ↔ ((∃ i : Nat, i < 2 ∧ t.1 = (i : Int)) ∧ t.2 ∈ D.stored) ∧ t ∉ lost) :
    KeptR (kept.map txt ++ D.start.map (fun _ => ("p0" : Str)) ++ D.stop.map fun _ => ("q1" : Str)) (keptL D lost) := by
  have kd : ∀ t ∈ kept, t ∈ dom := by
    intro t ht
    obtain ⟨⟨⟨i, hi, e⟩, hs⟩, _⟩ := (hk t).mp ht
    have hw := want_two ok hi (ok.stored _ hs)
    have := (lett_txt i hi t.2 hw.1).1
    rw [hw.2] at this
    rw [show t = ((i : Int), t.2) from by rw [← e]]
    exact this
  have ms : ∀ t, t ∈ (List.range 2).flatMap (stK D lost) ↔ t ∈ kept := by
    intro t
    rw [hk t]
    constructor
    · intro h
      obtain ⟨i, hi, h⟩ := List.mem_flatMap.mp h
      unfold stK at h
      obtain ⟨h1, h2⟩ := List.mem_filter.mp h
      obtain ⟨n, hn, rfl⟩ := List.mem_map.mp h1
      exact ⟨⟨⟨i, List.mem_range.mp hi, rfl⟩, hn⟩, by simpa using h2⟩
    · rintro ⟨⟨⟨i, hi, e⟩, hs⟩, hl⟩
      refine List.mem_flatMap.mpr ⟨i, List.mem_range.mpr hi, ?_⟩
      unfold stK
      exact List.mem_filter.mpr ⟨List.mem_map.mpr ⟨t.2, hs, by rw [← e]⟩, by simpa using hl⟩
  have hp : RL "p0" ((0 : Int), "p") := ⟨by decide, by decide +kernel⟩
  have hq : RL "q1" ((1 : Int), "q") := ⟨by decide, by decide +kernel⟩
  have st : ∀ n ∈ D.start, n = "p" := by rcases ok.start with e | e <;> rw [e] <;> simp
  have en : ∀ n ∈ D.stop, n = "q" := by rcases ok.stop with e | e <;> rw [e] <;> simp
  refine ⟨fun s hs => ?_, fun t ht => ?_⟩
  · rcases List.mem_append.mp hs with h | h
    · rcases List.mem_append.mp h with h | h
      · obtain ⟨t, ht, rfl⟩ := List.mem_map.mp h
        exact ⟨t, List.mem_append.mpr (.inl (List.mem_append.mpr (.inl ((ms t).mpr ht)))), kd t ht, rfl⟩
      · obtain ⟨n, hn, rfl⟩ := List.mem_map.mp h
        exact ⟨_, List.mem_append.mpr (.inl (List.mem_append.mpr (.inr (List.mem_map.mpr ⟨n, hn, rfl⟩)))), by rw [st n hn]; exact hp⟩
    · obtain ⟨n, hn, rfl⟩ := List.mem_map.mp h
      exact ⟨_, List.mem_append.mpr (.inr (List.mem_map.mpr ⟨n, hn, rfl⟩)), by rw [en n hn]; exact hq⟩
  · rcases List.mem_append.mp ht with h | h
    · rcases List.mem_append.mp h with h | h
      · have hkt := (ms t).mp h
        exact ⟨txt t, List.mem_append.mpr (.inl (List.mem_append.mpr (.inl (List.mem_map.mpr ⟨t, hkt, rfl⟩)))), kd t hkt, rfl⟩
      · obtain ⟨n, hn, rfl⟩ := List.mem_map.mp h
        exact ⟨_, List.mem_append.mpr (.inl (List.mem_append.mpr (.inr (List.mem_map.mpr ⟨n, hn, rfl⟩)))), by rw [st n hn]; exact hp⟩
    · obtain ⟨n, hn, rfl⟩ := List.mem_map.mp h
      exact ⟨_, List.mem_append.mpr (.inr (List.mem_map.mpr ⟨n, hn, rfl⟩)), by rw [en n hn]; exact hq⟩
theorem rising_le : ∀ {l : List Str} {a : Str}, risingS a l = true → List.Pairwise (fun a b : Str => a.cps.toList ≤ b.cps.toList) (a :: l)
  | [], a, _ => List.Pairwise.cons (fun _ h => absurd h List.not_mem_nil) .nil
  | b :: r, a, h => by
    unfold risingS at h
    have h2 := (Bool.and_eq_true _ _ ▸ h)
    have hr := rising_le (l := r) (a := b) h2.2
    have hab : a.cps.toList ≤ b.cps.toList := by
      have z := h2.1
      rw [ltCps_eq] at z
      exact List.not_lt.mp (by simpa using z)
    refine List.Pairwise.cons (fun c hc => ?_) hr
    rcases List.mem_cons.mp hc with e | e
    · rw [e]; exact hab
    · exact List.le_trans hab ((List.pairwise_cons.mp hr).1 c e)
theorem sorted_le {l : List Str} (h : sortedS l = true) : List.Pairwise (fun a b : Str => a.cps.toList ≤ b.cps.toList) l := by
  match l, h with
  | [], _ => exact .nil
  | a :: r, h => exact rising_le h
theorem want_sorted {D : CD} {ys : List Str} (hp : ys.Perm D.wanted) (hs : sortedS ys = true) : (wantL D).mergeSort leP = (List.range 2).flatMap fun i => ys.map fun n => (((i : Nat) : Int), n) := by
  refine List.Perm.eq_of_pairwise (le := fun a b => leP a b = true) (fun a b _ _ h1 h2 => ?_) (List.pairwise_mergeSort leP_total.trans (fun a b => by simpa using leP_total.total a b) _) ?_ ?_
  · rw [leP_iff] at h1 h2
    rcases h1 with h1 | ⟨h1, k1⟩ <;> rcases h2 with h2 | ⟨h2, k2⟩
    · omega
    · omega
    · omega
    · have e := List.le_antisymm k1 k2
      have e2 : a.2 = b.2 := by
        exact str_ext e
      exact Prod.ext h1 e2
  · have hw := sorted_le hs
    show List.Pairwise _ (ys.map (fun n => (((0 : Nat) : Int), n)) ++ (ys.map (fun n => (((1 : Nat) : Int), n)) ++ []))
    rw [List.append_nil, List.pairwise_append]
    refine ⟨hw.map _ fun a b h => (leP_iff _ _).mpr (.inr ⟨rfl, h⟩), hw.map _ fun a b h => (leP_iff _ _).mpr (.inr ⟨rfl, h⟩), fun a ha b hb => ?_⟩
    obtain ⟨n, _, rfl⟩ := List.mem_map.mp ha
    obtain ⟨m, _, rfl⟩ := List.mem_map.mp hb
    exact (leP_iff _ _).mpr (.inl (show ((0 : Nat) : Int) < ((1 : Nat) : Int) by decide))
  · refine (List.mergeSort_perm _ _).trans ?_
    unfold wantL
    show (D.wanted.map (fun n => (((0 : Nat) : Int), n)) ++ (D.wanted.map (fun n => (((1 : Nat) : Int), n)) ++ [])).Perm (ys.map (fun n => (((0 : Nat) : Int), n)) ++ (ys.map (fun n => (((1 : Nat) : Int), n)) ++ []))
    exact (hp.symm.map _).append ((hp.symm.map _).append .nil)
/-- all things of a list of names, copy by copy -/
def allT (ys : List Str) : List Th := (List.range 2).flatMap fun i => ys.map fun n => (((i : Nat) : Int), n)
theorem allT_pw {ys : List Str} (hs : sortedS ys = true) (hn : ys.Nodup) : List.Pairwise ltT (allT ys) := by
  have hw : List.Pairwise (fun a b : Str => a.cps.toList ≤ b.cps.toList ∧ a ≠ b) ys := List.Pairwise.and (sorted_le hs) hn
  have one : ∀ i : Int, List.Pairwise ltT (ys.map fun n => (i, n)) := fun i => hw.map _ fun a b h => .inr ⟨rfl, h.2, by
    refine Decidable.byContradiction fun z => ?_
    exact h.2 (str_ext (List.le_antisymm h.1 (List.not_lt.mp z)))⟩
  show List.Pairwise _ (ys.map (fun n => (((0 : Nat) : Int), n)) ++ (ys.map (fun n => (((1 : Nat) : Int), n)) ++ []))
  rw [List.append_nil, List.pairwise_append]
  refine ⟨one _, one _, fun a ha b hb => ?_⟩
  obtain ⟨n, _, rfl⟩ := List.mem_map.mp ha
  obtain ⟨m, _, rfl⟩ := List.mem_map.mp hb
  exact .inl (show ((0 : Nat) : Int) < ((1 : Nat) : Int) by decide)
theorem asc_of {l : List Th} (h : List.Pairwise ltT l) : ∀ (i : Nat) a b, l[i]? = some a → l[i + 1]? = some b → ltT a b := by
  intro i a b ha hb
  obtain ⟨h1, e1⟩ := List.getElem?_eq_some_iff.mp ha
  obtain ⟨h2, e2⟩ := List.getElem?_eq_some_iff.mp hb
  have := List.pairwise_iff_getElem.mp h i (i + 1) h1 h2 (by omega)
  rw [e1, e2] at this
  exact this
theorem mem_allT {ys : List Str} {t : Th} : t ∈ allT ys ↔ (∃ i : Nat, i < 2 ∧ t.1 = (i : Int)) ∧ t.2 ∈ ys := by
  unfold allT
  constructor
  · intro h
    obtain ⟨i, hi, h⟩ := List.mem_flatMap.mp h
    obtain ⟨n, hn, rfl⟩ := List.mem_map.mp h
    exact ⟨⟨i, List.mem_range.mp hi, rfl⟩, hn⟩
  · rintro ⟨⟨i, hi, e⟩, hs⟩
    exact List.mem_flatMap.mpr ⟨i, List.mem_range.mpr hi, List.mem_map.mpr ⟨t.2, hs, by rw [← e]⟩⟩
/-- a parting of a list in two sublists without a common member -/
inductive Part : List Th → List Th → List Th → Prop
  | nil : Part [] [] []
  | left {l a b : List Th} {t : Th} : Part l a b → Part (l ++ [t]) (a ++ [t]) b
  | right {l a b : List Th} {t : Th} : Part l a b → Part (l ++ [t]) a (b ++ [t])
theorem Part.sub {l a b : List Th} (h : Part l a b) : List.Sublist a l := by
  induction h with
  | nil => exact .slnil
  | left _ i => exact i.append (List.Sublist.refl _)
  | right _ i => exact i.trans (List.sublist_append_left _ _)
theorem Part.len {l a b : List Th} (h : Part l a b) : a.length + b.length = l.length := by
  induction h with
  | nil => rfl
  | left _ i => simp; omega
  | right _ i => simp; omega
theorem Part.mem {l a b : List Th} (h : Part l a b) (hn : l.Nodup) : ∀ t, t ∈ b ↔ t ∈ l ∧ t ∉ a := by
  induction h with
  | nil => intro t; simp
  | left h i =>
    intro t
    have hd := List.nodup_append.mp hn
    rw [i hd.1 t]
    simp only [List.mem_append, List.mem_singleton, not_or]
    constructor
    · rintro ⟨h1, h2⟩
      exact ⟨.inl h1, h2, fun e => hd.2.2 t h1 t (by rw [e]; simp) rfl⟩
    · rintro ⟨h1 | h1, h2, h3⟩
      · exact ⟨h1, h2⟩
      · exact absurd h1 h3
  | right h i =>
    intro t
    have hd := List.nodup_append.mp hn
    simp only [List.mem_append, List.mem_singleton]
    rw [i hd.1 t]
    constructor
    · rintro (⟨h1, h2⟩ | h1)
      · exact ⟨.inl h1, h2⟩
      · subst h1
        exact ⟨.inr rfl, fun z => hd.2.2 t (h.sub.subset z) t (by simp) rfl⟩
    · rintro ⟨h1 | h1, h2⟩
      · exact .inl ⟨h1, h2⟩
      · exact .inr h1
theorem ltT_ne {a b : Th} (h : ltT a b) : a ≠ b := by
  rintro rfl
  rcases h with h | h
  · omega
  · exact h.2.1 rfl
theorem sort_uniq {xs ys zs : List Str} (h1 : ys.Perm xs) (s1 : sortedS ys = true) (h2 : zs.Perm xs) (s2 : sortedS zs = true) : ys = zs :=
  List.Perm.eq_of_pairwise (le := fun a b : Str => a.cps.toList ≤ b.cps.toList) (fun a b _ _ p q => str_ext (List.le_antisymm p q)) (sorted_le s1) (sorted_le s2) (h1.trans h2.symm)
theorem sort_ex (xs : List Str) : ∃ ys : List Str, ys.Perm xs ∧ sortedS ys = true := by
  refine ⟨xs.mergeSort fun a b => decide (a.cps.toList ≤ b.cps.toList), List.mergeSort_perm _ _, sortedS_of_pairwise _ ?_⟩
  have h := List.pairwise_mergeSort (le := fun a b : Str => decide (a.cps.toList ≤ b.cps.toList)) (fun a b c p q => decide_eq_true (List.le_trans (of_decide_eq_true p) (of_decide_eq_true q))) (fun a b => by
    have := List.le_total a.cps.toList b.cps.toList
    simpa using this) xs
  refine h.imp fun {a b} p => ?_
  rw [ltCps_eq]
  have := of_decide_eq_true p
  exact decide_eq_false fun z => List.not_lt.mpr this z
end K85
/-! K85WB: what is kept where only the purse changes; letters in a comprehension; the end. -/
namespace K85
open PySem PySem.Spec PyProof.Rows L2
section
variable {K : PySem.W.Frag} {Z : Cs} {H H' : Hp} {a : Addr}
theorem Purse.noT (hp : Purse H a) : ∀ o, H a = some o → ¬ TupO o := fun o e' => by
  obtain ⟨_, _, _, e⟩ := hp
  rw [e] at e'
  cases e'
  exact id
theorem Purse.no {b : Addr} {o : HO} (hp : Purse H a) (e : H b = some o) (n : ∀ x y z : Int, o ≠ .lst [.int x, .int y, .int z]) : b ≠ a := by
  obtain ⟨x, y, z, ha⟩ := hp
  intro z'
  rw [z', ha] at e
  injection e with e
  exact n _ _ _ e.symm
theorem strs_no (ns : List Str) (x y z : Int) : HO.lst (ns.map V.str) ≠ .lst [.int x, .int y, .int z] := fun h => by
  injection h with h
  cases ns with
  | nil => cases h
  | cons u v => injection h with h _; cases h
theorem LetAt.but {C p : Addr} {n : Str} (h : LetAt C H p n) (B : But a H H') (hp : Purse H a) : LetAt C H' p n := by
  obtain ⟨dx, sl, h1, h2⟩ := h
  exact ⟨dx, sl, B _ _ h1 (hp.no h1 fun _ _ _ z => nomatch z), B _ _ h2 (hp.no h2 (strs_no []))⟩
theorem LetN.but {C p : Addr} {n : Str} {H0 : Hp} (h : LetN C H0 H p n) (B : But a H H') (hp : Purse H a) : LetN C H0 H' p n := by
  obtain ⟨dx, sl, h1, h2, c⟩ := h
  exact ⟨dx, sl, B _ _ h1 (hp.no h1 fun _ _ _ z => nomatch z), B _ _ h2 (hp.no h2 (strs_no [])), c⟩
theorem FmAt.but {C p : Addr} {g : Fm} (h : FmAt C H p g) (B : But a H H') (hp : Purse H a) : FmAt C H' p g := by
  cases g with
  | l n => exact LetAt.but h B hp
  | m x y =>
    obtain ⟨dx, sl, pl, pr, h1, h2, h3, h4⟩ := h
    exact ⟨dx, sl, pl, pr, B _ _ h1 (hp.no h1 fun _ _ _ z => nomatch z), B _ _ h2 (hp.no h2 (strs_no ["*"])), h3.but B hp, h4.but B hp⟩
theorem FactAt.but {x : V} {fa : T3 Str} (h : FactAt Z K H x fa) (B : But a H H') (hp : Purse H a) : FactAt Z K H' x fa := by
  obtain ⟨q, pa, pb, e, h1, h2, h3⟩ := h
  exact ⟨q, pa, pb, e, B.seqT hp.noT h1, h2.but B hp, h3.but B hp⟩
theorem FactAt.same {x : V} {fa : T3 Str} (h : FactAt Z K H x fa) (S : Same H H') : FactAt Z K H' x fa := by
  obtain ⟨q, pa, pb, e, h1, h2, h3⟩ := h
  exact ⟨q, pa, pb, e, S.tup h1, h2.kp S.kp, h3.kp S.kp⟩
theorem LetA.same {x : V} {n : Str} (h : LetA Z H x n) (S : Same H H') : LetA Z H' x n := by
  obtain ⟨q, e, h⟩ := h
  exact ⟨q, e, h.kp S.kp⟩
theorem KindAt.but {C p : Addr} {k : Str} {c : Bool} (h : KindAt C H p k c) (B : But a H H') (hp : Purse H a) : KindAt C H' p k c := by
  obtain ⟨dx, h⟩ := h
  exact ⟨dx, B _ _ h (hp.no h fun _ _ _ z => nomatch z)⟩
theorem CellAt.but {p : Addr} {D : CD} (h : CellAt Z K H p D) (B : But a H H') (hp : Purse H a) : CellAt Z K H' p D := by
  obtain ⟨dx, pk, ti, tn, to, tt, ts, tw, tb, te, ob, h1, h2, h3, h4, h5, h6, h7, h8, h9, h10, h11⟩ := h.ex
  have n := hp.noT
  exact ⟨dx, pk, ti, tn, to, tt, ts, tw, tb, te, ob, B _ _ h1 (hp.no h1 fun _ _ _ z => nomatch z), h2.but B hp, B _ _ h3 (hp.no h3 fun _ _ _ z => nomatch z), h4, B.seqT n h5, B.seqT n h6, h7.but B n, B.seqT n h8, B.seqT n h9, B.seqT n h10, B.seqT n h11⟩
/-- a letter of Ha's lists, put at the end of the list at fa -/
theorem LetN.put3 {C : Addr} {H0 H1 H : Hp} {p fa : Addr} {n : Str} {fs : List V} {o o' : HO} (h : LetN C H1 H p n) (d : ∀ b, H1 b = none → H0 b = none) (e1 : H1 fa = some o') (e : H fa = some (.lst fs)) : LetN C H0 (upd H fa o) p n := by
  obtain ⟨dx, sl, a, b, c⟩ := h
  have n1 : p ≠ fa := fun z => by rw [z, e] at a; cases a
  have n2 : sl ≠ fa := fun z => by rw [z, e1] at c; cases c
  exact ⟨dx, sl, by rw [upd_ne n1]; exact a, by rw [upd_ne n2]; exact b, d _ c⟩
/-- a kept letter whose own list was not yet in H0 -/
def LetM (Z : Cs) (H0 H : Hp) (x : V) (n : Str) : Prop := ∃ q, x = V.ref q ∧ LetN Z.F H0 H q n
/-- nothing that was tracked is lost -/
def Dm (H0 H : Hp) : Prop := ∀ b, H b = none → H0 b = none
theorem Dm.trans {H0 H1 H2 : Hp} (a : Dm H0 H1) (b : Dm H1 H2) : Dm H0 H2 := fun c h => a c (b c h)
theorem _root_.L2.Same.dm {H0 H1 : Hp} (S : Same H0 H1) : Dm H0 H1 := fun _ h => S.free h
theorem But.dm {p : Addr} {H0 H1 : Hp} (S : But p H0 H1) {o : HO} (e : H1 p = some o) : Dm H0 H1 := fun b h => by
  cases q : H0 b with
  | none => rfl
  | some u =>
    have n : b ≠ p := fun z => by rw [z, e] at h; cases h
    rw [S _ _ q n] at h
    cases h
theorem LetN.put2 {C : Addr} {H0 H : Hp} {p fa : Addr} {n : Str} {fs : List V} {o : HO} {o' : HO} (h : LetN C H0 H p n) (e0 : H0 fa = some o') (e : H fa = some (.lst fs)) : LetN C H0 (upd H fa o) p n := h.put3 (fun _ h => h) e0 e
theorem LetN.same {C : Addr} {H0 H H' : Hp} {p : Addr} {n : Str} (h : LetN C H0 H p n) (S : Same H H') : LetN C H0 H' p n := by
  obtain ⟨dx, sl, a, b, c⟩ := h
  exact ⟨dx, sl, S _ _ a, S _ _ b, c⟩
theorem LetM.same {H0 : Hp} {x : V} {n : Str} (h : LetM Z H0 H x n) (S : Same H H') : LetM Z H0 H' x n := by
  obtain ⟨q, e, h⟩ := h
  exact ⟨q, e, h.same S⟩
theorem LetM.put2 {H0 : Hp} {x : V} {n : Str} {fa : Addr} {fs : List V} {o o' : HO} (h : LetM Z H0 H x n) (e0 : H0 fa = some o') (e : H fa = some (.lst fs)) : LetM Z H0 (upd H fa o) x n := by
  obtain ⟨q, e1, h⟩ := h
  exact ⟨q, e1, h.put2 e0 e⟩
theorem LetM.but {H0 : Hp} {x : V} {n : Str} (h : LetM Z H0 H x n) (B : But a H H') (hp : Purse H a) : LetM Z H0 H' x n := by
  obtain ⟨q, e1, h⟩ := h
  exact ⟨q, e1, h.but B hp⟩
/-- [letter(z) for n in t] -/
theorem rd_lets {z : Str} {i : Nat} {st : Addr} {S : List Str} {σ : L2.St} {Q : VK} (hz : NameOk z) (hσ : σ[i]? = some (some (V.ref st))) (hs : TxS K H st S) (hl : S.length ≤ 1) (k : ∀ L ks H', Same H H' → H' L = some (.lst ks) → Paired (LetA Z H') ks (S.map fun _ => z) → Q (.ref L) H') :
    tLc (iTup K (tVar i)) (gName 17) tYes (tCall (spLetter Z.F) [] E0 (tCons (tC (V.str z)) tNil)) [17] σ H Q := by
  refine ⟨_, hσ, st, rfl, ⟨_, hs⟩, fun L hL => ?_⟩
  refine cc_it (walk_tup (xs := S.map V.str)) (fun j H' => Same H H' ∧ Dm (upd H L (.lst [])) H' ∧ ∃ ks, H' L = some (.lst ks) ∧ Paired (LetM Z (upd H L (.lst [])) H') ks ((S.take j).map fun _ => z))
    ⟨.new hL, fun _ h => h, [], upd_same, .nil⟩ (fun i H' _ h => h.1.tup hs) ?_ ?_
  · rintro j y _ H8 hj ⟨S8, dm8, ks, eks, hks⟩ ⟨rfl, ey⟩
    rw [List.getElem?_map] at ey
    cases ej : S[j]? with
    | none => rw [ej] at ey; cases ey
    | some n =>
    refine ⟨by simp only [wipe, List.set_set], z, rfl, hz, fun p1 Ha Sa La => ?_⟩
    have ea := Sa _ _ eks
    have kl : ks.length ≤ 1 := by
      have := Paired.length hks
      rw [List.length_map, List.length_take] at this
      omega
    refine ⟨ks, ea, small1000 (by omega), fun b o e => ?_, dm8.trans (But.dm (Sa.but.trans (.upd L _ _)) upd_same), _, upd_same, ?_⟩
    · rw [upd_ne (ne_of_none e hL)]
      exact Sa _ _ (S8 _ _ e)
    · rw [map_snoc ej, List.map_append, List.map_cons, List.map_nil]
      exact paired_snoc ⟨p1, rfl, La.put3 dm8 eks ea⟩ (paired_imp (fun _ _ h => (h.same Sa).put2 upd_same ea) hks)
  · rintro H8 ⟨S8, _, ks, eks, hks⟩
    rw [List.take_of_length_le (by rw [List.length_map]; exact Nat.le_refl _)] at hks
    exact k L ks H8 S8 eks (paired_imp (fun _ _ ⟨q, e, h⟩ => ⟨q, e, h.let⟩) hks)
end
theorem cut4 (xs : List V) : cutV xs none (some 4) = xs.take 4 := by
  unfold cutV
  rw [show (some (4 : Int)) = some ((4 : Nat) : Int) from rfl, HT.sIx_none, HT.sIx_nat, List.drop_zero, Nat.sub_zero]
  rcases Nat.le_total 4 xs.length with h | h
  · rw [Nat.min_eq_left h]
  · rw [Nat.min_eq_right h, List.take_of_length_le (Nat.le_refl _), List.take_of_length_le h]
theorem paired_take {α β : Type} {R : α → β → Prop} : ∀ {xs : List α} {ys : List β}, Paired R xs ys → ∀ n, Paired R (xs.take n) (ys.take n)
  | _, _, _, 0 => by rw [List.take_zero, List.take_zero]; exact .nil
  | _, _, .nil, n + 1 => by rw [List.take_nil, List.take_nil]; exact .nil
  | _, _, .cons q r, n + 1 => .cons q (paired_take r n)
theorem Part.asc {l a b : List Th} (h : Part l a b) (hp : List.Pairwise ltT l) : List.Pairwise ltT a := hp.sublist h.sub
theorem allT_nodup {ys : List Str} (hs : sortedS ys = true) (hn : ys.Nodup) : (allT ys).Nodup := (allT_pw hs hn).imp fun h => ltT_ne h
theorem ThAt.pairA {K : PySem.W.Frag} {H : Hp} {x : V} {t : Th} (h : ThAt H x t) : PairAt K H x t := h.pair
/-! the wanted names and the length of what repr says -/
def goalsL : List (List Str) := [["x"], ["y"], ["q"], ["x", "y"], ["q", "x"], ["q", "y"]]
def subs {α : Type} : List α → List (List α)
  | [] => [[]]
  | a :: r => subs r ++ (subs r).map (a :: ·)
theorem mem_subs {α : Type} {l s : List α} (h : List.Sublist s l) : s ∈ subs l := by
  induction h with
  | slnil => simp [subs]
  | cons a _ i => exact List.mem_append.mpr (.inl i)
  | cons_cons a _ i => exact List.mem_append.mpr (.inr (List.mem_map.mpr ⟨_, i, rfl⟩))
theorem shown_small : ∀ g ∈ goalsL, ∀ s ∈ subs (allT g), (shownP s).length ≤ 1000 := by decide +kernel
theorem goals_mem {D : CD} (ok : D.Ok) {ys : List Str} (hp : ys.Perm D.wanted) (hs : sortedS ys = true) : ys ∈ goalsL := by
  have hw : ∀ n ∈ ys, n = "x" ∨ n = "y" ∨ n = "q" := fun n hn => by
    have h := ok.wanted n (hp.subset hn)
    rcases ok.inn with e | e <;> rw [e] at h <;> simp at h <;> first | (rcases h with h | h <;> simp [h]) | (rcases h with h | h | h <;> simp [h])
  have nd : ys.Nodup := hp.nodup_iff.mpr ok.wantedN
  have hl := hp.length_eq
  have key : ∀ a ∈ (["x", "y", "q"] : List Str), ∀ b ∈ (["x", "y", "q"] : List Str), [a, b].Nodup → sortedS [a, b] = true → [a, b] ∈ goalsL := by decide +kernel
  have key1 : ∀ a ∈ (["x", "y", "q"] : List Str), [a] ∈ goalsL := by decide +kernel
  have hw' : ∀ n ∈ ys, n ∈ (["x", "y", "q"] : List Str) := fun n hn => by simpa using hw n hn
  rcases ok.wanted0 with ⟨a, e⟩ | ⟨a, b, e⟩ <;> rw [e] at hl
  · match ys, hl, hw' with
    | [u], _, hw' => exact key1 u (hw' u (by simp))
  · match ys, hl, hw', nd, hs with
    | [u, v], _, hw', nd, hs => exact key u (hw' u (by simp)) v (hw' v (by simp)) nd hs
theorem rl_good {s : Str} {t : Th} (h : RL s t) : Good s := by
  have k : ∀ t ∈ dom, nameOkB (txt t) = true := by decide +kernel
  rw [h.2]
  exact (nameOk_of (k t h.1)).good
theorem facts_good {D : CD} (ok : D.Ok) {t : T3 Str} {s : Str} (ht : t ∈ factsL D.rows) (hs : s ∈ tri t) : Good s := by
  obtain ⟨i, hi, r, hr, rfl⟩ := mem_factsL.mp ht
  have nm := rows_nms ok r hr
  simp only [tri, lett3, List.mem_cons, List.not_mem_nil, or_false] at hs
  rcases hs with rfl | rfl | rfl <;> exact (lett_ok hi (nm _ (by simp [tri]))).good
theorem factsL_len (rows : List (T3 Str)) : (factsL rows).length = 2 * rows.length := by
  show (rows.map (lett3 0) ++ (rows.map (lett3 1) ++ [])).length = _
  rw [List.append_nil, List.length_append, List.length_map, List.length_map]
  omega
end K85
/-! K85W4: the law. -/
namespace K85
open PySem PySem.Spec PyProof.Rows L2
section
variable {P : Program} {w : World} {K : PySem.W.Frag} {mg : Str → Option Value} {base : Heap} {Z : Cs} {f C : Addr} {fd : FuncData}
theorem LetAt.put {C : Addr} {H : Hp} {p fa : Addr} {n : Str} {fs : List V} {o : HO} (h : LetAt C H p n) (e : H fa = some (.lst fs)) (hne : fs ≠ []) : LetAt C (upd H fa o) p n := by
  obtain ⟨dx, sl, a, b⟩ := h
  have n1 : p ≠ fa := fun z => by rw [z, e] at a; cases a
  have n2 : sl ≠ fa := fun z => by
    rw [z, e] at b
    injection b with b
    injection b with b
    exact hne b
  exact ⟨dx, sl, by rw [upd_ne n1]; exact a, by rw [upd_ne n2]; exact b⟩
theorem LetN.put {C : Addr} {H0 H : Hp} {p fa : Addr} {n : Str} {fs : List V} {o o' : HO} (h : LetN C H0 H p n) (e0 : H0 fa = some o') (e : H fa = some (.lst fs)) : LetAt C (upd H fa o) p n := by
  obtain ⟨dx, sl, a, b, c⟩ := h
  have n1 : p ≠ fa := fun z => by rw [z, e] at a; cases a
  have n2 : sl ≠ fa := fun z => by rw [z, e0] at c; cases c
  exact ⟨dx, sl, by rw [upd_ne n1]; exact a, by rw [upd_ne n2]; exact b⟩
theorem MulAt.put {C : Addr} {H : Hp} {p pl pr fa : Addr} {a b : Str} {fs : List V} {o : HO} (h : MulAt C H p pl pr a b) (e : H fa = some (.lst fs)) (hne : fs ≠ [.str "*"]) : MulAt C (upd H fa o) p pl pr a b := by
  obtain ⟨dx, sl, h1, h2⟩ := h
  have n1 : p ≠ fa := fun z => by rw [z, e] at h1; cases h1
  have n2 : sl ≠ fa := fun z => by
    rw [z, e] at h2
    injection h2 with h2
    injection h2 with h2
    exact hne h2
  exact ⟨dx, sl, by rw [upd_ne n1]; exact h1, by rw [upd_ne n2]; exact h2⟩
theorem MulAt.same {C : Addr} {H H' : Hp} {p pl pr : Addr} {a b : Str} (h : MulAt C H p pl pr a b) (S : Same H H') : MulAt C H' p pl pr a b := by
  obtain ⟨dx, sl, h1, h2⟩ := h
  exact ⟨dx, sl, S _ _ h1, S _ _ h2⟩
theorem MulAt.fm {C : Addr} {H : Hp} {p pl pr : Addr} {a b : Str} (h : MulAt C H p pl pr a b) (ha : LetAt C H pl a) (hb : LetAt C H pr b) : FmAt C H p (.m a b) := by
  obtain ⟨dx, sl, h1, h2⟩ := h
  exact ⟨dx, sl, pl, pr, h1, h2, ha, hb⟩
theorem FactAt.put {Z : Cs} {K : PySem.W.Frag} {H : Hp} {x : V} {fa0 : T3 Str} {fa : Addr} {fs fs' : List V} (h : FactAt Z K H x fa0) (e : H fa = some (.lst fs)) (h1 : fs ≠ []) (h2 : fs ≠ [.str "*"]) : FactAt Z K (upd H fa (.lst fs')) x fa0 := by
  obtain ⟨q, pa, pb, ex, hq, ⟨dx, sl, pl, pr, m1, m2, ml, mr⟩, hb⟩ := h
  exact ⟨q, pa, pb, ex, tup_upd (lst_noT e) hq, (MulAt.put ⟨dx, sl, m1, m2⟩ e h2).fm (ml.put e h1) (mr.put e h1), hb.put e h1⟩
abbrev N89 : List Str := ["_law_purse_here", "_law_kind_here", "_law_inner", "_law_state", "_law_mine", "_law_rows", "_law_on_shelf", "_law_goal_form", "_law_start", "_law_ending", "_law_facts", "_law_index", "_law_one", "_law_other", "_law_mixed", "_law_lost", "_law_kept", "_law_name", "_law_due"]
theorem sc89 : FnScope N89 ["_law_purse_here"] (defScope (top 89)) := ⟨rfl, rfl, rfl, by decide +kernel, rfl, by decide +kernel, by decide +kernel⟩
def spRight : Sp := fun vs H Q _ => ∃ a : Addr, vs = [.ref a] ∧ Purse H a ∧ ∀ H', But a H H' → Q (.bl true) H'
theorem ok89 (T : Txt K mg Z) (sf : PySem.W.selfFirst K Z.F = true) (G85 : G85T P w K mg base) (G86 : GDef P w K mg base CX0 2 "_law_kind" ["_law_purse_here"] [] spKd) (G87 : GDef P w K mg base CX0 8 "_law_cell" ["_law_purse_here", "_law_kind_here", "_law_inner"] [] (spLC Z K))
    (G88 : GDef P w K mg base CX0 4 "_law_letter" N88 [] (spLt Z)) (G41 : GDef P w K mg base CX0 3 "letter" ["name"] [] (spLetter Z.F)) (O405 : ODef P w K mg base 4 Z.F "__mul__" ["self", "other"] (spMul Z.F)) (G530 : KDef P w K mg base CX0 1 1 Z.K "Kind" PKI ["calm"] (spKI Z.K))
    (G82 : GDef P w K mg base CX0 10 "tells" N81 [] (spTells Z K)) (G72 : GDef P w K mg base CX0 4 "untold" ["cell", "count", "lost"] [] (spUntold Z K))
    (F : TF K "_law_right" "_law_right" (top 89) [] [] f fd) : FnG P w K mg base 11 f fd ["_law_purse_here"] spRight := by
  refine fnG_of F sc89 (fun vs H Q E h => ?_) (fun cdv A outer s H vs Q E hg hr h => ?_)
  · obtain ⟨_, rfl, _⟩ := h
    rfl
  · obtain ⟨a, rfl, hp, q⟩ := h
    obtain ⟨fm, fdm, FM, hbM, oM⟩ := O405
    have hr1 : Room 1 _ := hr.mono (by decide)
    have hr2 : Room 2 _ := hr.mono (by decide)
    have hr3 : Room 3 _ := hr.mono (by decide)
    have hr4 : Room 4 _ := hr.mono (by decide)
    have hr8 : Room 8 _ := hr.mono (by decide)
    have nd := sc89.nd
    refine ⟨_, PSs.nox <| pss_cons (ps_par (i := 1) (j := 2) rfl nd rfl rfl (by decide) rfl rfl (pa_cons (pe_g G86 hr2 pass0 (pa_cons (pv 0) pa_nil)) (pa_cons (pe_slice sl_list (pe_lst (pa_cons pe_str (pa_cons pe_str pa_nil))) po_none (po_some (pe_op op_add pe_int (pe_g G85 hr1 pass0 (pa_cons (pv 0) (pa_cons pe_int pa_nil)))))) pa_nil)) (by rfl))
      (pss_cons (ps_set (i := 3) nd rfl (Or.inl rfl) (pe_g G87 hr8 pass0 (pa_cons (pv 0) (pa_cons (pv 1) (pa_cons (pv 2) pa_nil)))))
      (pss_cons (ps_if (pt_cmpR op_isN (pv 3) pe_non rfl) (pss_one (ps_ret pe_bl)) pss_nil)
      (pss_cons (ps_asg (pv 3) (pg_unl rfl (pgs_cons (pg_name (i := 4) nd rfl (Or.inl rfl)) (pgs_cons (pg_name (i := 5) nd rfl (Or.inl rfl)) (pgs_cons (pg_name (i := 6) nd rfl (Or.inl rfl)) (pgs_cons (pg_name (i := 7) nd rfl (Or.inl rfl)) (pgs_cons (pg_name (i := 8) nd rfl (Or.inl rfl)) (pgs_cons (pg_name (i := 9) nd rfl (Or.inl rfl)) pgs_nil))))))))
      (pss_cons (ps_set (i := 10) nd rfl (Or.inl rfl) (pe_lst pa_nil))
      (C8.pss_cut (ps_for PassesOwn.never rfl (pi_range1 rfl T.ran (pa_cons pe_int pa_nil)) (pg_name (i := 11) nd rfl (Or.inl rfl))
        (pss_one (ps_for PassesOwn.never rfl (pi_list (pv 5)) (pg_tup rfl (pgs_cons (pg_name (i := 12) nd rfl (Or.inl rfl)) (pgs_cons (pg_name (i := 13) nd rfl (Or.inl rfl)) (pgs_cons (pg_name (i := 14) nd rfl (Or.inl rfl)) pgs_nil))))
          (pss_one (ps_expr (pe_bm PySem.F.plainAttrs_list PySem.F.slot_list_append PySem.F.type_list_append mt_append (pv 10) (pa_cons (pe_tup (pa_cons (pe_op (op_mulO T.iF.cl sf oM FM hr4 hbM pass0) (pe_g G88 hr4 pass0 (pa_cons (pv 11) (pa_cons (pv 12) pa_nil))) (pe_g G88 hr4 pass0 (pa_cons (pv 11) (pa_cons (pv 13) pa_nil)))) (pa_cons (pe_g G88 hr4 pass0 (pa_cons (pv 11) (pa_cons (pv 14) pa_nil))) pa_nil))) pa_nil)))))))
      (pss_cons (ps_par (i := 15) (j := 16) rfl nd rfl rfl (by decide) rfl rfl (pa_cons (pe_lst pa_nil) (pa_cons (pe_lst pa_nil) pa_nil)) (by rfl))
      (C8.pss_cut (ps_for PassesOwn.never rfl (pi_range1 rfl T.ran (pa_cons pe_int pa_nil)) (pg_name (i := 11) nd rfl (Or.inl rfl))
        (pss_one (ps_for PassesOwn.never rfl (pi_list (pe_b cr_sortedS T.srt boot_sorted (pa_cons (pv 6) pa_nil))) (pg_name (i := 17) nd rfl (Or.inl rfl))
          (pss_one (ps_if (pt_cmpR op_eq (pe_g G85 hr1 pass0 (pa_cons (pv 0) (pa_cons pe_int pa_nil))) pe_int (nomark _))
            (pss_one (ps_expr (pe_bm PySem.F.plainAttrs_list PySem.F.slot_list_append PySem.F.type_list_append mt_append (pv 15) (pa_cons (pe_tup (pa_cons (pv 11) (pa_cons (pv 17) pa_nil))) pa_nil))))
            (pss_one (ps_expr (pe_bm PySem.F.plainAttrs_list PySem.F.slot_list_append PySem.F.type_list_append mt_append (pv 16) (pa_cons (pe_g G88 hr4 pass0 (pa_cons (pv 11) (pa_cons (pv 17) pa_nil))) pa_nil)))))))))
      (C8.pss_cut (ps_set (i := 16) nd rfl (Or.inl rfl) (pe_op op_cat (pe_op op_cat (pe_slice sl_list (pv 16) po_none (po_some pe_int))
          (pe_lc (own := [("_law_name", 17)]) (g := gName 17) (tt := tYes) (by rfl) nd (pi_tup (pv 8)) (blkOk_by (N := N89) (sc := defScope (top 89)) (by decide +kernel)) (fun _ _ _ _ _ => pg_name (i := 17) nd rfl (Or.inl rfl)) (fun _ _ _ _ _ => pts_nil) (fun _ _ _ _ _ => pe_g G41 hr3 pass0 (pa_cons pe_str pa_nil))))
          (pe_lc (own := [("_law_name", 17)]) (g := gName 17) (tt := tYes) (by rfl) nd (pi_tup (pv 9)) (blkOk_by (N := N89) (sc := defScope (top 89)) (by decide +kernel)) (fun _ _ _ _ _ => pg_name (i := 17) nd rfl (Or.inl rfl)) (fun _ _ _ _ _ => pts_nil) (fun _ _ _ _ _ => pe_g G41 hr3 pass0 (pa_cons pe_str pa_nil)))))
      (pss_cons (ps_if (PW.pt (pw_or (pt_cmpR op_gt (pe_b call_len T.len PySem.boot_len (pa_cons (pv 16) pa_nil)) pe_int (nomark _)) (pw_or1 (pt_cmpR op_gt (pe_op op_sub (pe_op op_mul (pe_b call_len T.len PySem.boot_len (pa_cons (pv 6) pa_nil)) pe_int) (pe_b call_len T.len PySem.boot_len (pa_cons (pv 15) pa_nil))) pe_int (nomark _))))) (pss_one (ps_ret pe_bl)) pss_nil)
      (pss_cons (ps_set (i := 18) nd rfl (Or.inl rfl) (pe_lst pa_nil))
      (C8.pss_cut (ps_for PassesOwn.never rfl (pi_range1 rfl T.ran (pa_cons pe_int pa_nil)) (pg_name (i := 11) nd rfl (Or.inl rfl))
        (pss_one (ps_for PassesOwn.never rfl (pi_list (pe_b cr_sortedS T.srt boot_sorted (pa_cons (pv 7) pa_nil))) (pg_name (i := 17) nd rfl (Or.inl rfl))
          (pss_one (ps_if (pt_not (pt_val (pe_g G82 hr pass0 (pa_cons (pe_ck G530 hr2 pass0 (pa_cons (pe_ix ix_tup (pv 1) pe_int (fun _ _ => rfl)) pa_nil) (pk_cons (pe_ix ix_tup (pv 1) pe_int (fun _ _ => rfl)) pk_nil)) (pa_cons (pe_callTy call_tuple_of (by rfl) T.tup boot_tuple (pa_cons (pv 10) pa_nil)) (pa_cons (pe_callTy call_tuple_of (by rfl) T.tup boot_tuple (pa_cons (pv 16) pa_nil)) (pa_cons (pe_g G88 hr4 pass0 (pa_cons (pv 11) (pa_cons (pv 17) pa_nil))) pa_nil)))))))
            (pss_one (ps_expr (pe_bm PySem.F.plainAttrs_list PySem.F.slot_list_append PySem.F.type_list_append mt_append (pv 18) (pa_cons (pe_tup (pa_cons (pv 11) (pa_cons (pv 17) pa_nil))) pa_nil)))) pss_nil)))))
      (pss_one (ps_ret (pe_cmpR op_eq (pe_b (call_reprP hg hr) T.rpr boot_repr (pa_cons (pe_g G72 hr4 pass0 (pa_cons (pv 4) (pa_cons pe_int (pa_cons (pe_callTy call_tuple_of (by rfl) T.tup boot_tuple (pa_cons (pv 15) pa_nil)) pa_nil)))) pa_nil))
        (pe_b (call_reprP hg hr) T.rpr boot_repr (pa_cons (pe_callTy call_tuple_of (by rfl) T.tup boot_tuple (pa_cons (pv 18) pa_nil)) pa_nil)) (nomark _))))))))))))))), ?_⟩
    obtain ⟨px, py, pz, ha⟩ := id hp
    refine ⟨_, rfl, a, rfl, hp, fun H1 kt kd c hq B1 hp1 ekt => ?_⟩
    obtain ⟨px1, py1, pz1, ha1⟩ := id hp1
    have kta : kt ≠ a := fun e => by rw [e, ha1] at ekt; cases ekt
    refine ⟨line1000 (by simp), fun l0 h0 => ?_⟩
    have S1 := Same.new (o := .lst [.str "x", .str "y"]) h0
    have l0a : l0 ≠ a := (ne_of_none ha1 h0).symm
    refine ⟨_, rfl, a, 2, rfl, by decide, by decide, ⟨px1, py1, pz1, S1 _ _ ha1⟩, fun H2 d B2 hp2 hd => ⟨_, _, rfl, rfl, _, rfl, l0, _, rfl, .inl (.inl (B2 _ _ upd_same l0a)), fun inn hinn => ?_⟩⟩
    have e2kt := B2 _ _ (S1 _ _ ekt) kta
    obtain ⟨inner, ein, oin⟩ : ∃ inner : List Str, cutV [V.str "x", .str "y"] none (some ((1 : Int) + (d : Nat))) = inner.map V.str ∧ (inner = nX ∨ inner = nXY) := by
      match d, hd with
      | 0, _ => exact ⟨nX, by decide +kernel, .inl rfl⟩
      | 1, _ => exact ⟨nXY, by decide +kernel, .inr rfl⟩
    rw [ein]
    obtain ⟨px2, py2, pz2, ha2⟩ := id hp2
    have S3 := Same.new (o := .lst (inner.map V.str)) hinn
    have inna : inn ≠ a := (ne_of_none ha2 hinn).symm
    have e3i : upd H2 inn (.lst (inner.map V.str)) inn = some (.lst (inner.map V.str)) := upd_same
    have e3k := S3 _ _ e2kt
    have hp3 : Purse (upd H2 inn (.lst (inner.map V.str))) a := ⟨px2, py2, pz2, S3 _ _ ha2⟩
    have B03 := (((B1.trans S1.but).trans B2).trans S3.but)
    generalize upd H2 inn (.lst (inner.map V.str)) = H3 at e3i e3k hp3 B03 ⊢
    refine ⟨_, _, rfl, _, rfl, _, rfl, _, rfl, a, kt, inn, kd, c, inner, rfl, hp3, .inl (.inl e3k), hq, e3i, oin, fun H4 B4 hp4 => ?_, fun H4 l D B4 hp4 hout eK eC eI => ?_⟩
    · exact ⟨_, rfl, rfl, _, rfl, iteD rfl (q _ (B03.trans B4))⟩
    · obtain ⟨m, rl, sh, go, st, en, xs, el, hcell, ok, hnc, erl, hrl, esh, ego, hst, hen⟩ := hout
      refine ⟨_, rfl, rfl, _, rfl, iteDN (fun z => nomatch z) ⟨_, rfl, l, _, rfl, .inl (.inl el), rfl, ?_⟩⟩
      obtain ⟨px4, py4, pz4, ha4⟩ := id hp4
      refine ⟨_, _, rfl, _, _, rfl, _, _, rfl, _, _, rfl, _, _, rfl, _, _, rfl, rfl, line1000 (by simp), fun fa hfa => ?_⟩
      have S5 := Same.new (o := .lst []) hfa
      have faa : fa ≠ a := (ne_of_none ha4 hfa).symm
      have nofa : H4 fa = none := hfa
      -- the facts
      refine ⟨fun σ' H' => (∃ x11 x12 x13 x14 x15 x16 x17 x18 fs, σ' = [some (.ref a), some (.ref kt), some (.ref inn), some (.ref l), some (.ref m), some (.ref rl), some (.ref sh), some (.ref go), some (.ref st), some (.ref en), some (.ref fa), x11, x12, x13, x14, x15, x16, x17, x18] ∧ Same H4 H' ∧ H' fa = some (.lst fs) ∧ Paired (FactAt Z K H') fs (factsL D.rows)), ?_, ?_⟩
      · have e5fa : upd H4 fa (.lst []) fa = some (.lst []) := upd_same
        have e5rl := S5 _ _ erl
        have h5rl : Paired (RowAt K (upd H4 fa (.lst []))) xs D.rows := paired_imp (fun _ _ ⟨b, e, q⟩ => ⟨b, e, S5.tup q⟩) hrl
        generalize upd H4 fa (.lst []) = H5 at S5 e5fa e5rl h5rl ⊢
        have rlfa : rl ≠ fa := ne_of_none erl hfa
        have xl : xs.length = D.rows.length := Paired.length hrl
        have rl2 := ok.rows
        refine ⟨_, rfl, by decide, by decide, for_it (walk_range (lo := 0) (n := 2)) (fun i σ H' => (∃ x11 x12 x13 x14 x15 x16 x17 x18, σ = [some (.ref a), some (.ref kt), some (.ref inn), some (.ref l), some (.ref m), some (.ref rl), some (.ref sh), some (.ref go), some (.ref st), some (.ref en), some (.ref fa), x11, x12, x13, x14, x15, x16, x17, x18]) ∧ Same H4 H' ∧ ∃ fs, H' fa = some (.lst fs) ∧ Paired (FactAt Z K H') fs ((List.range i).flatMap fun i => D.rows.map (lett3 i)))
          ⟨⟨_, _, _, _, _, _, _, _, rfl⟩, S5, [], e5fa, .nil⟩ (fun _ _ _ _ _ => trivial) ?_ ?_⟩
        · rintro i x σ _ H6 hi ⟨⟨x11, x12, x13, x14, x15, x16, x17, x18, rfl⟩, S6, fs, efa, hfs⟩ ⟨rfl, ex⟩
          have ex' : x = .int (i : Nat) := by
            rw [ex]
            show V.int (0 + (i : Int)) = _
            rw [Int.zero_add]
          clear ex
          subst ex'
          refine ⟨_, rfl, rl, rfl, ⟨_, .inl (.inl (S6 _ _ erl))⟩, ?_⟩
          refine for_it (walk_list (xs := xs)) (fun j σ H' => (∃ x12 x13 x14 x15 x16 x17 x18, σ = [some (.ref a), some (.ref kt), some (.ref inn), some (.ref l), some (.ref m), some (.ref rl), some (.ref sh), some (.ref go), some (.ref st), some (.ref en), some (.ref fa), some (.int (i : Nat)), x12, x13, x14, x15, x16, x17, x18]) ∧ Same H4 H' ∧ ∃ fs, H' fa = some (.lst fs) ∧ Paired (FactAt Z K H') fs (((List.range i).flatMap fun i => D.rows.map (lett3 i)) ++ (D.rows.take j).map (lett3 i)))
            ⟨⟨_, _, _, _, _, _, _, rfl⟩, S6, fs, efa, by rw [List.take_zero, List.map_nil, List.append_nil]; exact hfs⟩ (fun j σ H' _ ⟨_, S, _⟩ => .inl (.inl (S _ _ erl))) ?_ ?_
          · rintro j y σ _ H7 hj ⟨⟨x12, x13, x14, x15, x16, x17, x18, rfl⟩, S7, fs, efa, hfs⟩ ⟨rfl, ey⟩
            obtain ⟨r, er, b, rfl, hb⟩ := paired_at hrl ey
            have hr7 := S7.tup hb
            have nm := rows_nms ok r (List.mem_of_getElem? er)
            refine ⟨b, _, rfl, hr7, rfl, _, _, rfl, _, _, rfl, _, _, rfl, rfl, _, rfl, .inl ⟨rfl, fs, .inl (.inl efa)⟩, ?_⟩
            refine ⟨_, rfl, _, rfl, i, r.1, rfl, hi, nm _ (by simp [tri]), fun p1 Ha Sa La => ⟨_, rfl, _, rfl, i, r.2.1, rfl, hi, nm _ (by simp [tri]), fun p2 Hb Sb Lb => ?_⟩⟩
            have La2 := La.let.kp Sb.kp
            have g1 := (lett_ok hi (nm r.1 (by simp [tri]))).good.1
            have g2 := (lett_ok hi (nm r.2.1 (by simp [tri]))).good.1
            obtain ⟨dx1, sl1, e1, _⟩ := id La2
            obtain ⟨dx2, sl2, e2, _⟩ := id Lb.let
            refine ⟨p1, p2, _, _, _, _, rfl, rfl, e1, e2, p1, p2, _, _, rfl, La2, Lb.let, g1, g2, fun p3 Hc Sc Fc => ⟨_, rfl, _, rfl, i, r.2.2, rfl, hi, nm _ (by simp [tri]), fun p4 Hd Sd Ld => ⟨line1000 (by simp), fun tp htp => ?_⟩⟩⟩
            have SN := Same.new (o := .tup [.ref p3, .ref p4]) htp
            have S7N := (((Sa.trans Sb).trans Sc).trans Sd).trans SN
            have hno := lst_noT (S7N _ _ efa)
            have fl : fs.length ≤ 4 := by
              rw [Paired.length hfs, List.length_append, List.length_map, List.length_take]
              match i, hi with
              | 0, _ => simp; omega
              | 1, _ => simp; omega
            refine ⟨fa, fs, _, rfl, rfl, S7N _ _ efa, small1000 (by omega), ⟨_, _, _, _, _, _, _, rfl⟩, fun b o e => ?_, _, upd_same, ?_⟩
            · rw [upd_ne (ne_of_none e nofa)]
              exact S7N _ _ (S7 _ _ e)
            · have eN := S7N _ _ efa
              have old : Paired (FactAt Z K (upd (upd Hd tp (.tup [.ref p3, .ref p4])) fa (.lst (fs ++ [.ref tp])))) fs (((List.range i).flatMap fun i => D.rows.map (lett3 i)) ++ (D.rows.take j).map (lett3 i)) := by
                cases hfs0 : fs with
                | nil => rw [hfs0] at hfs; cases hfs' : ((List.range i).flatMap fun i => D.rows.map (lett3 i)) ++ (D.rows.take j).map (lett3 i) with
                  | nil => exact .nil
                  | cons u v => rw [hfs'] at hfs; cases hfs
                | cons f0 fr =>
                  rw [hfs0] at hfs eN
                  have star : (f0 :: fr) ≠ [V.str "*"] := fun z => by
                    injection z with z1 z2
                    obtain ⟨y, _, hy⟩ := paired_at hfs (i := 0) (x := f0) rfl
                    obtain ⟨qq, _, _, eq, _⟩ := hy
                    rw [z1] at eq
                    cases eq
                  exact paired_imp (fun _ _ ⟨qq, qa, qb, e, a1, a2, a3⟩ => FactAt.put ⟨qq, qa, qb, e, S7N.tup a1, a2.kp S7N.kp, a3.kp S7N.kp⟩ eN (by simp) star) hfs
              rw [map_snoc er, List.map_append, List.map_cons, List.map_nil, ← List.append_assoc]
              have eA := Sa _ _ efa
              have fsS : fs ≠ [V.str "*"] := fun z => by
                have hl := Paired.length hfs
                rw [z] at hfs
                obtain ⟨y, _, hy⟩ := paired_at hfs (i := 0) (x := .str "*") rfl
                obtain ⟨qq, _, _, eq, _⟩ := hy
                cases eq
              refine paired_snoc ⟨tp, p3, p4, rfl, tup_upd hno (.inl (.inl upd_same)), ?_, ?_⟩ old
              · exact ((Fc.same (Sd.trans SN)).put eN fsS).fm ((La.same (((Sb.trans Sc).trans Sd).trans SN)).put efa eN) ((Lb.same ((Sc.trans Sd).trans SN)).put eA eN)
              · exact (Ld.same SN).put (((Sa.trans Sb).trans Sc) _ _ efa) eN
          · rintro σ H7 ⟨⟨x12, x13, x14, x15, x16, x17, x18, rfl⟩, S7, fs, efa, hfs⟩
            refine ⟨⟨_, _, _, _, _, _, _, _, rfl⟩, S7, fs, efa, ?_⟩
            rw [List.take_of_length_le (by omega)] at hfs
            rw [List.range_succ, List.flatMap_append, List.flatMap_cons, List.flatMap_nil, List.append_nil]
            exact hfs
        · rintro σ H6 ⟨⟨x11, x12, x13, x14, x15, x16, x17, x18, rfl⟩, S6, fs, efa, hfs⟩
          exact ⟨_, _, _, _, _, _, _, _, fs, rfl, S6, efa, hfs⟩
      · rintro σ' H5 ⟨x11, x12, x13, x14, x15, x16, x17, x18, fs, rfl, S45, efa, hfs⟩
        have e5kt : SqT K H5 kt [.str kd.1, .bl c] := S45.tup (B4.seqT (fun o e => by obtain ⟨_, _, _, z⟩ := hp3; rw [z] at e; cases e; exact id) (.inl (.inl e3k)))
        refine ⟨line1000 (by simp), fun lo hlo => ⟨line1000 (by simp), fun ke hke => ?_⟩⟩
        have S56 := (Same.new (o := .lst []) hlo).trans (Same.new (o := .lst []) hke)
        obtain ⟨ys, yp, ysr⟩ := sort_ex D.stored
        have e5sh : H5 sh = some (.lst (D.stored.map V.str)) := S45 _ _ esh
        obtain ⟨px4', py4', pz4', ha4'⟩ := id hp4
        have ha5 : H5 a = some (.lst [.int px4', .int py4', .int pz4']) := S45 _ _ ha4'
        have loa : lo ≠ a := (ne_of_none ha5 hlo).symm
        have e6lo : upd (upd H5 lo (.lst [])) ke (.lst []) lo = some (.lst []) := (Same.new hke) _ _ upd_same
        have e6ke : upd (upd H5 lo (.lst [])) ke (.lst []) ke = some (.lst []) := upd_same
        have kea : ke ≠ a := (ne_of_none ((Same.new (o := .lst []) hlo) _ _ ha5) hke).symm
        have loke : lo ≠ ke := ne_of_none upd_same hke
        have lo5 : H5 lo = none := hlo
        have ke5 : H5 ke = none := (Same.new (o := .lst []) hlo).free hke
        generalize upd (upd H5 lo (.lst [])) ke (.lst []) = H6 at S56 e6lo e6ke ⊢
        refine ⟨_, _, rfl, ?_⟩
        -- lost and kept: all that H5 held but the purse is as it was
        refine ⟨fun σ' H' => (∃ x11 x12 x13 x14 x17 x18 ls ks lost kept, σ' = [some (.ref a), some (.ref kt), some (.ref inn), some (.ref l), some (.ref m), some (.ref rl), some (.ref sh), some (.ref go), some (.ref st), some (.ref en), some (.ref fa), x11, x12, x13, x14, some (.ref lo), some (.ref ke), x17, x18] ∧ But a H5 H' ∧ Purse H' a ∧ H' lo = some (.lst ls) ∧ Paired (ThAt H') ls lost ∧ H' ke = some (.lst ks) ∧ Paired (LetA Z H') ks (kept.map txt) ∧ Part (allT ys) lost kept), ?_, ?_⟩
        · have hp6 : Purse H6 a := ⟨_, _, _, S56 _ _ ha5⟩
          have e6sh := S56 _ _ e5sh
          have sha : sh ≠ a := fun e => by
            have := e5sh
            rw [e, ha5] at this
            injection this with this
            injection this with this
            cases hD : D.stored with
            | nil => rw [hD] at this; cases this
            | cons u v => rw [hD] at this; injection this with z _; cases z
          refine ⟨_, rfl, by decide, by decide, for_it (walk_range (lo := 0) (n := 2)) (fun i σ H' => (∃ x11 x12 x13 x14 x17 x18, σ = [some (.ref a), some (.ref kt), some (.ref inn), some (.ref l), some (.ref m), some (.ref rl), some (.ref sh), some (.ref go), some (.ref st), some (.ref en), some (.ref fa), x11, x12, x13, x14, some (.ref lo), some (.ref ke), x17, x18]) ∧ But a H5 H' ∧ Purse H' a ∧ ∃ ls ks lost kept, H' lo = some (.lst ls) ∧ Paired (ThAt H') ls lost ∧ H' ke = some (.lst ks) ∧ Paired (LetM Z H6 H') ks (kept.map txt) ∧ Dm H6 H' ∧ Part ((List.range i).flatMap fun i => ys.map fun n => (((i : Nat) : Int), n)) lost kept)
            ⟨⟨_, _, _, _, _, _, rfl⟩, S56.but, hp6, [], [], [], [], e6lo, .nil, e6ke, .nil, fun _ h => h, .nil⟩ (fun _ _ _ _ _ => trivial) ?_ ?_⟩
          · rintro i x σ _ H7 hi ⟨⟨x11, x12, x13, x14, x17, x18, rfl⟩, B7, hp7, ls, ks, lost, kept, e7lo, hlo7, e7ke, hke7, dm7, part⟩ ⟨rfl, ex⟩
            have ex' : x = .int (i : Nat) := by
              rw [ex]
              show V.int (0 + (i : Int)) = _
              rw [Int.zero_add]
            clear ex
            subst ex'
            have sl6 := ok.storedL
            refine ⟨_, rfl, sh, D.stored, rfl, .inl (.inl (B7 _ _ e5sh sha)), by omega, fun zs p hz hzs hpn => ?_⟩
            obtain rfl := sort_uniq hz hzs yp ysr
            have S78 := Same.new (o := .lst (zs.map V.str)) hpn
            have e8p : upd H7 p (.lst (zs.map V.str)) p = some (.lst (zs.map V.str)) := upd_same
            generalize upd H7 p (.lst (zs.map V.str)) = H8 at S78 e8p ⊢
            obtain ⟨u7, v7, w7, z7⟩ := id hp7
            have pa : p ≠ a := (ne_of_none z7 hpn).symm
            have plo : p ≠ lo := (ne_of_none e7lo hpn).symm
            have pke : p ≠ ke := (ne_of_none e7ke hpn).symm
            refine ⟨p, rfl, ⟨_, .inl (.inl e8p)⟩, for_it (walk_list (xs := zs.map V.str)) (fun j σ H' => (∃ x12 x13 x14 x17 x18, σ = [some (.ref a), some (.ref kt), some (.ref inn), some (.ref l), some (.ref m), some (.ref rl), some (.ref sh), some (.ref go), some (.ref st), some (.ref en), some (.ref fa), some (.int (i : Nat)), x12, x13, x14, some (.ref lo), some (.ref ke), x17, x18]) ∧ But a H5 H' ∧ Purse H' a ∧ H' p = some (.lst (zs.map V.str)) ∧ ∃ ls ks lost kept, H' lo = some (.lst ls) ∧ Paired (ThAt H') ls lost ∧ H' ke = some (.lst ks) ∧ Paired (LetM Z H6 H') ks (kept.map txt) ∧ Dm H6 H' ∧ Part (((List.range i).flatMap fun i => zs.map fun n => (((i : Nat) : Int), n)) ++ (zs.take j).map fun n => ((i : Int), n)) lost kept)
              ⟨⟨_, _, _, _, _, rfl⟩, B7.trans S78.but, ⟨u7, v7, w7, S78 _ _ z7⟩, e8p, ls, ks, lost, kept, S78 _ _ e7lo, paired_imp (fun _ _ q => q.same S78) hlo7, S78 _ _ e7ke, paired_imp (fun _ _ ⟨q, e, h⟩ => ⟨q, e, h.same S78⟩) hke7, dm7.trans S78.dm, by rw [List.take_zero, List.map_nil, List.append_nil]; exact part⟩ (fun j σ H' _ ⟨_, _, _, e, _⟩ => .inl (.inl e)) ?_ ?_⟩
            · rintro j y σ _ H9 hj ⟨⟨x12, x13, x14, x17, x18, rfl⟩, B9, hp9, e9p, ls, ks, lost, kept, e9lo, hlo9, e9ke, hke9, dm9, part⟩ ⟨rfl, ey⟩
              rw [List.getElem?_map] at ey
              cases ej : zs[j]? with
              | none => rw [ej] at ey; cases ey
              | some n =>
              rw [ej] at ey
              injection ey with ey
              subst ey
              have hns : n ∈ D.stored := yp.subset (List.mem_of_getElem? ej)
              have hw2 := want_two ok hi (ok.stored n hns)
              have hlt := (lett_txt i hi n hw2.1).2
              rw [hw2.2] at hlt
              have pl2 := part.len
              have zl : zs.length ≤ 6 := by rw [yp.length_eq]; exact sl6
              have tot : lost.length + kept.length ≤ 12 := by
                rw [pl2, List.length_append, List.length_map, List.length_take]
                match i, hi with
                | 0, _ => simp; omega
                | 1, _ => simp; omega
              have ll : ls.length = lost.length := Paired.length hlo9
              have kl : ks.length = kept.length := by rw [Paired.length hke9, List.length_map]
              refine ⟨_, rfl, a, 2, rfl, by decide, by decide, hp9, fun H10 d B10 hp10 hd => ⟨rfl, _, rfl, ?_⟩⟩
              have e10lo := B10 _ _ e9lo loa
              have e10ke := B10 _ _ e9ke kea
              have e10p := B10 _ _ e9p pa
              have h10lo : Paired (ThAt H10) ls lost := paired_imp (fun _ _ q => q.but B10 hp9.noT) hlo9
              have h10ke : Paired (LetM Z H6 H10) ks (kept.map txt) := paired_imp (fun _ _ h => h.but B10 hp9) hke9
              obtain ⟨u1, v1, w1, z1⟩ := id hp10
              have dm10 : Dm H6 H10 := dm9.trans (But.dm B10 z1)
              have etk : (zs.take (j + 1)).map (fun n => ((i : Int), n)) = (zs.take j).map (fun n => ((i : Int), n)) ++ [((i : Int), n)] := by rw [map_snoc ej, List.map_append, List.map_cons, List.map_nil]
              by_cases hd0 : V.int (d : Nat) = .int 0
              · refine iteD hd0 ⟨_, rfl, .inl ⟨rfl, ls, .inl (.inl e10lo)⟩, _, rfl, _, rfl, line1000 (by simp), fun tp htp => ?_⟩
                have SN := Same.new (o := .tup [.int (i : Nat), .str n]) htp
                have e11lo := SN _ _ e10lo
                have hno := lst_noT e11lo
                refine ⟨lo, ls, _, rfl, rfl, e11lo, small1000 (by omega), ⟨_, _, _, _, _, rfl⟩, fun b o e hb => ?_, ⟨u1, v1, w1, by rw [upd_ne loa.symm]; exact SN _ _ z1⟩, by rw [upd_ne plo]; exact SN _ _ e10p, _, ks, lost ++ [((i : Int), n)], kept, upd_same, ?_, by rw [upd_ne loke.symm]; exact SN _ _ e10ke, ?_, (dm10.trans SN.dm).trans (But.dm (.upd lo _ _) upd_same), ?_⟩
                · rw [upd_ne (ne_of_none e lo5)]
                  exact SN _ _ (B10 _ _ (B9 _ _ e hb) hb)
                · exact paired_snoc (ThAt.upd (t := ((i : Int), n)) ⟨tp, rfl, upd_same⟩ hno) (paired_imp (fun _ _ q => (q.same SN).upd hno) h10lo)
                · exact paired_imp (fun _ _ h => (h.same SN).put2 e6lo e11lo) h10ke
                · rw [etk, ← List.append_assoc]
                  exact .left part
              · refine iteDN hd0 ⟨_, rfl, .inl ⟨rfl, ks, .inl (.inl e10ke)⟩, _, rfl, _, rfl, i, n, rfl, hi, hw2.1, fun p1 Ha Sa La => ?_⟩
                have ea := Sa _ _ e10ke
                have hno := lst_noT ea
                refine ⟨ke, ks, _, rfl, rfl, ea, small1000 (by omega), ⟨_, _, _, _, _, rfl⟩, fun b o e hb => ?_, ⟨u1, v1, w1, by rw [upd_ne kea.symm]; exact Sa _ _ z1⟩, by rw [upd_ne pke]; exact Sa _ _ e10p, ls, _, lost, kept ++ [((i : Int), n)], by rw [upd_ne loke]; exact Sa _ _ e10lo, ?_, upd_same, ?_, (dm10.trans Sa.dm).trans (But.dm (.upd ke _ _) upd_same), ?_⟩
                · rw [upd_ne (ne_of_none e ke5)]
                  exact Sa _ _ (B10 _ _ (B9 _ _ e hb) hb)
                · exact paired_imp (fun _ _ q => (q.same Sa).upd hno) h10lo
                · rw [List.map_append, List.map_cons, List.map_nil, ← hlt]
                  exact paired_snoc ⟨p1, rfl, La.put3 dm10 e10ke ea⟩ (paired_imp (fun _ _ h => (h.same Sa).put2 e6ke ea) h10ke)
                · rw [etk, ← List.append_assoc]
                  exact .right part
            · rintro σ H9 ⟨⟨x12, x13, x14, x17, x18, rfl⟩, B9, hp9, e9p, ls, ks, lost, kept, e9lo, hlo9, e9ke, hke9, dm9, part⟩
              refine ⟨⟨_, _, _, _, _, _, rfl⟩, B9, hp9, ls, ks, lost, kept, e9lo, hlo9, e9ke, hke9, dm9, ?_⟩
              rw [List.take_of_length_le (by simp)] at part
              rw [List.range_succ, List.flatMap_append, List.flatMap_cons, List.flatMap_nil, List.append_nil]
              exact part
          · rintro σ H7 ⟨⟨x11, x12, x13, x14, x17, x18, rfl⟩, B7, hp7, ls, ks, lost, kept, e7lo, hlo7, e7ke, hke7, dm7, part⟩
            exact ⟨_, _, _, _, _, _, ls, ks, lost, kept, rfl, B7, hp7, e7lo, hlo7, e7ke, paired_imp (fun _ _ ⟨q, e, h⟩ => ⟨q, e, h.let⟩) hke7, part⟩
        · rintro σ' H7 ⟨x11, x12, x13, x14, x17, x18, ls, ks, lost, kept, rfl, B57, hp7, e7lo, hlo7, e7ke, hke7, part⟩
          have hp5 : Purse H5 a := ⟨_, _, _, ha5⟩
          have B07 := ((B03.trans B4).trans S45.but).trans B57
          have h7f : Paired (FactAt Z K H7) fs (factsL D.rows) := paired_imp (fun _ _ q => q.but B57 hp5) hfs
          have e7fa : H7 fa = some (.lst fs) := B57 _ _ efa faa
          have e7kt := B57.seqT hp5.noT e5kt
          have h7cell : CellAt Z K H7 m D := (hcell.same S45).but B57 hp5
          have e7sh := B57 _ _ e5sh (hp5.no e5sh (strs_no _))
          have e5go : H5 go = some (.lst (D.wanted.map V.str)) := S45 _ _ ego
          have e7go := B57 _ _ e5go (hp5.no e5go (strs_no _))
          have h7st : TxS K H7 st D.start := B57.seqT hp5.noT (S45.tup hst)
          have h7en : TxS K H7 en D.stop := B57.seqT hp5.noT (S45.tup hen)
          have st1 : D.start.length ≤ 1 := by rcases ok.start with e | e <;> rw [e] <;> simp
          have en1 : D.stop.length ≤ 1 := by rcases ok.stop with e | e <;> rw [e] <;> simp
          have pl := part.len
          have al : (allT ys).length = 2 * D.stored.length := by
            show (ys.map (fun n => (((0 : Nat) : Int), n)) ++ (ys.map (fun n => (((1 : Nat) : Int), n)) ++ [])).length = _
            rw [List.append_nil, List.length_append, List.length_map, List.length_map, yp.length_eq]
            omega
          have sl6 := ok.storedL
          have ll : ls.length = lost.length := Paired.length hlo7
          have kl : ks.length = kept.length := by rw [Paired.length hke7, List.length_map]
          have hnp : NameOk "p0" := nameOk_of (by decide +kernel)
          have hnq : NameOk "q1" := nameOk_of (by decide +kernel)
          -- kept
          refine ⟨fun σ' H' => (∃ kp kk, σ' = [some (.ref a), some (.ref kt), some (.ref inn), some (.ref l), some (.ref m), some (.ref rl), some (.ref sh), some (.ref go), some (.ref st), some (.ref en), some (.ref fa), x11, x12, x13, x14, some (.ref lo), some (.ref kp), x17, x18] ∧ Same H7 H' ∧ H' kp = some (.lst kk) ∧ Paired (LetA Z H') kk ((kept.take 4).map txt ++ D.start.map (fun _ => ("p0" : Str)) ++ D.stop.map fun _ => ("q1" : Str))), ?_, ?_⟩
          · refine ⟨_, rfl, _, rfl, ke, ks, rfl, .inl (.inl e7ke), fun p1 h1 => ?_⟩
            rw [cut4]
            have S1 := Same.new (o := .lst (ks.take 4)) h1
            have e1 : upd H7 p1 (.lst (ks.take 4)) p1 = some (.lst (ks.take 4)) := upd_same
            have k1 : Paired (LetA Z (upd H7 p1 (.lst (ks.take 4)))) (ks.take 4) ((kept.take 4).map txt) := by
              rw [List.map_take]
              exact paired_imp (fun _ _ h => h.same S1) (paired_take hke7 4)
            generalize upd H7 p1 (.lst (ks.take 4)) = H8 at S1 e1 k1 ⊢
            refine rd_lets hnp rfl (S1.tup h7st) st1 fun L1 ks1 H9 S2 e2 k2 => ?_
            have e2' := S2 _ _ e1
            have kl1 : ks1.length ≤ 1 := by rw [Paired.length k2, List.length_map]; exact st1
            refine ⟨p1, L1, _, _, rfl, rfl, e2', e2, line1000 (by rw [List.length_take]; omega), fun p2 h2 => ?_⟩
            have S3 := Same.new (o := .lst (ks.take 4 ++ ks1)) h2
            have e3 : upd H9 p2 (.lst (ks.take 4 ++ ks1)) p2 = some (.lst (ks.take 4 ++ ks1)) := upd_same
            have k3 : Paired (LetA Z (upd H9 p2 (.lst (ks.take 4 ++ ks1)))) (ks.take 4 ++ ks1) ((kept.take 4).map txt ++ D.start.map fun _ => ("p0" : Str)) := paired_append (paired_imp (fun _ _ h => h.same (S2.trans S3)) k1) (paired_imp (fun _ _ h => h.same S3) k2)
            generalize upd H9 p2 (.lst (ks.take 4 ++ ks1)) = H10 at S3 e3 k3 ⊢
            refine rd_lets hnq rfl (((S1.trans S2).trans S3).tup h7en) en1 fun L2 ks2 H11 S4 e4 k4 => ?_
            have kl2 : ks2.length ≤ 1 := by rw [Paired.length k4, List.length_map]; exact en1
            refine ⟨p2, L2, _, _, rfl, rfl, S4 _ _ e3, e4, line1000 (by rw [List.length_append, List.length_take]; omega), fun p3 h3 => ?_⟩
            have S5 := Same.new (o := .lst (ks.take 4 ++ ks1 ++ ks2)) h3
            exact ⟨p3, _, rfl, (((S1.trans S2).trans S3).trans S4).trans S5, upd_same, paired_append (paired_imp (fun _ _ h => h.same (S4.trans S5)) k3) (paired_imp (fun _ _ h => h.same S5) k4)⟩
          · rintro σ' H8 ⟨kp, kk, rfl, S78, ekp, hkk⟩
            have kkl : kk.length ≤ 6 := by
              rw [Paired.length hkk, List.length_append, List.length_append, List.length_map, List.length_map, List.length_map, List.length_take]
              omega
            have e8sh := S78 _ _ e7sh
            have e8lo := S78 _ _ e7lo
            refine ⟨_, rfl, _, kk.length, rfl, .inl ⟨_, .inl (.inl ekp), rfl⟩, _, _, rfl, rfl, _, rfl, iteDN (by omega) ?_⟩
            refine ⟨_, rfl, _, D.stored.length, rfl, .inl ⟨_, .inl (.inl e8sh), by rw [List.length_map]⟩, _, _, rfl, rfl, .inr ⟨by decide, by decide⟩, _, rfl, _, ls.length, rfl, .inl ⟨_, .inl (.inl e8lo), rfl⟩, _, _, rfl, rfl, _, _, rfl, rfl, _, rfl, ?_⟩
            by_cases h4 : (4 : Int) < (D.stored.length : Int) * 2 - (ls.length : Int)
            · exact iteD h4 (q _ (B07.trans S78.but))
            · refine iteDN h4 ⟨line1000 (by simp), fun du hdu => ?_⟩
              have k4 : kept.length ≤ 4 := by omega
              rw [List.take_of_length_le k4] at hkk
              have S9 := Same.new (o := .lst []) hdu
              have e9du : upd H8 du (.lst []) du = some (.lst []) := upd_same
              have nodu : H8 du = none := hdu
              generalize upd H8 du (.lst []) = H9 at S9 e9du ⊢
              have S79 := S78.trans S9
              obtain ⟨gs, gp, gsr⟩ := sort_ex D.wanted
              have ks0 : KeptR (kept.map txt ++ D.start.map (fun _ => ("p0" : Str)) ++ D.stop.map fun _ => ("q1" : Str)) (keptL D lost) := keptR_of ok fun t => by
                have nd : ys.Nodup := yp.nodup_iff.mpr ok.storedN
                rw [part.mem (allT_nodup ysr nd) t, mem_allT]
                exact ⟨fun ⟨⟨a1, a2⟩, a3⟩ => ⟨⟨a1, yp.subset a2⟩, a3⟩, fun ⟨⟨a1, a2⟩, a3⟩ => ⟨⟨a1, yp.symm.subset a2⟩, a3⟩⟩
              generalize hKS : kept.map txt ++ D.start.map (fun _ => ("p0" : Str)) ++ (D.stop.map fun _ => ("q1" : Str)) = KS at ks0 hkk
              have ksl : KS.length ≤ 6 := by rw [← Paired.length hkk]; exact kkl
              have ncf := nc_facts ok hnc
              have gw : ∀ n ∈ gs, n ∈ D.inner ++ nQ := fun n hn => ok.wanted n (gp.subset hn)
              obtain ⟨kf, hkf⟩ : ∃ kf : Th → Bool, ∀ t, kf t = true ↔ Got (chain D.rows) (keptL D lost) t := by
                classical
                exact ⟨fun t => decide (Got (chain D.rows) (keptL D lost) t), fun t => decide_eq_true_iff⟩
              have gsl : gs.length ≤ 2 := by
                rw [gp.length_eq]
                rcases ok.wanted0 with ⟨u, e⟩ | ⟨u, v, e⟩ <;> rw [e] <;> simp
              -- due
              refine ⟨fun σ' H' => (∃ x11 x17 ds, σ' = [some (.ref a), some (.ref kt), some (.ref inn), some (.ref l), some (.ref m), some (.ref rl), some (.ref sh), some (.ref go), some (.ref st), some (.ref en), some (.ref fa), x11, x12, x13, x14, some (.ref lo), some (.ref kp), x17, some (.ref du)] ∧ Same H8 H' ∧ H' du = some (.lst ds) ∧ Paired (ThAt H') ds ((allT gs).filter fun t => !kf t)), ?_, ?_⟩
              · refine ⟨_, rfl, by decide, by decide, for_it (walk_range (lo := 0) (n := 2)) (fun i σ H' => (∃ x11 x17, σ = [some (.ref a), some (.ref kt), some (.ref inn), some (.ref l), some (.ref m), some (.ref rl), some (.ref sh), some (.ref go), some (.ref st), some (.ref en), some (.ref fa), x11, x12, x13, x14, some (.ref lo), some (.ref kp), x17, some (.ref du)]) ∧ Same H8 H' ∧ ∃ ds, H' du = some (.lst ds) ∧ Paired (ThAt H') ds (((List.range i).flatMap fun i => gs.map fun n => (((i : Nat) : Int), n)).filter fun t => !kf t))
                  ⟨⟨_, _, rfl⟩, S9, [], e9du, .nil⟩ (fun _ _ _ _ _ => trivial) ?_ ?_⟩
                · rintro i x σ _ H10 hi ⟨⟨x11, x17, rfl⟩, S10, ds, eds, hds⟩ ⟨rfl, ex⟩
                  have ex' : x = .int (i : Nat) := by
                    rw [ex]
                    show V.int (0 + (i : Int)) = _
                    rw [Int.zero_add]
                  clear ex
                  subst ex'
                  refine ⟨_, rfl, go, D.wanted, rfl, .inl (.inl (S10 _ _ (S78 _ _ e7go))), by rw [← gp.length_eq]; omega, fun zs p hz hzs hpn => ?_⟩
                  obtain rfl := sort_uniq hz hzs gp gsr
                  have S11 := Same.new (o := .lst (zs.map V.str)) hpn
                  have e11p : upd H10 p (.lst (zs.map V.str)) p = some (.lst (zs.map V.str)) := upd_same
                  have pdu : p ≠ du := (ne_of_none eds hpn).symm
                  generalize upd H10 p (.lst (zs.map V.str)) = H11 at S11 e11p ⊢
                  refine ⟨p, rfl, ⟨_, .inl (.inl e11p)⟩, for_it (walk_list (xs := zs.map V.str)) (fun j σ H' => (∃ x17, σ = [some (.ref a), some (.ref kt), some (.ref inn), some (.ref l), some (.ref m), some (.ref rl), some (.ref sh), some (.ref go), some (.ref st), some (.ref en), some (.ref fa), some (.int (i : Nat)), x12, x13, x14, some (.ref lo), some (.ref kp), x17, some (.ref du)]) ∧ Same H8 H' ∧ H' p = some (.lst (zs.map V.str)) ∧ ∃ ds, H' du = some (.lst ds) ∧ Paired (ThAt H') ds ((((List.range i).flatMap fun i => zs.map fun n => (((i : Nat) : Int), n)) ++ (zs.take j).map fun n => ((i : Int), n)).filter fun t => !kf t))
                    ⟨⟨_, rfl⟩, S10.trans S11, e11p, ds, S11 _ _ eds, by rw [List.take_zero, List.map_nil, List.append_nil]; exact paired_imp (fun _ _ q => q.same S11) hds⟩ (fun j σ H' _ ⟨_, _, e, _⟩ => .inl (.inl e)) ?_ ?_⟩
                  · rintro j y σ _ H12 hj ⟨⟨x17, rfl⟩, S12, e12p, ds, eds, hds⟩ ⟨rfl, ey⟩
                    rw [List.getElem?_map] at ey
                    cases ej : zs[j]? with
                    | none => rw [ej] at ey; cases ey
                    | some n =>
                    rw [ej] at ey
                    injection ey with ey
                    subst ey
                    have hw2 := want_two ok hi (gw n (List.mem_of_getElem? ej))
                    have hlt := lett_txt i hi n hw2.1
                    rw [hw2.2] at hlt
                    have S712 := S78.trans S12
                    have etk : (zs.take (j + 1)).map (fun n => ((i : Int), n)) = (zs.take j).map (fun n => ((i : Int), n)) ++ [((i : Int), n)] := by rw [map_snoc ej, List.map_append, List.map_cons, List.map_nil]
                    have e12kt := S712.tup e7kt
                    -- Kind(..)
                    refine ⟨_, rfl, kt, _, _, _, rfl, rfl, e12kt, atI_nat (j := 0) rfl, _, rfl, kt, _, _, _, rfl, rfl, e12kt, atI_nat (j := 1) rfl, rfl, rfl, fun x dx hx hdx hne => ?_⟩
                    have Sa := (Same.new (o := .own x) hdx).trans (Same.new (o := .ins Z.K dx []) (show upd H12 dx (.own x) x = none by rw [upd_ne hne.symm]; exact hx))
                    refine ⟨x, dx, kd, c, rfl, upd_same, hq, fun Ha Ba hka => ⟨rfl, ?_⟩⟩
                    have Sb : Same H12 Ha := fun b o e => Ba _ _ (Sa _ _ e) (ne_of_none e hx)
                    have S7b := S712.trans Sb
                    refine ⟨_, rfl, fa, _, rfl, .inl ⟨.inl (.inl (S7b _ _ e7fa)), fun tf htf => ⟨_, rfl, kp, _, rfl, .inl ⟨.inl (.inl ((Same.new htf) _ _ (Sb _ _ (S12 _ _ ekp)))), fun tk htk => ?_⟩⟩⟩⟩
                    have Sc := (Same.new (o := .tup fs) htf).trans (Same.new (o := .tup kk) htk)
                    have etf := (Same.new (o := .tup kk) htk) _ _ (upd_same (a := tf) (H := Ha) (o := .tup fs))
                    have etk' : upd (upd Ha tf (.tup fs)) tk (.tup kk) tk = some (.tup kk) := upd_same
                    generalize upd (upd Ha tf (.tup fs)) tk (.tup kk) = Hc at Sc etf etk' ⊢
                    refine ⟨_, rfl, _, rfl, i, n, rfl, hi, hw2.1, fun p1 Hd Sd Ld => ?_⟩
                    have S7d := (S7b.trans Sc).trans Sd
                    have S8d := ((S12.trans Sb).trans Sc).trans Sd
                    have gl : ∀ s ∈ KS, Good s := fun s hs => by
                      obtain ⟨t, _, r⟩ := ks0.1 s hs
                      exact rl_good r
                    have po : PhiOk (KS ++ [lett i n]) (factsL D.rows) := ⟨fun s hs => by
                      rcases List.mem_append.mp hs with h | h
                      · exact gl s h
                      · rw [List.mem_singleton.mp h]
                        exact (lett_ok hi hw2.1).good, fun t ht s hs => facts_good ok ht hs, by rw [List.length_append]; simp; omega, by rw [factsL_len]; have := ok.rows; omega⟩
                    refine ⟨x, tf, tk, p1, kd, c, KS, lett i n, factsL D.rows, rfl, ⟨hka.kp (Sc.trans Sd).kp, hq, ⟨fs, .inl (.inl (Sd _ _ etf)), paired_imp (fun _ _ h => h.same S7d) h7f⟩, ⟨kk, .inl (.inl (Sd _ _ etk')), paired_imp (fun _ _ h => h.same S8d) hkk⟩, Ld.let, po, ksl, by rw [← eK, ← eC]; exact ncf⟩, fun He b Se hb => ⟨b, rfl, ?_⟩⟩
                    have S12e := ((Sb.trans Sc).trans Sd).trans Se
                    have e12 := S12e _ _ eds
                    have hb2 : b = kf ((i : Int), n) := by
                      rw [Bool.eq_iff_iff, hb, hkf]
                      exact got_iff ok ks0 hlt
                    have hds2 := paired_imp (fun _ _ q => ThAt.same q S12e) hds
                    have dl : ds.length ≤ 4 := by
                      rw [Paired.length hds]
                      refine Nat.le_trans (List.length_filter_le _ _) ?_
                      rw [List.length_append, List.length_map, List.length_take]
                      match i, hi with
                      | 0, _ => simp; omega
                      | 1, _ => simp; omega
                    cases hbb : b with
                    | true =>
                      refine iteF ⟨⟨_, rfl⟩, S12.trans S12e, S12e _ _ e12p, ds, e12, ?_⟩
                      rw [etk, ← List.append_assoc, List.filter_append]
                      rw [hbb] at hb2
                      simp only [List.filter, ← hb2, Bool.not_true]
                      rw [List.append_nil]
                      exact hds2
                    | false =>
                      refine iteT ⟨_, rfl, .inl ⟨rfl, ds, .inl (.inl e12)⟩, _, rfl, _, rfl, line1000 (by simp), fun tp htp => ?_⟩
                      have SN := Same.new (o := .tup [.int (i : Nat), .str n]) htp
                      have e13 := SN _ _ e12
                      have hno := lst_noT e13
                      refine ⟨du, ds, _, rfl, rfl, e13, small1000 (by omega), ⟨_, rfl⟩, fun b o e => ?_, by rw [upd_ne pdu]; exact SN _ _ (S12e _ _ e12p), _, upd_same, ?_⟩
                      · rw [upd_ne (ne_of_none e nodu)]
                        exact SN _ _ (S12e _ _ (S12 _ _ e))
                      · rw [etk, ← List.append_assoc, List.filter_append]
                        rw [hbb] at hb2
                        simp only [List.filter, ← hb2, Bool.not_false]
                        exact paired_snoc (ThAt.upd (t := ((i : Int), n)) ⟨tp, rfl, upd_same⟩ hno) (paired_imp (fun _ _ q => (q.same SN).upd hno) hds2)
                  · rintro σ H12 ⟨⟨x17, rfl⟩, S12, e12p, ds, eds, hds⟩
                    refine ⟨⟨_, _, rfl⟩, S12, ds, eds, ?_⟩
                    rw [List.take_of_length_le (by simp)] at hds
                    rw [List.range_succ, List.flatMap_append, List.flatMap_cons, List.flatMap_nil, List.append_nil]
                    exact hds
                · rintro σ H10 ⟨⟨x11, x17, rfl⟩, S10, ds, eds, hds⟩
                  exact ⟨_, _, ds, rfl, S10, eds, hds⟩
              · rintro σ' H10 ⟨x11, x17, ds, rfl, S10, eds, hds⟩
                have S710 := S78.trans S10
                have h01 : ∀ t ∈ (allT gs).filter (fun t => !kf t), t.1 = 0 ∨ t.1 = 1 := fun t ht => by
                  obtain ⟨⟨i, hi, e⟩, _⟩ := mem_allT.mp (List.mem_filter.mp ht).1
                  rw [e]
                  match i, hi with
                  | 0, _ => exact .inl rfl
                  | 1, _ => exact .inr rfl
                have hsh : (shownP ((allT gs).filter fun t => !kf t)).length ≤ sizeLine := line1000 (shown_small gs (goals_mem ok gp gsr) _ (mem_subs List.filter_sublist))
                have lst : ∀ t ∈ lost, (0 ≤ t.1 ∧ t.1 ≤ 1) ∧ t.2 ∈ D.stored := fun t ht => by
                  obtain ⟨⟨i, hi, e⟩, h2⟩ := mem_allT.mp (part.sub.subset ht)
                  refine ⟨by rw [e]; omega, yp.subset h2⟩
                have asc := asc_of (part.asc (allT_pw ysr (yp.nodup_iff.mpr ok.storedN)))
                refine ⟨_, rfl, _, rfl, lo, _, rfl, .inl ⟨.inl (.inl (S710 _ _ e7lo)), fun tl htl => ?_⟩⟩
                have SL := Same.new (o := .tup ls) htl
                have S7L := S710.trans SL
                refine ⟨m, tl, D, ls, lost, rfl, h7cell.same S7L, ok, .inl (.inl upd_same), paired_imp (fun _ _ q => q.same S7L) hlo7, by omega, lst, asc, fun He t us k Se ht hp hk => ?_⟩
                have ekf : k = kf := funext fun t => by rw [Bool.eq_iff_iff, hk, hkf]
                rw [ekf, want_sorted gp gsr] at hp
                have hp' : PairsAt K He us ((allT gs).filter fun t => !kf t) := paired_imp (fun _ _ q => q.pairA) hp
                refine ⟨t, us, _, rfl, ht, hp', h01, hsh, ?_⟩
                refine ⟨_, rfl, du, _, rfl, .inl ⟨.inl (.inl (Se _ _ (SL _ _ eds))), fun td htd => ?_⟩⟩
                have SD := Same.new (o := .tup ds) htd
                refine ⟨td, ds, _, rfl, .inl (.inl upd_same), paired_imp (fun _ _ q => (q.same ((SL.trans Se).trans SD)).pairA) hds, h01, hsh, rfl, ?_⟩
                show Q (V.bl (decide (_ = _))) _
                rw [decide_eq_true rfl]
                exact q _ ((((B07.trans S710.but).trans SL.but).trans Se.but).trans SD.but)
end
end K85
/-! K85Y: the law's own def. -/
namespace K85
open PySem PySem.Spec PyProof.Rows L2
section
variable {P : Program} {w : World} {K : PySem.W.Frag} {mg : Str → Option Value} {base : Heap} {Z : Cs} {f C : Addr} {fd : FuncData}
/-- the module's def x keeps sp wherever no guard is laid -/
def GDefG (P : Program) (w : World) (K : PySem.W.Frag) (mg : Str → Option Value) (base : Heap) (k : Nat) (x : Str) (ps : List Str) (sp : Sp) : Prop := ∃ f fd, FnG P w K mg base k f fd ps sp ∧ Binds K fd ps [] ∧ mg x = some (.ref f) ∧ PySem.W.keepIn K (.ref f) = true
theorem g89 (T : Txt K mg Z) (sf : PySem.W.selfFirst K Z.F = true) (G85 : G85T P w K mg base) (G86 : GDef P w K mg base CX0 2 "_law_kind" ["_law_purse_here"] [] spKd) (G87 : GDef P w K mg base CX0 8 "_law_cell" ["_law_purse_here", "_law_kind_here", "_law_inner"] [] (spLC Z K))
    (G88 : GDef P w K mg base CX0 4 "_law_letter" N88 [] (spLt Z)) (G41 : GDef P w K mg base CX0 3 "letter" ["name"] [] (spLetter Z.F)) (O405 : ODef P w K mg base 4 Z.F "__mul__" ["self", "other"] (spMul Z.F)) (G530 : KDef P w K mg base CX0 1 1 Z.K "Kind" PKI ["calm"] (spKI Z.K))
    (G82 : GDef P w K mg base CX0 10 "tells" N81 [] (spTells Z K)) (G72 : GDef P w K mg base CX0 4 "untold" ["cell", "count", "lost"] [] (spUntold Z K)) (G : GTxt K mg "_law_right" (top 89) [] []) : GDefG P w K mg base 11 "_law_right" ["_law_purse_here"] spRight := by
  obtain ⟨f, fd, F, hm⟩ := G
  exact ⟨f, fd, ok89 T sf G85 G86 G87 G88 G41 O405 G530 G82 G72 F, F.bindsN (fun _ _ _ _ _ _ us hl => match us, hl with | [_], _ => rfl), hm, F.kp⟩
abbrev N90 : List Str := ["_law_script", "_law_spot"]
theorem sc90 : FnScope N90 ["_law_script"] (defScope (top 90)) := ⟨rfl, rfl, rfl, by decide +kernel, rfl, by decide +kernel, by decide +kernel⟩
def spLaw (K : PySem.W.Frag) : Sp := fun vs H Q _ => ∃ (a : Addr) (ns : List Int), vs = [.ref a] ∧ SqL K H a (ns.map V.int) ∧ ns.length ≤ 63 ∧ ∀ H', Q (.bl true) H'
theorem ok90 (T : Txt K mg Z) (G84 : GDef P w K mg base CX0 1 "_law_purse" ["_law_script", "_law_spot"] [] (spPurse K)) (G89 : GDefG P w K mg base 11 "_law_right" ["_law_purse_here"] spRight) (F : TF K "law" "law" (top 90) [] [] f fd) : FnG P w K mg base 12 f fd ["_law_script"] (spLaw K) := by
  refine fnG_of F sc90 (fun vs H Q E h => ?_) (fun cdv A outer s H vs Q E hg hr h => ?_)
  · obtain ⟨_, _, rfl, _⟩ := h
    rfl
  · obtain ⟨a, ns, rfl, ha, hl, q⟩ := h
    obtain ⟨f89, fd89, F89, hb89, hm89, hk89⟩ := G89
    have nd := sc90.nd
    refine ⟨_, PSs.nox <| pss_one (ps_ret (pe_b (cr_all rfl) T.all (by decide +kernel) (pa_cons (pe_lc (own := [("_law_spot", 1)]) (g := gName 1) (tt := tYes) (by rfl) nd
      (pi_range1 rfl T.ran (pa_cons (pe_b (call_max2 rfl) T.max (by decide +kernel) (pa_cons pe_int (pa_cons (pe_b (call_min2 rfl) T.min (by decide +kernel) (pa_cons (pe_b (r := rLen K) call_len T.len PySem.boot_len (pa_cons (pv 0) pa_nil)) (pa_cons pe_int pa_nil))) pa_nil))) pa_nil))
      (blkOk_by (N := N90) (sc := defScope (top 90)) (by decide +kernel)) (fun _ _ _ _ _ => pg_name (i := 1) nd rfl (Or.inl rfl)) (fun _ _ _ _ _ => pts_nil)
      (fun _ _ _ _ _ => pe_gG F89 hg hm89 hk89 hb89 hr (pa_cons (pe_g G84 (hr.mono (by decide)) pass0 (pa_cons (pv 0) (pa_cons (pv 1) pa_nil))) pa_nil))) pa_nil))), ?_⟩
    refine ⟨_, rfl, _, ns.length, rfl, .inl ⟨_, ha, by rw [List.length_map]⟩, _, _, rfl, _, _, rfl, ?_⟩
    obtain ⟨m, em, hm⟩ : ∃ m : Nat, (if (if (4 : Int) < (ns.length : Int) then (4 : Int) else (ns.length : Int)) > 2 then (if (4 : Int) < (ns.length : Int) then (4 : Int) else (ns.length : Int)) else 2) = (m : Int) ∧ m ≤ 4 := by
      by_cases h1 : (4 : Int) < (ns.length : Int)
      · exact ⟨4, by rw [if_pos h1]; decide, by omega⟩
      · rw [if_neg h1]
        by_cases h2 : (ns.length : Int) > 2
        · exact ⟨ns.length, by rw [if_pos h2], by omega⟩
        · exact ⟨2, by rw [if_neg h2]; rfl, by omega⟩
    refine ⟨(m : Int), by rw [← em], by omega, by omega, fun L hL => ?_⟩
    have et : ((m : Int)).toNat = m := by omega
    rw [et]
    refine cc_it (walk_range (lo := 0) (n := m)) (fun i H' => Same H H' ∧ H' L = some (.lst ((List.replicate i true).map V.bl))) ⟨.new hL, upd_same⟩ (fun _ _ _ _ => trivial) ?_ ?_
    · rintro i x _ H1 hi ⟨S1, e1⟩ ⟨rfl, ex⟩
      have ex' : x = .int (i : Nat) := by
        rw [ex]
        show V.int (0 + (i : Int)) = _
        rw [Int.zero_add]
      clear ex
      subst ex'
      refine ⟨rfl, _, rfl, _, rfl, a, i, ns, rfl, S1.seq ha, by omega, fun H2 p S2 np hp => ⟨p, rfl, hp, fun H3 B3 => ?_⟩⟩
      have S13 : Same H1 H3 := fun b o e => B3 _ _ (S2 _ _ e) (ne_of_none e np)
      refine ⟨_, S13 _ _ e1, small1000 (by rw [List.length_map, List.length_replicate]; omega), fun b o e => ?_, ?_⟩
      · rw [upd_ne (ne_of_none e hL)]
        exact S13 _ _ (S1 _ _ e)
      · rw [upd_same, List.replicate_succ', List.map_append]
        rfl
    · rintro H1 ⟨S1, e1⟩
      refine ⟨L, _, rfl, .inl (.inl e1), ?_⟩
      rw [show (List.replicate m true).all id = true from by simp]
      exact q _
end
end K85
/-! K85Head: what follows from the looks. -/
namespace K85
open PySem PySem.Spec PyProof.Rows L2 He
theorem lotsH_eq : lots = lotsH := rfl
theorem gtr_fun {K : PySem.W.Frag} {a : Addr} {m q : Str} {st : Stmt} (e : gtS K a = gtW m q st) (c : gtC K a q = true) : ∃ fd, TF K m q st [] [] a fd := by
  unfold gtS gtW gtr at e
  unfold gtC gtr at c
  cases lk : K.lookup a with
  | none => rw [lk] at c; cases c
  | some o =>
    obtain ⟨oc, od, dt, osl⟩ := o
    rw [lk] at c e
    cases dt with
    | func z =>
      cases z
      injection e with e
      injection e with e1 e
      injection e with e2 e
      injection e with e3 e4
      injection e1 with a1 a
      injection a with a2 a
      injection a with a3 a4
      injection e2 with b1 b
      injection b with b2 b3
      dsimp only at a1 a2 a3 a4 b1 b2 b3 e3 e4
      subst a1 a2 a3 a4 b1 b2 b3 e3 e4
      refine ⟨_, ⟨oc, od, .none, _, _, _, _, _, _, osl, rfl, lk, c, .inl ⟨rfl, rfl⟩, .inl rfl⟩, ?_⟩
      unfold PySem.W.keepIn
      simp only [lk]
    | _ => cases c
theorem tupA_ok {K : PySem.W.Frag} {a : Addr} {vs : List V} (h : tupA K a vs = true) (H : Hp) : SqT K H a vs := by
  unfold tupA at h
  cases q : K.lookup a with
  | none => rw [q] at h; cases h
  | some o =>
    rw [q] at h
    obtain ⟨h1, h2⟩ := ba h
    cases hd : o.data with
    | seq its n =>
      rw [hd] at h2
      obtain ⟨h3, h4⟩ := ba h2
      exact .inr ⟨o, its, n, q, of_decide_eq_true h1, hd, of_decide_eq_true h3, relAll_ok h4⟩
    | _ => rw [hd] at h2; cases h2
theorem oexB_cls {K : PySem.W.Frag} {C : Addr} (h : oexB K C = true) : ∃ nm q N bs bm sn sub ab col dd k0 k1 k2 k3 k5, K.lookup C = some (excClassObj nm q C N bs bm true sn sub ab col dd k0 k1 k2 k3 k5 "ValueError.__new__") ∧ PySem.HandSPX.refsVE bm = true := by
  unfold oexB at h
  cases q : K.lookup C with
  | none =>
    rw [q] at h
    cases h
  | some o =>
    obtain ⟨oc, od, dt, osl⟩ := o
    rw [q] at h
    cases oc with
    | type t =>
      cases dt with
      | cls cd =>
        obtain ⟨h1, h2⟩ := ba h
        have ht : t = "type" := of_decide_eq_true h1
        subst ht
        obtain ⟨n1, n2, n3, n4, n5, n6, n7, n8, n9, n10, n11⟩ := cd
        split at h2
        · rename_i C' bm a0 a1 a2 a3 n a5 em es
          obtain ⟨h3, h4⟩ := ba h2
          obtain ⟨h5, h6⟩ := ba h4
          obtain ⟨h7, h8⟩ := ba h6
          obtain ⟨h9, h10⟩ := ba h8
          have e1 : C' = C := of_decide_eq_true h3
          have e2 : n = "ValueError.__new__" := of_decide_eq_true h5
          have e3 : n11 = false := by simpa using h7
          have e4 : n6 = true := h9
          have e5 : n3 = .ref C' :: bm := em
          have e6 : osl = #[a0, a1, a2, a3, some (.builtin n), a5] := by
            have := congrArg List.toArray es
            simpa using this
          subst e1 e2 e3 e4 e5 e6
          exact ⟨_, _, _, _, _, _, _, _, _, _, _, _, _, _, _, rfl, h10⟩
        · cases h2
      | _ => cases h
    | _ => cases dt <;> cases h
theorem oexB_ok {K : PySem.W.Frag} {C : Addr} (h : oexA K C = true) : OexC K C := by
  obtain ⟨h1, h⟩ := ba h
  obtain ⟨h2, h⟩ := ba h
  obtain ⟨h3, h⟩ := ba h
  obtain ⟨h4, h5⟩ := ba h
  exact ⟨oexB_cls h1, eqO_ok h2, of_decide_eq_true h3, of_decide_eq_true h4, h5⟩
theorem insB_ok {K : PySem.W.Frag} {C : Addr} (c : Cls K C) (h : insB K C = true) : C8.InsC K C := by
  obtain ⟨h1, h⟩ := ba h
  obtain ⟨h2, h⟩ := ba h
  obtain ⟨h3, h⟩ := ba h
  obtain ⟨h4, h5⟩ := ba h
  exact ⟨c, eqO_ok h1, eqO_ok h2, of_decide_eq_true h3, of_decide_eq_true h4, of_decide_eq_true h5⟩
theorem propB_ok {K : PySem.W.Frag} {C : Addr} {m : Str} (h : propB K C m = true) : PropOf K C m (ma K C m) (prG K (ma K C m)) := by
  obtain ⟨h1, h⟩ := ba h
  obtain ⟨h2, h⟩ := ba h
  obtain ⟨h3, h4⟩ := ba h
  refine ⟨eqO_ok h1, eqO_ok h2, of_decide_eq_true h3, ?_⟩
  unfold prG
  split at h4
  · rename_i g r e
    exact ⟨r, by rw [e]⟩
  · cases h4
theorem rowsB_ok {K : PySem.W.Frag} : ∀ {us : List Value} {ts : List (T3 Nat)}, rowsB K us ts = true → ∃ xs, Vals xs us ∧ ∀ H, Paired (TupN K H) xs ts
  | [], [], _ => ⟨[], .nil, fun _ => .nil⟩
  | [], _ :: _, h => by cases h
  | u :: us, [], h => by cases u <;> cases h
  | u :: us, t :: ts, h => by
    cases u with
    | ref b =>
      obtain ⟨h1, h2⟩ := ba (show (tupA K b [.int t.1, .int t.2.1, .int t.2.2] && rowsB K us ts) = true from h)
      obtain ⟨xs, r, p⟩ := rowsB_ok h2
      exact ⟨.ref b :: xs, .cons rfl r, fun H => .cons ⟨b, rfl, tupA_ok h1 H⟩ (p H)⟩
    | _ => cases h
theorem lotB_ok {K : PySem.W.Frag} {d : Addr} {q : Str × List (T3 Nat)} (h : lotB K d q = true) : ∃ a, PySem.W.nsIn K d q.1 = some (some (.ref a)) ∧ ∀ H, LotAt K H a q.2 := by
  unfold lotB at h
  split at h
  · rename_i a e
    refine ⟨a, e, fun H => ?_⟩
    split at h
    · rename_i c dd its n sl lk
      obtain ⟨h1, h2⟩ := ba h
      obtain ⟨h3, h4⟩ := ba h2
      obtain ⟨xs, r, p⟩ := rowsB_ok h4
      exact ⟨xs, .inr ⟨_, its, n, lk, congrArg Value.type (of_decide_eq_true h1), rfl, of_decide_eq_true h3, r⟩, p H⟩
    · cases h
  · cases h
theorem lots_ok {K : PySem.W.Frag} {w : World} {mg : Str → Option Value} {d : Addr} (g : mg "LOTS" = some (.ref d)) (t : ∃ es n, KDict K w d es n) (h : (lots.all fun q => lotB K d q) = true) : LTxt K w mg := by
  obtain ⟨es, n, D⟩ := t
  exact ⟨d, es, n, g, D, fun q hq => lotB_ok (List.all_eq_true.mp h q hq)⟩
def zAt (K : PySem.W.Frag) : Cs := ⟨ga K "Formula", ga K "Kind", ga K "Cell", ga K "Closing", ga K "Table", ga K "Kept", eAd K⟩
section
variable {P : Program} {w : World} {K : PySem.W.Frag} {h : Heap} {mg : Str → Option Value} {f : Addr}
theorem rep_at {α : Type} {l : List α} {g : α → Bool} {n : Nat} (e : l.map g = List.replicate n true) (i : Nat) {a : α} (h : l[i]? = some a) : g a = true := by
  have e2 : (l.map g)[i]? = (List.replicate n true)[i]? := by rw [e]
  rw [List.getElem?_map, h, List.getElem?_replicate] at e2
  split at e2
  · exact Option.some.inj e2
  · cases e2
theorem Says.fact (c : Says w K) (i : Nat) {f : Fa} (h : hfa[i]? = some f) : f.ok K = true := rep_at (show hfa.map (fun f => f.ok K) = List.replicate hfa.length true from congrArg (fun z : AlH => z.1.1) c) i h
theorem Says.def_ (c : Says w K) (i : Nat) {d : DefD} (h : hds[i]? = some d) : ∃ fd, FunD K d.name d.qual d.params d.body d.scope (d.dvs K) (d.kws K) (fAd K d.at_) fd := by
  have c2 := rep_at (show hds.map (fun d => d.ok K) = List.replicate hds.length true from congrArg (fun z : AlH => z.1.2.1) c) i h
  have e : hds.map (fun d => fnW K d.at_) = hds.map DefD.val := congrArg (fun z : AlH => z.2.1.1) c
  have e2 := congrArg (fun z : List FnW => z[i]?) e
  simp only [List.getElem?_map, h] at e2
  exact DefD.funD (Option.some.inj e2) c2
theorem Says.exAt (c : Says w K) (i : Nat) {b : Bool} (h : (exB K)[i]? = some b) : b = true := rep_at (g := fun z => z) (show (exB K).map (fun z => z) = List.replicate 12 true from by rw [List.map_id']; exact congrArg (fun z : AlH => z.1.2.2) c) i h
theorem Says.g1 (c : Says w K) : ∃ fd, TF K "parts" "Formula.parts" (met 40 3) [] [] (g1A K) fd := gtr_fun (congrArg (fun z : AlH => z.2.1.2.1) c) (Says.exAt c 10 rfl)
theorem Says.g2 (c : Says w K) : ∃ fd, TF K "lot" "Kind.lot" (met 53 2) [] [] (g2A K) fd := gtr_fun (congrArg (fun z : AlH => z.2.1.2.2) c) (Says.exAt c 11 rfl)
theorem Says.ex1 (c : Says w K) : tupA K (eAd K) [] = true := Says.exAt c 0 rfl
theorem Says.ins_Formula (c : Says w K) : insB K (ga K "Formula") = true := Says.exAt c 1 rfl
theorem Says.ins_Kind (c : Says w K) : insB K (ga K "Kind") = true := Says.exAt c 2 rfl
theorem Says.ins_Cell (c : Says w K) : insB K (ga K "Cell") = true := Says.exAt c 3 rfl
theorem Says.oex (c : Says w K) : oexA K (ga K "Clash") = true := Says.exAt c 4 rfl
theorem Says.pr_Formula (c : Says w K) : propB K (ga K "Formula") "parts" = true := Says.exAt c 5 rfl
theorem Says.pr_Kind (c : Says w K) : propB K (ga K "Kind") "lot" = true := Says.exAt c 6 rfl
theorem Says.lots (c : Says w K) : (lots.all fun q => lotB K (ga K "LOTS") q) = true := Says.exAt c 7 rfl
theorem Says.pla (c : Says w K) : tupA K (ga K "PLACES") [.int 0, .int 1, .int 2] = true := Says.exAt c 8 rfl
theorem Says.self (c : Says w K) : PySem.W.selfFirst K (ga K "Formula") = true := Says.exAt c 9 rfl
theorem Says.tab (c : Says w K) : ∃ es n, KDict K w (ga K "LOTS") es n := dicW_ok (show dicW K (ga K "LOTS") = some (keysIn w.params lotKeys) from congrArg (fun z : AlH => z.2.2) c)
theorem gv_str (X : K.In h) (G : h.Ns mainGlobals mg) {x z : Str} (c : (Fa.str x z).ok K = true) : GV mg x (.str z) := by
  obtain ⟨t, e⟩ := str_ok X G c
  exact ⟨_, e, t, rfl⟩
theorem gv_int (X : K.In h) (G : h.Ns mainGlobals mg) {x : Str} {i : Int} (c : (Fa.int x i).ok K = true) : GV mg x (.int i) := by
  obtain ⟨t, e⟩ := int_ok X G c
  exact ⟨_, e, t, rfl⟩
theorem txt_of (X : K.In h) (G : h.Ns mainGlobals mg) (c : Says w K) : Txt K mg (zAt K) where
  isi := free_ok X G (Says.fact c 0 rfl)
  len := free_ok X G (Says.fact c 1 rfl)
  all := free_ok X G (Says.fact c 2 rfl)
  tup := free_ok X G (Says.fact c 3 rfl)
  lst := free_ok X G (Says.fact c 4 rfl)
  srt := free_ok X G (Says.fact c 5 rfl)
  enu := free_ok X G (Says.fact c 6 rfl)
  ran := free_ok X G (Says.fact c 7 rfl)
  max := free_ok X G (Says.fact c 8 rfl)
  min := free_ok X G (Says.fact c 9 rfl)
  str := free_ok X G (Says.fact c 10 rfl)
  int := free_ok X G (Says.fact c 11 rfl)
  bol := free_ok X G (Says.fact c 12 rfl)
  abs := free_ok X G (Says.fact c 13 rfl)
  dmd := free_ok X G (Says.fact c 14 rfl)
  rpr := free_ok X G (Says.fact c 15 rfl)
  LETTERS := gv_str X G (Says.fact c 16 rfl)
  SIGNS := gv_str X G (Says.fact c 17 rfl)
  LONGEST := gv_int X G (Says.fact c 18 rfl)
  mOPS := gv_int X G (Says.fact c 19 rfl)
  mFACTS := gv_int X G (Says.fact c 20 rfl)
  mFORMS := gv_int X G (Says.fact c 21 rfl)
  mSIDE := gv_int X G (Says.fact c 22 rfl)
  mINNER := gv_int X G (Says.fact c 23 rfl)
  mTRI := gv_int X G (Says.fact c 24 rfl)
  mSTO := gv_int X G (Says.fact c 25 rfl)
  mCELLS := gv_int X G (Says.fact c 26 rfl)
  eT := fun H => tupA_ok (Says.ex1 c) H
  gF := glo_ok X G (Says.fact c 27 rfl)
  gK := glo_ok X G (Says.fact c 28 rfl)
  gC := glo_ok X G (Says.fact c 29 rfl)
  iF := insB_ok (cls_ok (Says.fact c 74 rfl)) (Says.ins_Formula c)
  iK := insB_ok (cls_ok (Says.fact c 75 rfl)) (Says.ins_Kind c)
  iC := insB_ok (cls_ok (Says.fact c 76 rfl)) (Says.ins_Cell c)
  cL := cls_ok (Says.fact c 77 rfl)
  cT := cls_ok (Says.fact c 78 rfl)
  cP := cls_ok (Says.fact c 79 rfl)
  f_name := noat_ok (Says.fact c 80 rfl)
  f_sign := noat_ok (Says.fact c 81 rfl)
  f_left := noat_ok (Says.fact c 82 rfl)
  f_right := noat_ok (Says.fact c 83 rfl)
  f_signs := noat_ok (Says.fact c 84 rfl)
  f_text := noat_ok (Says.fact c 85 rfl)
  k_turns := noat_ok (Says.fact c 86 rfl)
  k_calm := noat_ok (Says.fact c 87 rfl)
  c_kind := noat_ok (Says.fact c 88 rfl)
  c_ins := noat_ok (Says.fact c 89 rfl)
  c_inner := noat_ok (Says.fact c 90 rfl)
  c_outs := noat_ok (Says.fact c 91 rfl)
  c_triples := noat_ok (Says.fact c 92 rfl)
  c_stored := noat_ok (Says.fact c 93 rfl)
  c_wanted := noat_ok (Says.fact c 94 rfl)
  c_begin := noat_ok (Says.fact c 95 rfl)
  c_end := noat_ok (Says.fact c 96 rfl)
  l_kind := noat_ok (Says.fact c 97 rfl)
  l_size := noat_ok (Says.fact c 98 rfl)
  l_operations := noat_ok (Says.fact c 99 rfl)
  l_above := noat_ok (Says.fact c 100 rfl)
  l_trail := noat_ok (Says.fact c 101 rfl)
  t_numbers := noat_ok (Says.fact c 102 rfl)
  t_letter_names := noat_ok (Says.fact c 103 rfl)
  t_closing := noat_ok (Says.fact c 104 rfl)
  p_table := noat_ok (Says.fact c 105 rfl)
  p_known := noat_ok (Says.fact c 106 rfl)
  p_steps := noat_ok (Says.fact c 107 rfl)
theorem tx33 (X : K.In h) (G : h.Ns mainGlobals mg) (c : Says w K) : GTxt K mg "is_integer" (top 33) [] [] := by
  obtain ⟨fd, F⟩ := Says.def_ c 0 rfl
  exact ⟨_, fd, F, glo_ok X G (Says.fact c 36 rfl)⟩
theorem tx34 (X : K.In h) (G : h.Ns mainGlobals mg) (c : Says w K) : GTxt K mg "is_within" (top 34) [] [] := by
  obtain ⟨fd, F⟩ := Says.def_ c 1 rfl
  exact ⟨_, fd, F, glo_ok X G (Says.fact c 37 rfl)⟩
theorem tx35 (X : K.In h) (G : h.Ns mainGlobals mg) (c : Says w K) : GTxt K mg "is_name" (top 35) [] [] := by
  obtain ⟨fd, F⟩ := Says.def_ c 2 rfl
  exact ⟨_, fd, F, glo_ok X G (Says.fact c 38 rfl)⟩
theorem tx36 (X : K.In h) (G : h.Ns mainGlobals mg) (c : Says w K) : GTxt K mg "is_row" (top 36) [] [] := by
  obtain ⟨fd, F⟩ := Says.def_ c 3 rfl
  exact ⟨_, fd, F, glo_ok X G (Says.fact c 39 rfl)⟩
theorem tx37 (X : K.In h) (G : h.Ns mainGlobals mg) (c : Says w K) : GTxt K mg "check_names" (top 37) [.non, .ref (zAt K).E] [] := by
  obtain ⟨fd, F⟩ := Says.def_ c 4 rfl
  exact ⟨_, fd, F, glo_ok X G (Says.fact c 40 rfl)⟩
theorem tx41 (X : K.In h) (G : h.Ns mainGlobals mg) (c : Says w K) : GTxt K mg "letter" (top 41) [] [] := by
  obtain ⟨fd, F⟩ := Says.def_ c 5 rfl
  exact ⟨_, fd, F, glo_ok X G (Says.fact c 41 rfl)⟩
theorem tx42 (X : K.In h) (G : h.Ns mainGlobals mg) (c : Says w K) : GTxt K mg "operation_of" (top 42) [] [] := by
  obtain ⟨fd, F⟩ := Says.def_ c 6 rfl
  exact ⟨_, fd, F, glo_ok X G (Says.fact c 42 rfl)⟩
theorem tx43 (X : K.In h) (G : h.Ns mainGlobals mg) (c : Says w K) : GTxt K mg "written_parts" (top 43) [] [] := by
  obtain ⟨fd, F⟩ := Says.def_ c 7 rfl
  exact ⟨_, fd, F, glo_ok X G (Says.fact c 43 rfl)⟩
theorem tx47 (X : K.In h) (G : h.Ns mainGlobals mg) (c : Says w K) : GTxt K mg "check_operations" (top 47) [] [] := by
  obtain ⟨fd, F⟩ := Says.def_ c 8 rfl
  exact ⟨_, fd, F, glo_ok X G (Says.fact c 44 rfl)⟩
theorem tx48 (X : K.In h) (G : h.Ns mainGlobals mg) (c : Says w K) : GTxt K mg "check_formula" (top 48) [] [] := by
  obtain ⟨fd, F⟩ := Says.def_ c 9 rfl
  exact ⟨_, fd, F, glo_ok X G (Says.fact c 45 rfl)⟩
theorem tx49 (X : K.In h) (G : h.Ns mainGlobals mg) (c : Says w K) : GTxt K mg "check_formulas" (top 49) [.int 0] [] := by
  obtain ⟨fd, F⟩ := Says.def_ c 10 rfl
  exact ⟨_, fd, F, glo_ok X G (Says.fact c 46 rfl)⟩
theorem tx50 (X : K.In h) (G : h.Ns mainGlobals mg) (c : Says w K) : GTxt K mg "check_facts" (top 50) [] [] := by
  obtain ⟨fd, F⟩ := Says.def_ c 11 rfl
  exact ⟨_, fd, F, glo_ok X G (Says.fact c 47 rfl)⟩
theorem tx54 (X : K.In h) (G : h.Ns mainGlobals mg) (c : Says w K) : GTxt K mg "check_kind" (top 54) [] [] := by
  obtain ⟨fd, F⟩ := Says.def_ c 12 rfl
  exact ⟨_, fd, F, glo_ok X G (Says.fact c 48 rfl)⟩
theorem tx56 (X : K.In h) (G : h.Ns mainGlobals mg) (c : Says w K) : GTxt K mg "keys_of" (top 56) [] [] := by
  obtain ⟨fd, F⟩ := Says.def_ c 13 rfl
  exact ⟨_, fd, F, glo_ok X G (Says.fact c 49 rfl)⟩
theorem tx57 (X : K.In h) (G : h.Ns mainGlobals mg) (c : Says w K) : GTxt K mg "table_of" (top 57) [] [] := by
  obtain ⟨fd, F⟩ := Says.def_ c 14 rfl
  exact ⟨_, fd, F, glo_ok X G (Says.fact c 50 rfl)⟩
theorem tx59 (X : K.In h) (G : h.Ns mainGlobals mg) (c : Says w K) : GTxt K mg "got_things" (top 59) [] [] := by
  obtain ⟨fd, F⟩ := Says.def_ c 15 rfl
  exact ⟨_, fd, F, glo_ok X G (Says.fact c 51 rfl)⟩
theorem tx61 (X : K.In h) (G : h.Ns mainGlobals mg) (c : Says w K) : GTxt K mg "check_sides" (top 61) [] [] := by
  obtain ⟨fd, F⟩ := Says.def_ c 16 rfl
  exact ⟨_, fd, F, glo_ok X G (Says.fact c 52 rfl)⟩
theorem tx62 (X : K.In h) (G : h.Ns mainGlobals mg) (c : Says w K) : GTxt K mg "check_cell_triples" (top 62) [] [] := by
  obtain ⟨fd, F⟩ := Says.def_ c 17 rfl
  exact ⟨_, fd, F, glo_ok X G (Says.fact c 53 rfl)⟩
theorem tx64 (X : K.In h) (G : h.Ns mainGlobals mg) (c : Says w K) : GTxt K mg "check_cell" (top 64) [] [] := by
  obtain ⟨fd, F⟩ := Says.def_ c 18 rfl
  exact ⟨_, fd, F, glo_ok X G (Says.fact c 54 rfl)⟩
theorem tx65 (X : K.In h) (G : h.Ns mainGlobals mg) (c : Says w K) : GTxt K mg "thing_of" (top 65) [] [] := by
  obtain ⟨fd, F⟩ := Says.def_ c 19 rfl
  exact ⟨_, fd, F, glo_ok X G (Says.fact c 55 rfl)⟩
theorem tx66 (X : K.In h) (G : h.Ns mainGlobals mg) (c : Says w K) : GTxt K mg "copies_of" (top 66) [] [] := by
  obtain ⟨fd, F⟩ := Says.def_ c 20 rfl
  exact ⟨_, fd, F, glo_ok X G (Says.fact c 56 rfl)⟩
theorem tx67 (X : K.In h) (G : h.Ns mainGlobals mg) (c : Says w K) : GTxt K mg "chain_triples" (top 67) [] [] := by
  obtain ⟨fd, F⟩ := Says.def_ c 21 rfl
  exact ⟨_, fd, F, glo_ok X G (Says.fact c 57 rfl)⟩
theorem tx68 (X : K.In h) (G : h.Ns mainGlobals mg) (c : Says w K) : GTxt K mg "check_clash" (top 68) [] [] := by
  obtain ⟨fd, F⟩ := Says.def_ c 22 rfl
  exact ⟨_, fd, F, glo_ok X G (Says.fact c 58 rfl)⟩
theorem tx69 (X : K.In h) (G : h.Ns mainGlobals mg) (c : Says w K) : GTxt K mg "kept_things" (top 69) [] [] := by
  obtain ⟨fd, F⟩ := Says.def_ c 23 rfl
  exact ⟨_, fd, F, glo_ok X G (Says.fact c 59 rfl)⟩
theorem tx70 (X : K.In h) (G : h.Ns mainGlobals mg) (c : Says w K) : GTxt K mg "check_count" (top 70) [] [] := by
  obtain ⟨fd, F⟩ := Says.def_ c 24 rfl
  exact ⟨_, fd, F, glo_ok X G (Says.fact c 60 rfl)⟩
theorem tx71 (X : K.In h) (G : h.Ns mainGlobals mg) (c : Says w K) : GTxt K mg "check_lost" (top 71) [] [] := by
  obtain ⟨fd, F⟩ := Says.def_ c 25 rfl
  exact ⟨_, fd, F, glo_ok X G (Says.fact c 61 rfl)⟩
theorem tx72 (X : K.In h) (G : h.Ns mainGlobals mg) (c : Says w K) : GTxt K mg "untold" (top 72) [] [] := by
  obtain ⟨fd, F⟩ := Says.def_ c 26 rfl
  exact ⟨_, fd, F, glo_ok X G (Says.fact c 62 rfl)⟩
theorem tx75 (X : K.In h) (G : h.Ns mainGlobals mg) (c : Says w K) : GTxt K mg "turned" (top 75) [] [] := by
  obtain ⟨fd, F⟩ := Says.def_ c 27 rfl
  exact ⟨_, fd, F, glo_ok X G (Says.fact c 63 rfl)⟩
theorem tx77 (X : K.In h) (G : h.Ns mainGlobals mg) (c : Says w K) : GTxt K mg "triple_of" (top 77) [] [] := by
  obtain ⟨fd, F⟩ := Says.def_ c 28 rfl
  exact ⟨_, fd, F, glo_ok X G (Says.fact c 64 rfl)⟩
theorem tx81 (X : K.In h) (G : h.Ns mainGlobals mg) (c : Says w K) : GTxt K mg "kept_for" (top 81) [] [] := by
  obtain ⟨fd, F⟩ := Says.def_ c 29 rfl
  exact ⟨_, fd, F, glo_ok X G (Says.fact c 65 rfl)⟩
theorem tx82 (X : K.In h) (G : h.Ns mainGlobals mg) (c : Says w K) : GTxt K mg "tells" (top 82) [] [] := by
  obtain ⟨fd, F⟩ := Says.def_ c 30 rfl
  exact ⟨_, fd, F, glo_ok X G (Says.fact c 66 rfl)⟩
theorem tx84 (X : K.In h) (G : h.Ns mainGlobals mg) (c : Says w K) : GTxt K mg "_law_purse" (top 84) [] [] := by
  obtain ⟨fd, F⟩ := Says.def_ c 31 rfl
  exact ⟨_, fd, F, glo_ok X G (Says.fact c 67 rfl)⟩
theorem tx85 (X : K.In h) (G : h.Ns mainGlobals mg) (c : Says w K) : GTxt K mg "_law_pick" (top 85) [] [] := by
  obtain ⟨fd, F⟩ := Says.def_ c 32 rfl
  exact ⟨_, fd, F, glo_ok X G (Says.fact c 68 rfl)⟩
theorem tx86 (X : K.In h) (G : h.Ns mainGlobals mg) (c : Says w K) : GTxt K mg "_law_kind" (top 86) [] [] := by
  obtain ⟨fd, F⟩ := Says.def_ c 33 rfl
  exact ⟨_, fd, F, glo_ok X G (Says.fact c 69 rfl)⟩
theorem tx87 (X : K.In h) (G : h.Ns mainGlobals mg) (c : Says w K) : GTxt K mg "_law_cell" (top 87) [] [] := by
  obtain ⟨fd, F⟩ := Says.def_ c 34 rfl
  exact ⟨_, fd, F, glo_ok X G (Says.fact c 70 rfl)⟩
theorem tx88 (X : K.In h) (G : h.Ns mainGlobals mg) (c : Says w K) : GTxt K mg "_law_letter" (top 88) [] [] := by
  obtain ⟨fd, F⟩ := Says.def_ c 35 rfl
  exact ⟨_, fd, F, glo_ok X G (Says.fact c 71 rfl)⟩
theorem tx89 (X : K.In h) (G : h.Ns mainGlobals mg) (c : Says w K) : GTxt K mg "_law_right" (top 89) [] [] := by
  obtain ⟨fd, F⟩ := Says.def_ c 36 rfl
  exact ⟨_, fd, F, glo_ok X G (Says.fact c 72 rfl)⟩
theorem tx90 (X : K.In h) (G : h.Ns mainGlobals mg) (c : Says w K) : GTxt K mg "law" (top 90) [] [] := by
  obtain ⟨fd, F⟩ := Says.def_ c 37 rfl
  exact ⟨_, fd, F, glo_ok X G (Says.fact c 73 rfl)⟩
theorem tx400 (X : K.In h) (G : h.Ns mainGlobals mg) (c : Says w K) : CTxt K mg (zAt K).F "Formula" "Formula.__init__" (met 40 0) [.str "", .non, .non] [] := by
  obtain ⟨fd, F⟩ := Says.def_ c 38 rfl
  exact ⟨_, fd, F, mkr_ok (Says.fact c 109 rfl), glo_ok X G (Says.fact c 27 rfl)⟩
theorem tx530 (X : K.In h) (G : h.Ns mainGlobals mg) (c : Says w K) : CTxt K mg (zAt K).K "Kind" "Kind.__init__" (met 53 0) [] [("calm", .bl false)] := by
  obtain ⟨fd, F⟩ := Says.def_ c 39 rfl
  exact ⟨_, fd, F, mkr_ok (Says.fact c 110 rfl), glo_ok X G (Says.fact c 28 rfl)⟩
theorem tx630 (X : K.In h) (G : h.Ns mainGlobals mg) (c : Says w K) : CTxt K mg (zAt K).C "Cell" "Cell.__init__" (met 63 0) [] [("begin", .ref (bAd K))] := by
  obtain ⟨fd, F⟩ := Says.def_ c 40 rfl
  exact ⟨_, fd, F, mkr_ok (Says.fact c 111 rfl), glo_ok X G (Says.fact c 29 rfl)⟩
theorem tx760 (X : K.In h) (G : h.Ns mainGlobals mg) (c : Says w K) : CTxt K mg (zAt K).L "Closing" "Closing.__init__" (met 76 0) [] [] := by
  obtain ⟨fd, F⟩ := Says.def_ c 41 rfl
  exact ⟨_, fd, F, mkr_ok (Says.fact c 112 rfl), glo_ok X G (Says.fact c 30 rfl)⟩
theorem tx780 (X : K.In h) (G : h.Ns mainGlobals mg) (c : Says w K) : CTxt K mg (zAt K).T "Table" "Table.__init__" (met 78 0) [] [] := by
  obtain ⟨fd, F⟩ := Says.def_ c 42 rfl
  exact ⟨_, fd, F, mkr_ok (Says.fact c 113 rfl), glo_ok X G (Says.fact c 31 rfl)⟩
theorem tx800 (X : K.In h) (G : h.Ns mainGlobals mg) (c : Says w K) : CTxt K mg (zAt K).P "Kept" "Kept.__init__" (met 80 0) [] [] := by
  obtain ⟨fd, F⟩ := Says.def_ c 43 rfl
  exact ⟨_, fd, F, mkr_ok (Says.fact c 114 rfl), glo_ok X G (Says.fact c 32 rfl)⟩
theorem tx533 (c : Says w K) : MTxt K (zAt K).K "Kind" "images" "Kind.images" (met 53 3) [] [] := by
  obtain ⟨fd, F⟩ := Says.def_ c 45 rfl
  exact ⟨_, fd, F, meth_ok (Says.fact c 115 rfl)⟩
theorem tx761 (c : Says w K) : MTxt K (zAt K).L "Closing" "root" "Closing.root" (met 76 1) [] [] := by
  obtain ⟨fd, F⟩ := Says.def_ c 46 rfl
  exact ⟨_, fd, F, meth_ok (Says.fact c 116 rfl)⟩
theorem tx763 (c : Says w K) : MTxt K (zAt K).L "Closing" "merge" "Closing.merge" (met 76 3) [] [] := by
  obtain ⟨fd, F⟩ := Says.def_ c 47 rfl
  exact ⟨_, fd, F, meth_ok (Says.fact c 117 rfl)⟩
theorem tx764 (c : Says w K) : MTxt K (zAt K).L "Closing" "close" "Closing.close" (met 76 4) [] [] := by
  obtain ⟨fd, F⟩ := Says.def_ c 48 rfl
  exact ⟨_, fd, F, meth_ok (Says.fact c 118 rfl)⟩
theorem tx765 (c : Says w K) : MTxt K (zAt K).L "Closing" "entered" "Closing.entered" (met 76 5) [] [] := by
  obtain ⟨fd, F⟩ := Says.def_ c 49 rfl
  exact ⟨_, fd, F, meth_ok (Says.fact c 119 rfl)⟩
theorem tx766 (c : Says w K) : MTxt K (zAt K).L "Closing" "got" "Closing.got" (met 76 6) [] [] := by
  obtain ⟨fd, F⟩ := Says.def_ c 50 rfl
  exact ⟨_, fd, F, meth_ok (Says.fact c 120 rfl)⟩
theorem tx781 (c : Says w K) : MTxt K (zAt K).T "Table" "number" "Table.number" (met 78 1) [] [] := by
  obtain ⟨fd, F⟩ := Says.def_ c 51 rfl
  exact ⟨_, fd, F, meth_ok (Says.fact c 121 rfl)⟩
theorem tx801 (c : Says w K) : MTxt K (zAt K).P "Kept" "root" "Kept.root" (met 80 1) [] [] := by
  obtain ⟨fd, F⟩ := Says.def_ c 52 rfl
  exact ⟨_, fd, F, meth_ok (Says.fact c 122 rfl)⟩
theorem tx802 (c : Says w K) : MTxt K (zAt K).P "Kept" "has" "Kept.has" (met 80 2) [] [] := by
  obtain ⟨fd, F⟩ := Says.def_ c 53 rfl
  exact ⟨_, fd, F, meth_ok (Says.fact c 123 rfl)⟩
theorem tx405 (c : Says w K) : OTxt K (zAt K).F "__mul__" "Formula.__mul__" (met 40 5) := by
  obtain ⟨fd, F⟩ := Says.def_ c 54 rfl
  have M := meth_ok (Says.fact c 124 rfl)
  exact ⟨_, fd, F, M.at_, M.fn⟩
theorem tx4010 (c : Says w K) : OTxt K (zAt K).F "__len__" "Formula.__len__" (met 40 10) := by
  obtain ⟨fd, F⟩ := Says.def_ c 55 rfl
  have M := meth_ok (Says.fact c 125 rfl)
  exact ⟨_, fd, F, M.at_, M.fn⟩
theorem tx4012 (c : Says w K) : OTxt K (zAt K).F "__str__" "Formula.__str__" (met 40 12) := by
  obtain ⟨fd, F⟩ := Says.def_ c 56 rfl
  have M := meth_ok (Says.fact c 126 rfl)
  exact ⟨_, fd, F, M.at_, M.fn⟩
theorem tx403 (c : Says w K) : PTxt K (zAt K).F "parts" "Formula.parts" (met 40 3) := by
  obtain ⟨fd, F⟩ := Says.g1 c
  exact ⟨_, _, fd, F, propB_ok (Says.pr_Formula c)⟩
theorem tx532 (c : Says w K) : PTxt K (zAt K).K "lot" "Kind.lot" (met 53 2) := by
  obtain ⟨fd, F⟩ := Says.g2 c
  exact ⟨_, _, fd, F, propB_ok (Says.pr_Kind c)⟩
theorem xtx (X : K.In h) (G : h.Ns mainGlobals mg) (c : Says w K) : XTxt K mg (ga K "Clash") := by
  obtain ⟨fd, F⟩ := Says.def_ c 44 rfl
  have M := meth_ok (Says.fact c 127 rfl)
  exact ⟨oexB_ok (Says.oex c), ⟨_, fd, F, M.at_, beq_iff_eq.mp M.fn⟩, noat_ok (Says.fact c 108 rfl), glo_ok X G (Says.fact c 33 rfl)⟩
theorem xmm (c : Says w K) : PySem.W.exmOne K (.ref (ga K "Clash")) (.ref (ga K "Clash")) = some true := exm_ok (Says.fact c 128 rfl)
theorem ltx (X : K.In h) (G : h.Ns mainGlobals mg) (c : Says w K) : LTxt K w mg := lots_ok (glo_ok X G (Says.fact c 34 rfl)) (Says.tab c) (Says.lots c)
theorem ptx (X : K.In h) (G : h.Ns mainGlobals mg) (c : Says w K) : PlTxt K mg := ⟨_, glo_ok X G (Says.fact c 35 rfl), fun H => tupA_ok (Says.pla c) H⟩
end
end K85
/-! K85Fin: all defs together. -/
namespace K85
open PySem PySem.Spec PyProof.Rows L2
theorem facts {P : Program} {w : World} {K : PySem.W.Frag} {h : Heap} {mg : Str → Option Value} {f : Addr} (X : K.In h) (G : h.Ns mainGlobals mg) (hfa : mg ("law" : Str) = some (.ref f)) (c : Says w K) :
    ∃ fd : FuncData, (∀ (s : Shared) (v : Value), BindsTo s fd ⟨[v], []⟩ [("_law_script", v)]) ∧ ∀ base : Heap, K.In base → base.Ns mainGlobals mg → FnG P w K mg base 12 f fd ["_law_script"] (spLaw K) := by
  have T := txt_of X G c
  have TL := ltx X G c
  have TP := ptx X G c
  have TX := xtx X G c
  obtain ⟨f', fd, F, hf⟩ := tx90 X G c
  have e := hfa.symm.trans hf
  cases e
  have b := FunD.bindsA (ps := ["_law_script"]) F fun _ _ _ _ _ _ us hl => match us, hl with | [_], _ => rfl
  refine ⟨fd, fun s v => b s [v] rfl, fun base _ _ => ?_⟩
  have G33 := g33 (P := P) (w := w) (base := base) T (tx33 X G c)
  have G34 := g34 T G33 (tx34 X G c)
  have G35 := g35 (P := P) (w := w) (base := base) T (tx35 X G c)
  have G36 := g36 (P := P) (w := w) (base := base) T (tx36 X G c)
  obtain ⟨G37a, G37b, G37c⟩ := g37 T G35 (tx37 X G c)
  obtain ⟨GF3, GF0⟩ := g400 (P := P) (w := w) (base := base) T (tx400 X G c)
  have G41 := g41 T G35 GF3 (tx41 X G c)
  have G47 := g47 (P := P) (w := w) (base := base) T (tx47 X G c)
  have G48 := g48 (P := P) (w := w) (base := base) T (tx48 X G c)
  have G42 := g42 T G48 G47 GF0 (tx42 X G c)
  have O405 := g405 T G42 (tx405 c)
  have O410 := g4010 (P := P) (w := w) (mg := mg) (base := base) T (tx4010 c)
  have O412 := g4012 (P := P) (w := w) (mg := mg) (base := base) T (tx4012 c)
  have G43 := g43 (P := P) (w := w) (base := base) T (tx43 X G c)
  have G403 := g403 T G43 (tx403 c)
  have G49 := g49 (P := P) (w := w) (base := base) T (tx49 X G c)
  have G50 := g50 T G36 (tx50 X G c)
  have G54 := g54 (P := P) (w := w) (base := base) T (tx54 X G c)
  have G532 := g532 (P := P) (base := base) T TL (tx532 c)
  have G530 := g530 (P := P) (base := base) T TL (tx530 X G c)
  have G533 := g533 T G33 G36 G532 (tx533 c)
  have G56 := g56 (P := P) (w := w) (base := base) T (tx56 X G c)
  have G57 := g57 T G56 G533 (tx57 X G c)
  have G59 := g59 (P := P) (w := w) (base := base) T (tx59 X G c)
  have G61 := g61 T G37a G37c (tx61 X G c)
  have G62 := g62 T G36 (tx62 X G c)
  have G64 := g64 (P := P) (w := w) (base := base) T (tx64 X G c)
  have G65 := g65 (P := P) (w := w) (base := base) T (tx65 X G c)
  have G66 := g66 T G65 (tx66 X G c)
  have G67 := g67 T G66 (tx67 X G c)
  have G68 := g68 T TX G67 G57 (tx68 X G c)
  have G630 := g630 (v1 := .non) (v2 := .non) T G54 G61 G62 G37b G68 (by simp) (tx630 X G c)
  have G69 := g69 (P := P) (w := w) (base := base) T (tx69 X G c)
  have G70 := g70 T G34 (tx70 X G c)
  have G71 := g71 T G34 G36 (tx71 X G c)
  have G72 := g72 T G64 G70 G71 G59 G67 G69 (tx72 X G c)
  have G75 := g75 (P := P) (w := w) (base := base) (tx75 X G c)
  have G760 := g760 (P := P) (w := w) (base := base) T (tx760 X G c)
  have G761 := g761 (P := P) (w := w) (mg := mg) (base := base) T (tx761 c)
  have G763 := g763 T G761 (tx763 c)
  have G765 := g765 T TP G75 G761 G763 (tx765 c)
  have G764 := g764 T G532 G765 (tx764 c)
  have G766 := g766 T TP G761 (tx766 c)
  have G77 := g77 T O412 (tx77 X G c)
  have G781 := g781 T O412 (tx781 c)
  have G780 := g780 T O412 O410 G403 G77 G760 G763 G764 G781 (tx780 X G c)
  have G800 := g800 T G780 G781 G766 (tx800 X G c)
  have G801 := g801 T G761 G781 (tx801 c)
  have G802 := g802 T G801 (tx802 c)
  have G81 := g81 T G54 G50 G49 G48 G800 (tx81 X G c)
  have G82 := g82 T G81 G802 (tx82 X G c)
  have G84 := g84 (P := P) (w := w) (base := base) T (tx84 X G c)
  have G85 := g85 (P := P) (w := w) (base := base) T (tx85 X G c)
  have G86 := g86 T G85 (tx86 X G c)
  have G88 := g88 T G41 (tx88 X G c)
  have G87 := g87 T TX (xmm c) G85 G530 G630 (tx87 X G c)
  have G89 := g89 T (Says.self c) G85 G86 G87 G88 G41 O405 G530 G82 G72 (tx89 X G c)
  exact ok90 T G84 G89 F
end K85
/-! K85Law: the law. -/
namespace K85
open PySem PySem.Spec PyProof.Rows L2
theorem run (w : World) : HandSHeadRun.RunEq RW (PySem.W.view RW.prog [90]) hookH ob 9500 names w :=
  PySem.W.byRow2 "special-get-raises" (P := fun w => HandSHeadRun.RunEq RW (PySem.W.view RW.prog [90]) hookH ob 9500 names w) runf runt w
end K85
open PySem PySem.W PySem.Calls PyProof.Rows
theorem PySem.Challenge.cw_thirdback_k85_whole_chains_and_facts_holds : PySem.Challenge.rw_thirdback_k85_whole_chains_and_facts.Holds := by
  w_on; o_law
  refine HandSHeadRun.head_any (r := OpenLaw.row PySem.Challenge.rw_thirdback_k85_whole_chains_and_facts) (q := view (OpenLaw.row PySem.Challenge.rw_thirdback_k85_whole_chains_and_facts).prog [90]) (H := K85.hookH) (ob := K85.ob) (M := 9500) (loose := K85.names) (d := HandSHeadRun.topDef (OpenLaw.row PySem.Challenge.rw_thirdback_k85_whole_chains_and_facts).prog 90) (kwd := []) K85.ob_eq
    (by kernel_rfl) (fun s => by kernel_rfl) K85.run (by kernel_rfl) (by kernel_rfl) (by kernel_rfl) (by rfl) (by first | assumption | decide +kernel) (by decide +kernel) ⟨rfl, rfl, rfl, rfl, rfl, by decide +kernel⟩ ?hw ?hc
  case hw => w_witness2
  case hc =>
    refine K85.walk_ofG (l := PySem.Challenge.rw_thirdback_k85_whole_chains_and_facts) (n := 63) (k := 12) (x := "_law_script") rfl (by decide) (by kernel_rfl) ⟨rfl, by decide, by decide⟩ ?F
    intro w mg fa h Y G hmg0
    obtain ⟨K, KX, c⟩ := Y
    have hmg : mg ("law" : PySem.Str) = some (.ref fa) := by
      have e : (HandSHeadRun.topDef (OpenLaw.row PySem.Challenge.rw_thirdback_k85_whole_chains_and_facts).prog 90).name = ("law" : PySem.Str) := by kernel_rfl
      rw [← e]
      exact hmg0
    obtain ⟨fd, hb, hF⟩ := K85.facts (P := (PySem.Challenge.rw_thirdback_k85_whole_chains_and_facts).prog) (w := w) KX G hmg c
    exact ⟨K, fd, K85.spLaw K, KX, hb, fun H a ns hl hS => ⟨a, ns, rfl, hS, hl, fun _ => rfl⟩, hF⟩
