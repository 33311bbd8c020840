import PyProof.Rows.All
import Wide.All
import OpenK.AllK
import Wide.FinOn
import Lean
import PySem.Challenge.RW_pq0853_01
set_option Elab.async false
set_option rowWalk.seconds 0
set_option compiler.extract_closed false
set_option maxRecDepth 100000
set_option maxHeartbeats 0
set_option pp.deepTerms false
set_option pp.maxSteps 3000
set_option linter.unusedSimpArgs false
open PySem PySem.W PyProof.Rows
namespace Mine
section
open PySem PySem.W PyProof.Rows
/-- a mark that bears the hook which the head's tool lays -/
structure Tag (H : Hook) : Prop where
theorem ask {A B : Prop} (H : Hook) (_ : Tag H → B → B) (_ : True) (n : Tag H → A) : A := n ⟨⟩
theorem fix (H : Hook) {B : Prop} (_ : Tag H) (h : B) : B := h
@[reducible] noncomputable def asOf {K : Params → Frag} {as : List Addr} {e : ∀ P, as = (K P).map (·.1)} {A B : Prop} (_ : (Tag (kHook K as e) → A) → B) : List Addr := as
theorem asOk {K : Params → Frag} {as : List Addr} {e : ∀ P, as = (K P).map (·.1)} {A B : Prop} (_ : (Tag (kHook K as e) → A) → B) : ∀ P, as = (K P).map (·.1) := e
section
local macro_rules | `(tactic| o_law) => `(tactic| (refine' Mine.ask (B := PySem.Challenge.rw_pq0853_01.row.Holds) _ ?m ?hw ?n; (case' m => intro tg h)))
local macro_rules | `(tactic| o_head $H) => `(tactic| exact Mine.fix $H (by assumption) (by assumption))
local macro_rules | `(tactic| w_witness2) => `(tactic| trivial)
open_top hd for PySem.Challenge.rw_pq0853_01
end
end
section
open PySem PySem.W PyProof.Rows PySem.Calls PySem.Spec
/-! ## the walk's lines, printed by plain functions: a line's object costs far less so -/
abbrev Stx := Lean.Syntax
abbrev Stxs := List Lean.Syntax
def ndS (k : Lean.Name) (as : Stxs) : Stx := .node .none k as.toArray
def at_ (s : String) : Stx := .atom .none s
def idS (n : Lean.Name) : Stx := .ident .none n.toString.toRawSubstring n []
def kwS (k : Lean.Name) (s : String) : Stx := ndS k [at_ s]
/-- t; t; .. -/
def seqS (ts : Stxs) : Stx := ndS `Lean.Parser.Tactic.tacticSeq [ndS `Lean.Parser.Tactic.tacticSeq1Indented [ndS `null (ts.intersperse (at_ ";"))]]
def parS (ts : Stxs) : Stx := ndS `Lean.Parser.Tactic.paren [at_ "(", seqS ts, at_ ")"]
/-! terms -/
def hoS : Stx := ndS `Lean.Parser.Term.hole [at_ "_"]
def goS : Stx := ndS `Lean.Parser.Term.syntheticHole [at_ "?", hoS]
def apS (n : Lean.Name) (as : Stxs) : Stx := if as.isEmpty then idS n else ndS `Lean.Parser.Term.app [idS n, ndS `null as]
def apN (n : Lean.Name) (k : Nat) : Stx := apS n (List.replicate k hoS)
def natS (s : String) : Stx := Lean.Syntax.mkNumLit s
def strS (s : String) : Stx := Lean.Syntax.mkStrLit s
def byS (t : Stx) : Stx := ndS `Lean.Parser.Term.byTactic [at_ "by", seqS [t]]
def tup1S (a : Stx) : Stx := ndS `«term[_]» [at_ "[", ndS `null [a], at_ "]"]
def tup2S (a b : Stx) : Stx := ndS `«term[_]» [at_ "[", ndS `null [a, at_ ",", b], at_ "]"]
/-! tactics -/
def asmS : Stx := kwS `PySem.W.tacticK_asm "k_asm"
def assS : Stx := kwS `Lean.Parser.Tactic.assumption "assumption"
def rflS : Stx := kwS `Lean.Parser.Tactic.tacticRfl "rfl"
def isS : Stx := kwS `PySem.W.tacticK_is "k_is"
def memS : Stx := kwS `PySem.W.tacticK_mem "k_mem"
def tbS : Stx := kwS `PySem.W.tacticTb_start "tb_start"
def instS : Stx := kwS `PySem.W.tacticK_inst "k_inst"
def bootS : Stx := kwS `PyProof.Rows.tacticBoot_fast "boot_fast"
def roomS : Stx := kwS `PySem.W.tacticKtr_room "ktr_room"
def unitsS : Stx := kwS `PySem.W.tacticKtr_units "ktr_units"
def neS : Stx := kwS `PySem.W.tacticK_ne "k_ne"
def getS : Stx := kwS `PySem.W.tacticK_get "k_get"
def putS : Stx := kwS `PySem.W.tacticK_put "k_put"
def hereS : Stx := kwS `PySem.W.tacticK_here "k_here"
def wholeS : Stx := kwS `PySem.W.tacticK_whole "k_whole"
def handedS : Stx := kwS `PySem.W.tacticK_handed "k_handed"
def exactS (t : Stx) : Stx := ndS `Lean.Parser.Tactic.exact [at_ "exact", t]
def refineS (t : Stx) : Stx := ndS `Lean.Parser.Tactic.refine [at_ "refine", t]
def refineS' (t : Stx) : Stx := ndS `Lean.Parser.Tactic.refine' [at_ "refine'", t]
def erflS : Stx := exactS (idS `rfl)
def decS : Stx := ndS `Lean.Parser.Tactic.decide [at_ "decide", ndS `Lean.Parser.Tactic.optConfig [ndS `null []]]
def tryS (t : Stx) : Stx := ndS `Lean.Parser.Tactic.tacticTry_ [at_ "try", seqS [t]]
def redS (t : Stx) : Stx := ndS `Lean.Parser.Tactic.withReducible [at_ "with_reducible", seqS [t]]
def uniS (t : Stx) : Stx := ndS `Lean.Parser.Tactic.withUnfoldingAll [at_ "with_unfolding_all", seqS [t]]
def firstS (ts : Stxs) : Stx := ndS `Lean.Parser.Tactic.first [at_ "first", ndS `null (ts.map fun t => ndS `group [at_ "|", seqS [t]])]
def noS (t : Stx) : Stx := ndS `Lean.Parser.Tactic.failIfSuccess [at_ "fail_if_success", seqS [t]]
def dfltS (t : Stx) : Stx := ndS `PySem.W.tacticK_dflt_ [at_ "k_dflt", t]
def caseS (x t : Stx) : Stx := ndS `Lean.Parser.Tactic.case [at_ "case", ndS `null [ndS `Lean.Parser.Tactic.caseArg [ndS `Lean.binderIdent [x], ndS `null []]], at_ "=>", seqS [t]]
def introS (xs : Stxs) : Stx := ndS `Lean.Parser.Tactic.intro [at_ "intro", ndS `null xs]
def nameS (t x : Stx) : Stx := ndS `Lean.Parser.Tactic.rename [at_ "rename", t, at_ "=>", x]
def showS (t : Stx) : Stx := ndS `Lean.Parser.Tactic.show [at_ "show", t]
def sweepS : Stx := tryS (kwS `PySem.W.tacticK_sweep "k_sweep")
def foldS : Stx := tryS (kwS `PySem.W.tacticK_fold "k_fold")
def dsimpS : Stx := tryS (ndS `Lean.Parser.Tactic.dsimp [at_ "dsimp", ndS `Lean.Parser.Tactic.optConfig [ndS `null []], ndS `null [], ndS `null [at_ "only"], ndS `null [], ndS `null []])
def stopS : Stx := refineS (apS `Stop.out [goS])
def bAss : Stx := byS assS
def bAsm : Stx := byS asmS
/-- a name that cannot be meant elsewhere -/
def scp (n : String) : Lean.MacroM Stx := do return idS (← Lean.Macro.addMacroScope (.mkSimple n))
def introN (ns : List String) : Lean.MacroM Stx := do return introS (← ns.mapM scp)
/-- the goal's computation is of this shape -/
def gdS (t : Stx) : Stx := redS (showS (apS `wpAny [hoS, hoS, t, hoS, hoS, hoS]))
/-- refine' by a term, its premises closed in the order told (none told: as they stand); goS: the walk goes on there; tm t: the premise is t itself -/
def tmS (t : Stx) : Stx := ndS `tm [t]
def leafS (f : Lean.Name) (ps : Stxs) (ord : List Nat := []) (b : String := "h") : Lean.MacroM Stxs := do
  let ids ← (List.range ps.length).mapM fun i => scp (b ++ toString i)
  let open_ (t : Stx) : Bool := t.isOfKind `Lean.Parser.Term.syntheticHole || t.isOfKind `tm
  let hs := (ps.zip ids).map fun (t, x) => if t.isOfKind `tm then t.getArg 0 else if open_ t then t else ndS `Lean.Parser.Term.syntheticHole [at_ "?", x]
  let is := if ord.isEmpty then List.range ps.length else ord
  let cs := is.filterMap fun i => let t := ps.getD i goS; if open_ t then none else some (caseS (ids.getD i hoS) t)
  return refineS' (apS f hs) :: cs
/-- a line of the walk: by a lemma, at a goal that bears the written part -/
def lineS (f : Lean.Name) (ps : Stxs) (ord : List Nat := []) (guards inner rest : Stxs := []) : Lean.MacroM Stx := do
  let l ← leafS f ps ord
  return parS (hereS :: guards ++ [dfltS (parS (l ++ inner))] ++ rest)
def stopAt (guards : Stxs) (here : Bool := false) : Lean.MacroM Stx := return parS ((if here then [hereS] else []) ++ guards ++ [stopS])
def stopOut : Lean.MacroM Stx := return stopS
def gCall (a : String) : Stx := gdS (apS `call [apS `Value.ref [natS a], hoS])
def stopCall (a : String) : Lean.MacroM Stx := stopAt [gCall a] true
def gStore (x : String) : Stx := gdS (apS `storeName [hoS, apS `PySem.Str.ofString [strS x], hoS])
/-- a mark of the number stands -/
def marked (i : String) : Lean.MacroM Stx := do return redS (nameS (apS `Mark [natS i]) (← scp "x9"))
def stopStore (x : String) (i : String) : Lean.MacroM Stx := do stopAt [gStore x, noS (← marked i)]
def stopMark (i : String) : Lean.MacroM Stx := do stopAt [← marked i]
def stopUncut (gs : Stxs := []) : Lean.MacroM Stx := do stopAt (noS (redS (nameS (idS `CutMark) (← scp "x9"))) :: gs)
def forLine : Lean.MacroM Stx := do
  let x ← scp "lF"
  let l ← leafS `For_invVF [tmS x, erflS, erflS, goS]
  return parS [hereS, nameS (apN `Fr 4) x, ndS `Lean.Parser.Tactic.withUnfoldingAll [at_ "with_unfolding_all", seqS (l ++ [wholeS])]]
/-! the lines that stand in several texts -/
def enterLine (k8 k9 : Stx) : Lean.MacroM Stx := do
  let l ← leafS `code_def [assS, assS, assS, assS, assS, erflS, erflS, assS, isS, isS, k8, k9, exactS (apS `locs [idS `rfl]), goS, erflS, erflS, erflS, decS] [5, 6, 7, 0, 1, 2, 3, 4, 8, 9, 10, 11, 17, 12, 14, 15, 16]
  return parS (l ++ [wholeS, ← introN ["g'", "L'", "h'", "FG'", "F'", "N'", "B'", "X'", "T'"], dsimpS, foldS])
def bindS : Stx := exactS (apS `BindsTo.of_eq [idS `rfl])
def room1 : Stx := exactS (apS `Nat.lt_of_le_of_lt [apN `Nat.le_add_right 2, bAss])
def isiLine (v : Stx) (f : Lean.Name) : Lean.MacroM Stx := do
  let k ← `(fun _ => ?_)
  return parS [hereS, gdS (apS `call [hoS, tup2S hoS v]), dfltS (refineS (apS f [bAsm, bAsm, bAsm, bAss, k]))]
def dictLine (f : Lean.Name) : Lean.MacroM Stx := lineS f [asmS, memS, assS, assS, goS]
def nameLine (kind : String) (f : Lean.Name) (ps : Stxs) (ord : List Nat) (more : Stxs := []) : Lean.MacroM Stx :=
  lineS f ps ord (gdS (apS `eval [apN `Expr.Name 2, apN `envOf 5]) :: ndS `PyProof.Rows.tacticName_kind_ [at_ "name_kind", ndS `null [strS kind]] :: more) [wholeS]
/-- an own rule of the contract: its constructor, n words, m facts at hand -/
def relBy (f : Lean.Name) (n m : Nat) (pre : Stxs := []) : Stx := refineS (apS f (List.replicate n hoS ++ pre ++ List.replicate m bAss))
def relCase (f : Lean.Name) (n : Nat) (ord : List Nat) (at6 : Option Stx := none) : Lean.MacroM Stx := do
  let ws := (List.replicate n hoS).mapIdx fun i t => tmS (match at6 with | some s => if i == 6 then s else t | none => t)
  return parS (← leafS f (ws ++ List.replicate ord.length assS) (ord.map (· + n)) "r")
/-- a call of a def that has a contract -/
inductive How where | V | T | T2 | tup | lst | P
def ctLine (adr : String) (how : How) (ct : Lean.Name) (start rel : Stx) (nFirst : Bool := false) : Lean.MacroM Stx := do
  let (use, ns) := match how with
    | .V => (`Ct.useV, ["h9", "tk9", "F9", "N9"])
    | .T => (`Ct.useT, ["t9", "h9", "tk9", "F9", "N9"])
    | .T2 => (`Ct.useT2, ["i9", "t9", "h9", "tk9", "F9", "N9"])
    | .P => (`Ct.useP, ["a9", "n9", "t9", "h9", "tk9", "F9", "N9"])
    | _ => (`Ct.useL, ["a9", "vs9", "n9", "h9", "tk9", "F9", "N9", "S9"])
  let l ← leafS use [tmS (apN ct 2), asmS, asmS, asmS, start, asmS, firstS [erflS, assS], rel, roomS, unitsS, goS] (if nFirst then [1, 2, 3, 4, 7, 5, 6, 8, 9] else [1, 2, 3, 7, 4, 5, 6, 8, 9])
  let hv (f : Lean.Name) : Lean.MacroM Stxs := do
    let t : Lean.Term := ⟨apS f [← scp "N9", ← scp "S9"]⟩
    return [(← `(tactic| have XS9 := $t)).raw]
  let fin ← (match how with | .tup => hv `tup_of | .lst => hv `lst_of | _ => pure [])
  return parS [hereS, gCall adr, dfltS (parS (l ++ [← introN ns] ++ fin ++ [dsimpS, sweepS, foldS]))]
def dfLine (f : Lean.Name) (gs : Stxs := []) : Lean.MacroM Stx := return parS (gs ++ [dfltS (refineS (apS f [goS]))])
def unfoldLine (f : Lean.Name) : Lean.MacroM Stx := return ndS `Lean.Parser.Tactic.dsimp [at_ "dsimp", ndS `Lean.Parser.Tactic.optConfig [ndS `null []], ndS `null [], ndS `null [at_ "only"], ndS `null [at_ "[", ndS `null [ndS `Lean.Parser.Tactic.simpLemma [ndS `null [], ndS `null [], idS f]], at_ "]"], ndS `null []]
def dotMk : Stx := exactS (ndS `Lean.Parser.Term.dotIdent [at_ ".", idS `mk])
def gSub (v i : Stx) : Stx := gdS (apS `subscriptTail [hoS, hoS, v, i])
def leS : Stx := exactS (apS `Nat.le_of_ble_eq_true [idS `rfl])
theorem tail2 {l : List (Addr × Obj)} {a b : Addr × Obj} : ∀ p, p ∈ l → p ∈ a :: b :: l := fun _ hp => .tail _ (.tail _ hp)
theorem tail3 {l : List (Addr × Obj)} {a b c : Addr × Obj} : ∀ p, p ∈ l → p ∈ a :: b :: c :: l := fun _ hp => .tail _ (.tail _ (.tail _ hp))
theorem tail4 {l : List (Addr × Obj)} {a b c d : Addr × Obj} : ∀ p, p ∈ l → p ∈ a :: b :: c :: d :: l := fun _ hp => .tail _ (.tail _ (.tail _ (.tail _ hp)))
def subS : Stx := firstS [exactS (idS `tail2), exactS (idS `tail3), exactS (idS `tail4)]
def frontLine : Lean.MacroM Stx := do lineS `set_front [asmS, asmS, asmS, memS, memS, assS, subS, assS, isS, isS, isS, isS, getS, putS, leS, goS] (inner := [wholeS, ← introN ["h'", "F'", "N'"], sweepS])
def keepLine (x : String) : Lean.MacroM Stx := do lineS `set_keep [asmS, asmS, asmS, memS, memS, assS, memS, neS, subS, assS, isS, isS, isS, isS, getS, putS, leS, goS] (guards := [gdS (apS `setAttr [hoS, apS `PySem.Str.ofString [strS x], hoS])]) (inner := [wholeS, ← introN ["h'", "F'", "N'", "TN'"], sweepS])
end
section
open PySem PySem.W PyProof.Rows PySem.Calls PySem.Spec
abbrev Led := List (Addr × Obj)
theorem fillK (_ : OpenLaw) (_ : Params → Frag) : True := trivial
/-- a contract: the def at f, called on a ledger that Rel speaks of, answers as Post says; what it made is tl -/
def Ct (prog : Program) (w : World) (f : Addr) (sz : Nat) (Rel : Led → List Value → (Led → Value → Prop) → Prop) : Prop :=
  ∀ (p : Program) (loose : List Str) (mean : ExcName → Option Value) (mg mb : Str → Option Value) (dp un : Nat) (gd : Option (List Code)) (cn : Str) (cs : Scope) (a : Addr) (ccd : Value) (cl : List (Str × Addr)) (outer : List Env) (A₀ : Around) (base h₀ : Heap) (L : Addr) (m : Str → Option Value) (news : Led) (s : Shared) (vs : List Value) (Post : Led → Value → Prop)
    (Q E : Value → Shared → Prop),
    Below A₀ base outer h₀ → Fr h₀ L s.heap m → (hd.heap_1 w.params).In h₀ → News h₀ L s.heap news → Top p loose mean mg mb h₀ → cs.kind = .function → Rel news vs Post → dp + sz < recursionLimit → un + 8 * sz < cLine →
    (∀ r tl h' tk', Fr h₀ L h' m → News h₀ L h' (tl ++ news) → Post tl r → Q r { s with heap := h', toks := tk' }) →
    wpAny (model prog w) (ktrTop dp un gd cn cs L a ccd cl outer) (call (.ref f) vs) Q E s
/-- what a pure contract's caller gets -/
theorem Ct.use {prog : Program} {w : World} {f : Addr} {sz : Nat} {Rel : Led → List Value → (Led → Value → Prop) → Prop} (C : Ct prog w f sz Rel)
    {p : Program} {loose : List Str} {mean : ExcName → Option Value} {mg mb : Str → Option Value} {dp un : Nat} {gd : Option (List Code)} {cn : Str} {cs : Scope} {a : Addr} {ccd : Value} {cl : List (Str × Addr)} {outer : List Env} {A₀ : Around} {base h₀ : Heap} {L : Addr} {m : Str → Option Value} {news : Led} {s : Shared} {vs : List Value} {Post : Led → Value → Prop}
    {Q E : Value → Shared → Prop} (B : Below A₀ base outer h₀) (F : Fr h₀ L s.heap m) (X : (hd.heap_1 w.params).In h₀) (N : News h₀ L s.heap news) (T : Top p loose mean mg mb h₀) (hk : cs.kind = .function) (R : Rel news vs Post)
    (hd : dp + sz < recursionLimit) (hu : un + 8 * sz < cLine)
    (ret : ∀ r tl h' tk', Fr h₀ L h' m → News h₀ L h' (tl ++ news) → Post tl r → Q r { s with heap := h', toks := tk' }) :
    wpAny (model prog w) (ktrTop dp un gd cn cs L a ccd cl outer) (call (.ref f) vs) Q E s := C _ _ _ _ _ _ _ _ _ _ _ _ _ _ _ _ _ _ _ _ _ _ _ _ _ B F X N T hk R hd hu ret
/-- a contract's body, once what is asked stands -/
def CtB (prog : Program) (w : World) (f : Addr) (sz : Nat) (news : Led) (vs : List Value) (Post : Led → Value → Prop) : Prop :=
  ∀ (p : Program) (loose : List Str) (mean : ExcName → Option Value) (mg mb : Str → Option Value) (dp un : Nat) (gd : Option (List Code)) (cn : Str) (cs : Scope) (a : Addr) (ccd : Value) (cl : List (Str × Addr)) (outer : List Env) (A₀ : Around) (base h₀ : Heap) (L : Addr) (m : Str → Option Value) (s : Shared)
    (Q E : Value → Shared → Prop),
    Below A₀ base outer h₀ → Fr h₀ L s.heap m → (hd.heap_1 w.params).In h₀ → News h₀ L s.heap news → Top p loose mean mg mb h₀ → cs.kind = .function → dp + sz < recursionLimit → un + 8 * sz < cLine →
    (∀ r tl h' tk', Fr h₀ L h' m → News h₀ L h' (tl ++ news) → Post tl r → Q r { s with heap := h', toks := tk' }) →
    wpAny (model prog w) (ktrTop dp un gd cn cs L a ccd cl outer) (call (.ref f) vs) Q E s
theorem Ct.of {prog : Program} {w : World} {f : Addr} {sz : Nat} {Rel : Led → List Value → (Led → Value → Prop) → Prop} (h : ∀ news vs Post, Rel news vs Post → CtB prog w f sz news vs Post) : Ct prog w f sz Rel :=
  fun p loose mean mg mb dp un gd cn cs a ccd cl outer A₀ base h₀ L m news s vs Post Q E B F X N T hk R hd hu ret => h news vs Post R p loose mean mg mb dp un gd cn cs a ccd cl outer A₀ base h₀ L m s Q E B F X N T hk hd hu ret
section
variable {prog : Program} {w : World} {f : Addr} {sz : Nat} {Rel : Led → List Value → (Led → Value → Prop) → Prop} {p : Program} {loose : List Str} {mean : ExcName → Option Value} {mg mb : Str → Option Value} {dp un : Nat} {gd : Option (List Code)} {cn : Str} {cs : Scope} {a : Addr} {ccd : Value} {cl : List (Str × Addr)} {outer : List Env} {A₀ : Around} {base h₀ : Heap} {L : Addr} {m : Str → Option Value} {news : Led} {s : Shared} {vs : List Value}
    {Q E : Value → Shared → Prop}
/-- it makes nothing and hands back v -/
theorem Ct.useV (C : Ct prog w f sz Rel) {v : Value} (B : Below A₀ base outer h₀) (F : Fr h₀ L s.heap m) (X : (hd.heap_1 w.params).In h₀) (N : News h₀ L s.heap news) (T : Top p loose mean mg mb h₀) (hk : cs.kind = .function) (R : Rel news vs fun tl r => tl = [] ∧ r = v)
    (hd : dp + sz < recursionLimit) (hu : un + 8 * sz < cLine) (ret : ∀ h' tk', Fr h₀ L h' m → News h₀ L h' news → Q v { s with heap := h', toks := tk' }) :
    wpAny (model prog w) (ktrTop dp un gd cn cs L a ccd cl outer) (call (.ref f) vs) Q E s :=
  C.use B F X N T hk R hd hu fun _ _ h' tk' F' N' P => by obtain ⟨rfl, rfl⟩ := P; exact ret h' tk' F' N'
/-- it makes nothing and hands back a value of one free word (a token, an address) -/
theorem Ct.useT (C : Ct prog w f sz Rel) {τ : Type} {g : τ → Value} (B : Below A₀ base outer h₀) (F : Fr h₀ L s.heap m) (X : (hd.heap_1 w.params).In h₀) (N : News h₀ L s.heap news) (T : Top p loose mean mg mb h₀) (hk : cs.kind = .function) (R : Rel news vs fun tl r => tl = [] ∧ ∃ t, r = g t)
    (hd : dp + sz < recursionLimit) (hu : un + 8 * sz < cLine) (ret : ∀ t h' tk', Fr h₀ L h' m → News h₀ L h' news → Q (g t) { s with heap := h', toks := tk' }) :
    wpAny (model prog w) (ktrTop dp un gd cn cs L a ccd cl outer) (call (.ref f) vs) Q E s :=
  C.use B F X N T hk R hd hu fun _ _ h' tk' F' N' P => by obtain ⟨rfl, t, rfl⟩ := P; exact ret t h' tk' F' N'
theorem Ct.useT2 (C : Ct prog w f sz Rel) {τ σ : Type} {g : τ → σ → Value} (B : Below A₀ base outer h₀) (F : Fr h₀ L s.heap m) (X : (hd.heap_1 w.params).In h₀) (N : News h₀ L s.heap news) (T : Top p loose mean mg mb h₀) (hk : cs.kind = .function) (R : Rel news vs fun tl r => tl = [] ∧ ∃ t u, r = g t u)
    (hd : dp + sz < recursionLimit) (hu : un + 8 * sz < cLine) (ret : ∀ t u h' tk', Fr h₀ L h' m → News h₀ L h' news → Q (g t u) { s with heap := h', toks := tk' }) :
    wpAny (model prog w) (ktrTop dp un gd cn cs L a ccd cl outer) (call (.ref f) vs) Q E s :=
  C.use B F X N T hk R hd hu fun _ _ h' tk' F' N' P => by obtain ⟨rfl, t, u, rfl⟩ := P; exact ret t u h' tk' F' N'
/-- it makes one list or tuple -/
theorem Ct.useL (C : Ct prog w f sz Rel) {O : List Value → Nat → Obj} {S : List Value → Prop} (B : Below A₀ base outer h₀) (F : Fr h₀ L s.heap m) (X : (hd.heap_1 w.params).In h₀) (N : News h₀ L s.heap news) (T : Top p loose mean mg mb h₀) (hk : cs.kind = .function) (R : Rel news vs fun tl r => ∃ a vs n, tl = [(a, O vs n)] ∧ r = .ref a ∧ S vs)
    (hd : dp + sz < recursionLimit) (hu : un + 8 * sz < cLine) (ret : ∀ a vs n h' tk', Fr h₀ L h' m → News h₀ L h' ((a, O vs n) :: news) → S vs → Q (.ref a) { s with heap := h', toks := tk' }) :
    wpAny (model prog w) (ktrTop dp un gd cn cs L a ccd cl outer) (call (.ref f) vs) Q E s :=
  C.use B F X N T hk R hd hu fun _ _ h' tk' F' N' P => by obtain ⟨a, vs, n, rfl, rfl, z⟩ := P; exact ret a vs n h' tk' F' N' z
theorem Ct.useP (C : Ct prog w f sz Rel) {O : Nat → Tok → Obj} (B : Below A₀ base outer h₀) (F : Fr h₀ L s.heap m) (X : (hd.heap_1 w.params).In h₀) (N : News h₀ L s.heap news) (T : Top p loose mean mg mb h₀) (hk : cs.kind = .function) (R : Rel news vs fun tl r => ∃ a n t, tl = [(a, O n t)] ∧ r = .ref a)
    (hd : dp + sz < recursionLimit) (hu : un + 8 * sz < cLine) (ret : ∀ a n t h' tk', Fr h₀ L h' m → News h₀ L h' ((a, O n t) :: news) → Q (.ref a) { s with heap := h', toks := tk' }) :
    wpAny (model prog w) (ktrTop dp un gd cn cs L a ccd cl outer) (call (.ref f) vs) Q E s :=
  C.use B F X N T hk R hd hu fun _ _ h' tk' F' N' P => by obtain ⟨a, n, t, rfl, rfl⟩ := P; exact ret a n t h' tk' F' N'
end
/-! ## what is known of some word, handed on flat -/
section
variable {α β γ δ : Type} {G : Prop}
theorem ex1a2 {A B : α → Prop} (h : ∃ x, A x ∧ B x) (k : ∀ x, A x → B x → G) : G := by obtain ⟨x, a, b⟩ := h; exact k x a b
theorem ex1a3 {A B C : α → Prop} (h : ∃ x, A x ∧ B x ∧ C x) (k : ∀ x, A x → B x → C x → G) : G := by obtain ⟨x, a, b, c⟩ := h; exact k x a b c
theorem ex1a4 {A B C D : α → Prop} (h : ∃ x, A x ∧ B x ∧ C x ∧ D x) (k : ∀ x, A x → B x → C x → D x → G) : G := by obtain ⟨x, a, b, c, d⟩ := h; exact k x a b c d
theorem ex2a4 {A B C D : α → β → Prop} (h : ∃ x y, A x y ∧ B x y ∧ C x y ∧ D x y) (k : ∀ x y, A x y → B x y → C x y → D x y → G) : G := by obtain ⟨x, y, a, b, c, d⟩ := h; exact k x y a b c d
end
/-! ## loops over a list's or a tuple's items, any ledger -/
section
variable {prog : Program} {w : World} {A : Around} {E : Value → Shared → Prop} {s : Shared} {env : Env} {h₀ : Heap} {x : Str} {body : List Stmt} {Q : Flow → Shared → Prop}
def TurnEnd (h₀ : Heap) (L : Addr) (s₁ : Shared) (q : Addr × Obj) (I : (Str → Option Value) → Led → Prop) (s₂ : Shared) : Prop :=
  ∃ h' tk m' news', s₂ = { s₁ with heap := h', toks := tk } ∧ Fr h₀ L h' m' ∧ News h₀ L h' (q :: news') ∧ (∀ p ∈ news', p.1 ≠ q.1) ∧ I m' news'
def TurnPost (h₀ : Heap) (L : Addr) (s₁ : Shared) (q : Addr × Obj) (I : (Str → Option Value) → Led → Prop) (Q : Flow → Shared → Prop) (f : Flow) (s₂ : Shared) : Prop :=
  match f with
  | .ret v => Q (.ret v) s₂
  | .brk => Q .next s₂
  | _ => TurnEnd h₀ L s₁ q I s₂
theorem each_core {ax : Addr} {vs : List Value} {lp : Addr × Obj} {P : Nat → Value → Prop} {St : Nat → Heap → Prop} {o : Obj} {m₀ : Str → Option Value} {news : Led}
    (W : Walks prog w A s.heap.objs.size [s.heap.objs.size, ax] [s.heap.objs.size] vs.length P St) (hP : ∀ i v, P i v → vs[i]? = some v) (hSt : ∀ i h, St i h → ∃ it, h.get? s.heap.objs.size = some it)
    (st0 : St 0 (s.heap.push o)) (F : Fr h₀ env.locals s.heap m₀) (N : News h₀ env.locals s.heap news) (hm : lp ∈ news) (hax : lp.1 = ax)
    (Inv : List Value → List Value → (Str → Option Value) → Led → Prop) (h0 : Inv [] vs m₀ news) (hlp : ∀ p r m n, Inv p r m n → lp ∈ n)
    (turn : ∀ pre v r m n q h tk, vs = pre ++ v :: r → Inv pre (v :: r) m n → (∀ p ∈ n, p.1 ≠ q.1) → Fr h₀ env.locals h (fun y => if y = x then some v else m y) → News h₀ env.locals h (q :: n) →
      wpAny (model prog w) A (execs body env) (TurnPost h₀ env.locals { s with heap := h, toks := tk } q (Inv (pre ++ [v]) r) Q) E { s with heap := h, toks := tk })
    (done : ∀ m n h tk, Inv vs [] m n → Fr h₀ env.locals h m → News h₀ env.locals h n → Q .next { s with heap := h, toks := tk }) :
    LoopAtV prog w A h₀ env x body Q E (.ref s.heap.objs.size) { s with heap := s.heap.push o } := by
  have hax' := N _ hm
  have hne : ax ≠ env.locals := hax ▸ hax'.2.1
  have hnew := next_is_new F
  let J : Nat → (Str → Option Value) → Led → Prop := fun i m₁ news₁ => Inv (vs.take i) (vs.drop i) m₁ news₁
  refine ⟨_, _, _, vs.length, _, _, m₀, news, J, rfl, W, ?_, ?_, ?_, st0, F.push _, (fun p hp => ⟨Heap.get?_push_of_some _ (N p hp).1, (N p hp).2⟩), ?_, ?_, ?_⟩
  · intro hmm
    rcases List.mem_cons.mp hmm with e | hmm
    · exact absurd F.ns.lt (e ▸ Nat.lt_irrefl _)
    · exact hne (List.mem_singleton.mp hmm).symm
  · intro b hb
    rw [List.mem_singleton.mp hb]
    exact hnew
  · intro p hp hI
    exact absurd (Heap.lt_size (N p hp).1) ((List.mem_singleton.mp hI) ▸ Nat.lt_irrefl _)
  · show Inv (vs.take 0) (vs.drop 0) m₀ news
    rw [List.take_zero, List.drop_zero]; exact h0
  · rintro i v m₁ news₁ s₁ own ⟨hh', tk', rfl⟩ hin hPi hJ hoff hown hget hall hst F₁ N₁
    obtain ⟨it, hit⟩ := hSt _ _ hst
    have hmemI := hall s.heap.objs.size (List.mem_cons_self ..) hnew _ hit
    have hv : vs[i]? = some v := hP i v hPi
    have hlt : i < vs.length := hin
    have hvi : vs[i] = v := Option.some.inj ((List.getElem?_eq_getElem hlt).symm.trans hv)
    have hdrop : vs.drop i = v :: vs.drop (i + 1) := by rw [List.drop_eq_getElem_cons hlt, hvi]
    have htake : vs.take (i + 1) = vs.take i ++ [v] := by rw [List.take_succ_eq_append_getElem hlt, hvi]
    have hJ' : Inv (vs.take i) (v :: vs.drop (i + 1)) m₁ news₁ := by rw [← hdrop]; exact hJ
    have hmem₁ : lp ∈ news₁ := hlp _ _ _ _ hJ'
    have N₂ : News h₀ env.locals hh' ((s.heap.objs.size, it) :: news₁) := fun p hp => by
      rcases List.mem_cons.mp hp with rfl | hp
      · exact N₁ _ (List.mem_append_left _ hmemI)
      · exact N₁ _ (List.mem_append_right _ hp)
    have off₁ : ∀ p ∈ news₁, p.1 ≠ s.heap.objs.size := fun p hp e => hoff p hp (List.mem_singleton.mpr e)
    refine wpAny_mono (turn (vs.take i) v (vs.drop (i + 1)) m₁ news₁ (s.heap.objs.size, it) hh' tk' (by rw [← hdrop, List.take_append_drop]) hJ' off₁ F₁ N₂) (fun f s₂ p => ?_) fun _ _ e => e
    have fin : TurnEnd h₀ env.locals { s with heap := hh', toks := tk' } (s.heap.objs.size, it) (Inv (vs.take i ++ [v]) (vs.drop (i + 1))) s₂ →
        LoopStepU h₀ env.locals [s.heap.objs.size] own (J (i + 1)) { s with heap := hh', toks := tk' } .next s₂ := by
      rintro ⟨h', tk, m', news', e, F', N', ho, r⟩
      have hmm : lp ∈ news' := hlp _ _ _ _ r
      refine ⟨rfl, h', tk, m', news', e, F', fun p hp => ?_, fun p hp hI => ho p hp (List.mem_singleton.mp hI), ?_⟩
      · rcases List.mem_append.mp hp with hp | hp
        · have h2 : hh'.get? p.1 = some p.2 := hget p hp
          rcases List.mem_cons.mp (hown p hp) with h1 | h1
          · have h3 : p = (s.heap.objs.size, it) := by
              rw [h1, hit] at h2
              exact Prod.ext h1 (Option.some.inj h2).symm
            rw [h3]; exact N' _ (List.mem_cons_self ..)
          · have h1' : p.1 = lp.1 := (List.mem_singleton.mp h1).trans hax.symm
            have h3 : p = lp := by
              rw [h1', (N₂ _ (List.mem_cons_of_mem _ hmem₁)).1] at h2
              exact Prod.ext h1' (Option.some.inj h2).symm
            rw [h3]; exact N' _ (List.mem_cons_of_mem _ hmm)
        · exact N' _ (List.mem_cons_of_mem _ hp)
      · show Inv (vs.take (i + 1)) (vs.drop (i + 1)) m' news'
        rw [htake]; exact r
    cases f with
    | ret v => exact .ret p
    | brk => exact .brk p
    | next => exact .next (fin p)
    | cont => exact .cont (fin p)
  · rintro h' tk m' news' F' N' _ hJ
    have hJ' : Inv (vs.take vs.length) (vs.drop vs.length) m' news' := hJ
    rw [List.take_length, List.drop_length] at hJ'
    exact done m' news' h' tk hJ' F' N'
theorem each_list {ax : Addr} {lo : Obj} {vs : List Value} {n : Nat} {m₀ : Str → Option Value} {news : Led}
    (hh : A.handled = none) (F : Fr h₀ env.locals s.heap m₀) (N : News h₀ env.locals s.heap news) (hm : (ax, lo) ∈ news) (hc : lo.cls = .type "list") (hd : lo.data = .seq vs.toArray n)
    (Inv : List Value → List Value → (Str → Option Value) → Led → Prop) (h0 : Inv [] vs m₀ news) (hlp : ∀ p r m n, Inv p r m n → (ax, lo) ∈ n)
    (turn : ∀ pre v r m n q h tk, vs = pre ++ v :: r → Inv pre (v :: r) m n → (∀ p ∈ n, p.1 ≠ q.1) → Fr h₀ env.locals h (fun y => if y = x then some v else m y) → News h₀ env.locals h (q :: n) →
      wpAny (model prog w) A (execs body env) (TurnPost h₀ env.locals { s with heap := h, toks := tk } q (Inv (pre ++ [v]) r) Q) E { s with heap := h, toks := tk })
    (done : ∀ m n h tk, Inv vs [] m n → Fr h₀ env.locals h m → News h₀ env.locals h n → Q .next { s with heap := h, toks := tk }) :
    wpAny (model prog w) A (pyIter (.ref ax)) (fun it s₂ => LoopAtV prog w A h₀ env x body Q E it s₂) E s := by
  have hax := N _ hm
  have hl : s.heap.IsList ax vs.toArray := ⟨lo, hax.1, hc, n, hd⟩
  have hlt : ax < s.heap.objs.size := Heap.lt_size hax.1
  have hne : ax ≠ s.heap.objs.size := Nat.ne_of_lt hlt
  refine wpAny_pyIter_list hl ?_
  have W := Walks.list (prog := prog) (w := w) hh s.heap.objs.size ax hne vs.toArray
  have hlen : vs.toArray.size = vs.length := by simp
  rw [hlen] at W
  refine each_core W (fun i v h => by simpa using h) (fun i h hst => ?_) ⟨⟨_, Heap.get?_push_size _ rfl, rfl, rfl⟩, hl.at fun o e => Heap.get?_push_of_some _ e⟩ F N hm rfl Inv h0 hlp turn done
  obtain ⟨it, hit, _, _⟩ := hst.1
  exact ⟨it, hit⟩
theorem each_tuple {ax : Addr} {lo : Obj} {vs : List Value} {n : Nat} {m₀ : Str → Option Value} {news : Led}
    (hh : A.handled = none) (F : Fr h₀ env.locals s.heap m₀) (N : News h₀ env.locals s.heap news) (hm : (ax, lo) ∈ news) (hc : lo.cls = .type "tuple") (hd : lo.data = .seq vs.toArray n)
    (Inv : List Value → List Value → (Str → Option Value) → Led → Prop) (h0 : Inv [] vs m₀ news) (hlp : ∀ p r m n, Inv p r m n → (ax, lo) ∈ n)
    (turn : ∀ pre v r m n q h tk, vs = pre ++ v :: r → Inv pre (v :: r) m n → (∀ p ∈ n, p.1 ≠ q.1) → Fr h₀ env.locals h (fun y => if y = x then some v else m y) → News h₀ env.locals h (q :: n) →
      wpAny (model prog w) A (execs body env) (TurnPost h₀ env.locals { s with heap := h, toks := tk } q (Inv (pre ++ [v]) r) Q) E { s with heap := h, toks := tk })
    (done : ∀ m n h tk, Inv vs [] m n → Fr h₀ env.locals h m → News h₀ env.locals h n → Q .next { s with heap := h, toks := tk }) :
    wpAny (model prog w) A (pyIter (.ref ax)) (fun it s₂ => LoopAtV prog w A h₀ env x body Q E it s₂) E s := by
  have hax := N _ hm
  have hl : s.heap.IsTuple ax vs.toArray := ⟨lo, hax.1, hc, n, hd⟩
  have hlt : ax < s.heap.objs.size := Heap.lt_size hax.1
  have hne : ax ≠ s.heap.objs.size := Nat.ne_of_lt hlt
  refine wpAny_pyIter_tuple hl ?_
  have W := Walks.tuple (prog := prog) (w := w) hh s.heap.objs.size ax hne vs.toArray
  have hlen : vs.toArray.size = vs.length := by simp
  rw [hlen] at W
  refine each_core W (fun i v h => by simpa using h) (fun i h hst => ?_) ⟨⟨_, Heap.get?_push_size _ rfl, rfl, rfl⟩, hl.at fun o e => Heap.get?_push_of_some _ e⟩ F N hm rfl Inv h0 hlp turn done
  obtain ⟨it, hit, _, _⟩ := hst.1
  exact ⟨it, hit⟩
end
end
section
open PySem PySem.W PyProof.Rows PySem.Calls PySem.Spec
section
variable {prog : Program} {w : World} {A : Around} {E : Value → Shared → Prop} {s : Shared} {env : Env} {h₀ : Heap} {x : Str} {body : List Stmt} {Q : Flow → Shared → Prop}
def PureI (x : Str) (stored : List Str) (m₀ : Str → Option Value) (news : Led) (P : Prop) (m' : Str → Option Value) (n' : Led) : Prop := n' = news ∧ P ∧ ∀ y, y ≠ x → stored.contains y = false → m' y = m₀ y
theorem pure_map {stored : List Str} {m₀ m : Str → Option Value} {v : Value} (h : ∀ y, y ≠ x → stored.contains y = false → m y = m₀ y) :
    (fun y => if y = x then some v else m y) = fun y => if y = x then some v else if stored.contains y then m y else m₀ y := by
  funext y
  by_cases h1 : y = x
  · simp [h1]
  · simp only [h1, if_false]
    cases h2 : stored.contains y
    · simp [h y h1 h2]
    · simp
theorem pure_map2 {stored : List Str} {m₀ m : Str → Option Value} (h : ∀ y, y ≠ x → stored.contains y = false → m y = m₀ y) :
    m = fun y => if y = x then m y else if stored.contains y then m y else m₀ y := by
  funext y
  by_cases h1 : y = x
  · simp [h1]
  · simp only [h1, if_false]
    cases h2 : stored.contains y
    · simp [h y h1 h2]
    · simp
theorem map_split {α β : Type} {f : α → β} : ∀ {items : List α} {pre : List β} {v : β} {r : List β}, items.map f = pre ++ v :: r → ∃ pa a ra, items = pa ++ a :: ra ∧ pre = pa.map f ∧ v = f a ∧ r = ra.map f
  | [], pre, v, r, h => by cases pre <;> cases h
  | a :: l, [], v, r, h => by
    simp only [List.map_cons, List.nil_append, List.cons.injEq] at h
    exact ⟨[], a, l, rfl, rfl, h.1.symm, h.2.symm⟩
  | a :: l, b :: pre, v, r, h => by
    simp only [List.map_cons, List.cons_append, List.cons.injEq] at h
    obtain ⟨pa, c, ra, e1, e2, e3, e4⟩ := map_split h.2
    exact ⟨a :: pa, c, ra, by rw [e1]; rfl, by rw [e2, ← h.1]; rfl, e3, e4⟩
theorem pure_list {α : Type} {ax : Addr} {lo : Obj} {items : List α} {f : α → Value} {n : Nat} {m₀ : Str → Option Value} {news : Led}
    (stored : List Str) (P : List α → Prop)
    (hh : A.handled = none) (F : Fr h₀ env.locals s.heap m₀) (N : News h₀ env.locals s.heap news) (hm : (ax, lo) ∈ news) (hc : lo.cls = .type "list") (hd : lo.data = .seq (items.map f).toArray n)
    (h0 : P [])
    (turn : ∀ pre a r (u : Str → Option Value) q h tk, items = pre ++ a :: r → P pre → (∀ p ∈ news, p.1 ≠ q.1) → Fr h₀ env.locals h (fun y => if y = x then some (f a) else if stored.contains y then u y else m₀ y) → News h₀ env.locals h (q :: news) →
      wpAny (model prog w) A (execs body env) (TurnPost h₀ env.locals { s with heap := h, toks := tk } q (PureI x stored m₀ news (P (pre ++ [a]))) Q) E { s with heap := h, toks := tk })
    (done : ∀ (u : Str → Option Value) h tk, P items → Fr h₀ env.locals h (fun y => if y = x then u y else if stored.contains y then u y else m₀ y) → News h₀ env.locals h news → Q .next { s with heap := h, toks := tk }) :
    wpAny (model prog w) A (pyIter (.ref ax)) (fun it s₂ => LoopAtV prog w A h₀ env x body Q E it s₂) E s := by
  refine each_list hh F N hm hc hd (fun pre _ m' n' => ∃ pa ra, items = pa ++ ra ∧ pre = pa.map f ∧ PureI x stored m₀ news (P pa) m' n') ⟨[], items, rfl, rfl, rfl, h0, fun _ _ _ => rfl⟩ (fun p r m n h => by obtain ⟨_, _, _, _, h⟩ := h; rw [h.1]; exact hm) ?_ ?_
  · rintro pre v r m n q h tk e ⟨pa, ra, e1, e2, rfl, hP, hmm⟩ off F₁ N₁
    rw [pure_map hmm] at F₁
    obtain ⟨pb, a, rb, c1, c2, c3, c4⟩ := map_split e
    have hl : pa.length = pb.length := by have := congrArg List.length (e2.symm.trans c2); simpa using this
    have hab : pa = pb := by
      have := congrArg (List.take pa.length) (e1.symm.trans c1)
      rw [List.take_left, hl, List.take_left] at this
      exact this
    subst hab
    subst c3
    refine wpAny_mono (turn pa a rb m q h tk c1 hP off F₁ N₁) (fun f' s₂ p => ?_) fun _ _ e => e
    have fin : TurnEnd h₀ env.locals { s with heap := h, toks := tk } q (PureI x stored m₀ n (P (pa ++ [a]))) s₂ → TurnEnd h₀ env.locals { s with heap := h, toks := tk } q (fun m' n' => ∃ pa' ra, items = pa' ++ ra ∧ pre ++ [f a] = pa'.map f ∧ PureI x stored m₀ n (P pa') m' n') s₂ := by
      rintro ⟨h', tk', m', news', e', F', N', o', r'⟩
      exact ⟨h', tk', m', news', e', F', N', o', pa ++ [a], rb, by rw [c1, List.append_assoc]; rfl, by rw [e2, List.map_append]; rfl, r'⟩
    cases f' with
    | ret v => exact p
    | brk => exact p
    | next => exact fin p
    | cont => exact fin p
  · rintro m n h tk ⟨pa, ra, e1, e2, rfl, hP, hmm⟩ F₁ N₁
    rw [pure_map2 hmm] at F₁
    have hl : pa.length = items.length := by have := congrArg List.length e2; simpa using this.symm
    have : ra = [] := by
      have h2 := congrArg List.length e1
      rw [List.length_append, hl] at h2
      exact List.length_eq_zero_iff.mp (by omega)
    subst this
    rw [List.append_nil] at e1
    exact done m h tk (e1 ▸ hP) F₁ N₁
theorem pure_tuple {α : Type} {ax : Addr} {lo : Obj} {items : List α} {f : α → Value} {n : Nat} {m₀ : Str → Option Value} {news : Led}
    (stored : List Str) (P : List α → Prop)
    (hh : A.handled = none) (F : Fr h₀ env.locals s.heap m₀) (N : News h₀ env.locals s.heap news) (hm : (ax, lo) ∈ news) (hc : lo.cls = .type "tuple") (hd : lo.data = .seq (items.map f).toArray n)
    (h0 : P [])
    (turn : ∀ pre a r (u : Str → Option Value) q h tk, items = pre ++ a :: r → P pre → (∀ p ∈ news, p.1 ≠ q.1) → Fr h₀ env.locals h (fun y => if y = x then some (f a) else if stored.contains y then u y else m₀ y) → News h₀ env.locals h (q :: news) →
      wpAny (model prog w) A (execs body env) (TurnPost h₀ env.locals { s with heap := h, toks := tk } q (PureI x stored m₀ news (P (pre ++ [a]))) Q) E { s with heap := h, toks := tk })
    (done : ∀ (u : Str → Option Value) h tk, P items → Fr h₀ env.locals h (fun y => if y = x then u y else if stored.contains y then u y else m₀ y) → News h₀ env.locals h news → Q .next { s with heap := h, toks := tk }) :
    wpAny (model prog w) A (pyIter (.ref ax)) (fun it s₂ => LoopAtV prog w A h₀ env x body Q E it s₂) E s := by
  refine each_tuple hh F N hm hc hd (fun pre _ m' n' => ∃ pa ra, items = pa ++ ra ∧ pre = pa.map f ∧ PureI x stored m₀ news (P pa) m' n') ⟨[], items, rfl, rfl, rfl, h0, fun _ _ _ => rfl⟩ (fun p r m n h => by obtain ⟨_, _, _, _, h⟩ := h; rw [h.1]; exact hm) ?_ ?_
  · rintro pre v r m n q h tk e ⟨pa, ra, e1, e2, rfl, hP, hmm⟩ off F₁ N₁
    rw [pure_map hmm] at F₁
    obtain ⟨pb, a, rb, c1, c2, c3, c4⟩ := map_split e
    have hl : pa.length = pb.length := by have := congrArg List.length (e2.symm.trans c2); simpa using this
    have hab : pa = pb := by
      have := congrArg (List.take pa.length) (e1.symm.trans c1)
      rw [List.take_left, hl, List.take_left] at this
      exact this
    subst hab
    subst c3
    refine wpAny_mono (turn pa a rb m q h tk c1 hP off F₁ N₁) (fun f' s₂ p => ?_) fun _ _ e => e
    have fin : TurnEnd h₀ env.locals { s with heap := h, toks := tk } q (PureI x stored m₀ n (P (pa ++ [a]))) s₂ → TurnEnd h₀ env.locals { s with heap := h, toks := tk } q (fun m' n' => ∃ pa' ra, items = pa' ++ ra ∧ pre ++ [f a] = pa'.map f ∧ PureI x stored m₀ n (P pa') m' n') s₂ := by
      rintro ⟨h', tk', m', news', e', F', N', o', r'⟩
      exact ⟨h', tk', m', news', e', F', N', o', pa ++ [a], rb, by rw [c1, List.append_assoc]; rfl, by rw [e2, List.map_append]; rfl, r'⟩
    cases f' with
    | ret v => exact p
    | brk => exact p
    | next => exact fin p
    | cont => exact fin p
  · rintro m n h tk ⟨pa, ra, e1, e2, rfl, hP, hmm⟩ F₁ N₁
    rw [pure_map2 hmm] at F₁
    have hl : pa.length = items.length := by have := congrArg List.length e2; simpa using this.symm
    have : ra = [] := by
      have h2 := congrArg List.length e1
      rw [List.length_append, hl] at h2
      exact List.length_eq_zero_iff.mp (by omega)
    subst this
    rw [List.append_nil] at e1
    exact done m h tk (e1 ▸ hP) F₁ N₁
theorem TurnEnd.pure {L : Addr} {s₁ : Shared} {q : Addr × Obj} {stored : List Str} {m₀ m' : Str → Option Value} {news : Led} {P : Prop} {h' : Heap} {tk : Nat}
    (F : Fr h₀ L h' m') (N : News h₀ L h' (q :: news)) (off : ∀ p ∈ news, p.1 ≠ q.1) (hP : P) (hm : ∀ y, y ≠ x → stored.contains y = false → m' y = m₀ y) :
    TurnEnd h₀ L s₁ q (PureI x stored m₀ news P) { s₁ with heap := h', toks := tk } := ⟨h', tk, m', news, rfl, F, N, off, rfl, hP, hm⟩
end
theorem fr_shadow {h₀ h : Heap} {L : Addr} {m : Str → Option Value} {x : Str} {v u : Value} (F : Fr h₀ L h (fun y => if y = x then some v else if y = x then some u else m y)) : Fr h₀ L h (fun y => if y = x then some v else m y) := by
  have e : (fun y => if y = x then some v else if y = x then some u else m y) = fun y => if y = x then some v else m y := by
    funext y
    by_cases h : y = x <;> simp [h]
  rw [e] at F; exact F
/-! ## the world of classes -/
inductive Cls where
  | trav | iter | clo | walk | oth | p0 | p1 | p2
  deriving DecidableEq
def Cls.key : Cls → Str
  | .trav => "traversable" | .iter => "iterator" | .clo => "closure" | .walk => "walk" | .oth => "other" | .p0 => "p0" | .p1 => "p1" | .p2 => "p2"
def Cls.parent : Cls → Option Cls
  | .p1 => some .p0 | .p2 => some .p1 | _ => none
def Cls.ifs (wk : Nat) : Cls → List Cls
  | .iter => [.trav] | .walk => [.iter, .trav]
  | .p0 => if wk = 0 then [.iter, .trav] else []
  | .p1 => if wk ≤ 1 then [.iter, .trav] else []
  | .p2 => if wk ≤ 2 then [.iter, .trav] else []
  | _ => []
/-- a Klass object: its key, its parent, its interfaces -/
def KlassAt (news : Led) (a : Addr) (key : Str) (pv : Value) (ifs : List Value) : Prop :=
  ∃ d es n l ln t, (a, instObj 580 d) ∈ news ∧ (d, dictOf es n) ∈ news ∧ getL "key" es = some (some (.str key t)) ∧ getL "parent" es = some (some pv) ∧ getL "interfaces" es = some (some (.ref l)) ∧
    (l, ({ cls := .type "list", data := .seq ifs.toArray ln } : Obj)) ∈ news
theorem KlassAt.elim {news : Led} {a : Addr} {key : Str} {pv : Value} {ifs : List Value} {G : Prop} (h : KlassAt news a key pv ifs)
    (k : ∀ d es n l ln t, (a, instObj 580 d) ∈ news → (d, dictOf es n) ∈ news → getL "key" es = some (some (.str key t)) → getL "parent" es = some (some pv) → getL "interfaces" es = some (some (.ref l)) → (l, ({ cls := .type "list", data := .seq ifs.toArray ln } : Obj)) ∈ news → G) : G := by
  obtain ⟨d, es, n, l, ln, t, h1, h2, h3, h4, h5, h6⟩ := h
  exact k d es n l ln t h1 h2 h3 h4 h5 h6
theorem KlassAt.mono {news news' : Led} {a : Addr} {key : Str} {pv : Value} {ifs : List Value} (h : KlassAt news a key pv ifs) (hs : ∀ p ∈ news, p ∈ news') : KlassAt news' a key pv ifs := by
  obtain ⟨d, es, n, l, ln, t, h1, h2, h3, h4, h5, h6⟩ := h
  exact ⟨d, es, n, l, ln, t, hs _ h1, hs _ h2, h3, h4, h5, hs _ h6⟩
def optRef (ad : Cls → Addr) : Option Cls → Value
  | some c => .ref (ad c)
  | none => .none
structure Klasses (news : Led) (wk : Nat) (ad : Cls → Addr) : Prop where
  kl : ∀ c, KlassAt news (ad c) c.key (optRef ad c.parent) ((c.ifs wk).map fun c => .ref (ad c))
theorem Klasses.mono {news news' : Led} {wk : Nat} {ad : Cls → Addr} (h : Klasses news wk ad) (hs : ∀ p ∈ news, p ∈ news') : Klasses news' wk ad := ⟨fun c => (h.kl c).mono hs⟩
/-- the chain of parents' keys -/
def Cls.chain : Cls → List Cls
  | .p2 => [.p2, .p1, .p0] | .p1 => [.p1, .p0] | c => [c]
def isSub (wk : Nat) (c : Cls) (x : Str) : Bool := (c.chain.any fun d => d.key == x) || (c.ifs wk).any fun d => d.key == x
theorem handed_optRef (ad : Cls → Addr) (o : Option Cls) : handedIn (optRef ad o) = true := by cases o <;> rfl
section
variable {h₀ h : Heap} {L : Addr} {q1 q2 q3 q4 : Addr × Obj} {news : Led}
theorem news_drop1 (N : News h₀ L h (q1 :: news)) : News h₀ L h news := fun p hp => N p (.tail _ hp)
theorem news_drop2 (N : News h₀ L h (q1 :: q2 :: news)) : News h₀ L h news := fun p hp => N p (.tail _ (.tail _ hp))
theorem news_drop3 (N : News h₀ L h (q1 :: q2 :: q3 :: news)) : News h₀ L h news := fun p hp => N p (.tail _ (.tail _ (.tail _ hp)))
theorem news_drop4 (N : News h₀ L h (q1 :: q2 :: q3 :: q4 :: news)) : News h₀ L h news := fun p hp => N p (.tail _ (.tail _ (.tail _ (.tail _ hp))))
theorem news_keep1 {q : Addr × Obj} (N : News h₀ L h (q :: q1 :: news)) : News h₀ L h (q :: news) := fun p hp => N p (by rcases List.mem_cons.mp hp with rfl | hp; exact .head _; exact .tail _ (.tail _ hp))
theorem news_keep2 {q : Addr × Obj} (N : News h₀ L h (q :: q1 :: q2 :: news)) : News h₀ L h (q :: news) := news_keep1 (news_keep1 N)
end
def Stop (P : Prop) : Prop := P
theorem Stop.out {P : Prop} (h : Stop P) : P := h
end
local macro_rules | `(tactic| walk_at "no such key 0") => stopOut
section
open PySem PySem.W PyProof.Rows PySem.Calls PySem.Spec
local macro_rules | `(tactic| ktr_enter) => enterLine room1 bindS
/-! ## is_subclass -/
inductive IsSubRel (news : Led) : List Value → (Led → Value → Prop) → Prop where
  | mk (wk : Nat) (ad : Cls → Addr) (c : Cls) (x : Str) (t : Tok) : Klasses news wk ad → IsSubRel news [.ref (ad c), .str x t] (fun tl r => tl = [] ∧ r = .bool (isSub wk c x))
def anyUp (x : Str) : Option Cls → Bool
  | some c => c.chain.any fun d => d.key == x
  | none => false
def upSize : Option Cls → Nat
  | some c => c.chain.length
  | none => 0
theorem anyUp_step (x : Str) (c : Cls) : anyUp x (some c) = (c.key == x || anyUp x c.parent) := by cases c <;> simp [anyUp, Cls.chain, Cls.parent]
theorem upSize_step (c : Cls) : upSize c.parent < upSize (some c) := by cases c <;> decide
local macro_rules | `(tactic| walk_at "exec While Compare cons nil") => stopOut
local macro_rules | `(tactic| walk_at "pyIter ref") => stopOut
local macro_rules | `(tactic| walk_at "KwdPost0") => unfoldLine `KwdPost0
local macro_rules | `(tactic| walk_at "KwdEnd0") => stopOut
local macro_rules | `(tactic| walk_at "TurnPost") => unfoldLine `TurnPost
local macro_rules | `(tactic| walk_at "TurnEnd") => stopOut
local macro_rules | `(tactic| walk_at "exec For Name Attribute cons nil") => forLine
local macro_rules | `(tactic| walk_at "getAttr ref") => lineS `get_own [asmS, asmS, instS, isS, isS, isS, isS, assS, firstS [exactS (apN `handed_optRef 2), handedS], goS] (inner := [wholeS])
theorem is_subclass_ct (prog : Program) (w : World) : Ct prog w 358 1 IsSubRel := by
  (have hx : fillK PySem.Challenge.rw_pq0853_01 hd.heap_1 = fillK PySem.Challenge.rw_pq0853_01 hd.heap_1 := by k_fill; rfl)
  clear hx
  refine Ct.of fun news vs Post hR => ?_
  obtain ⟨wk, ad, c, x, t, K⟩ := hR
  unfold CtB
  intro p loose mean mg mb dp un gd cn cs a ccd cl outer A₀ base h₀ L m s Q E B F X N T hk hd hu hret
  refine wpAny_call ?_
  k_dflt ktr_enter
  k_steps
  unfold Stop
  obtain ⟨d0, es0, n0, l0, ln0, t0, i1, i2, i3, i4, i5, i6⟩ := K.kl c
  refine kwd_while0 (Rel := fun _ v d => v = optRef ad d) (y := "above") (d₀ := some c) (v₀ := .ref (ad c)) [] upSize (fun d₀ d => anyUp x d₀ = anyUp x d) (by assumption) (by assumption) (by rfl) (by rfl) rfl ?_ (by passes_own)
  intro v d u h tk hv hI F₁ N₁
  subst hv
  cases d with
  | none =>
    dsimp only [optRef] at F₁
    k_steps
    unfold Stop
    refine pure_list (items := c.ifs wk) [] (fun pre => pre.any (fun d => d.key == x) = false) (by rfl) (by assumption) (by assumption) i6 rfl rfl rfl ?_ ?_
    · intro pre b r u q h tk e hP off F₂ N₂
      obtain ⟨dd, es, n, l, ln, t', h1, h2, h3, h4, h5, h6⟩ := K.kl b
      replace h1 := List.mem_cons_of_mem q h1
      replace h2 := List.mem_cons_of_mem q h2
      k_steps
      · with_reducible rename _ = true => hb
        refine hret _ [] _ _ (by assumption) (fun p hp => by rename_i kN _ _; exact kN p (List.mem_cons_of_mem _ hp)) ⟨rfl, ?_⟩
        rw [isSub, e, List.any_append, List.any_cons, hb]; simp only [Bool.true_or, Bool.or_true]
      · unfold Stop
        with_reducible rename _ = false => hb
        refine TurnEnd.pure (by assumption) (by assumption) off ?_ ?_
        · rw [List.any_append, List.any_cons, hP, hb]; rfl
        · exact fun y h1 _ => by simp only [h1, if_false, List.contains_nil, Bool.false_eq_true]
    · intro u h tk hP F₂ N₂
      k_steps
      refine hret _ [] _ _ (by assumption) (by assumption) ⟨rfl, ?_⟩
      have hI' : (c.chain.any fun d => d.key == x) = false := hI
      rw [isSub, hP, hI']; rfl
  | some c' =>
    obtain ⟨dd, es, n, l, ln, t', h1, h2, h3, h4, h5, h6⟩ := K.kl c'
    have e : optRef ad (some c') = .ref (ad c') := rfl
    rw [e] at F₁
    rw [anyUp_step x c'] at hI
    k_steps
    · with_reducible rename _ = true => hb
      refine hret _ [] _ _ (by assumption) (by assumption) ⟨rfl, ?_⟩
      have hI' : (c.chain.any fun d => d.key == x) = _ := hI
      rw [isSub, hI', hb]; rfl
    · unfold Stop
      with_reducible rename _ = false => hb
      refine KwdEnd0.intro (by assumption) (by assumption) (fun _ h => h) (by rfl) rfl ?_ (upSize_step c') ?_
      · rw [hI, hb]; rfl
      · exact fun y h1 _ => by simp only [h1, if_false, List.contains_nil, Bool.false_eq_true]
end
local macro_rules | `(tactic| walk_at "no such key 1") => stopOut
local macro_rules | `(tactic| walk_at "no such key 2") => stopOut
local macro_rules | `(tactic| walk_at "no such key 3") => stopOut
local macro_rules | `(tactic| walk_at "no such key 4") => stopOut
local macro_rules | `(tactic| walk_at "no such key 5") => stopOut
local macro_rules | `(tactic| walk_at "no such key 6") => stopOut
local macro_rules | `(tactic| walk_at "no such key 7") => stopOut
local macro_rules | `(tactic| walk_at "no such key 8") => stopOut
local macro_rules | `(tactic| walk_at "no such key 9") => stopOut
section
open PySem PySem.W PyProof.Rows PySem.Calls PySem.Spec
section
variable {prog : Program} {w : World} {A : Around} {E : Value → Shared → Prop} {s : Shared} {env : Env} {h₀ : Heap} {x : Str} {body : List Stmt} {Q : Flow → Shared → Prop}
theorem strRest_of {I : Addr} {l : List Str} (Inv : List Str → List Str → (Str → Option Value) → Led → Prop)
    (turn : ∀ pre c r m n (u : Tok) q h tk, l = pre ++ c :: r → Inv pre (c :: r) m n → (∀ p ∈ n, p.1 ≠ q.1) → Fr h₀ env.locals h (fun y => if y = x then some (.str c u) else m y) → News h₀ env.locals h (q :: n) →
      wpAny (model prog w) A (execs body env) (TurnPost h₀ env.locals { s with heap := h, toks := tk } q (Inv (pre ++ [c]) r) Q) E { s with heap := h, toks := tk })
    (done : ∀ m n h tk, Inv l [] m n → Fr h₀ env.locals h m → News h₀ env.locals h n → Q .next { s with heap := h, toks := tk }) :
    ∀ r pre m n, l = pre ++ r → Inv pre r m n → (∀ p ∈ n, p.1 ≠ I) → StrRest prog w A E h₀ env x body Q s I r m n := by
  intro r
  induction r with
  | nil =>
    intro pre m n e hI _
    rw [List.append_nil] at e
    subst e
    exact StrRest.zero fun h tk F N => done m n h tk hI F N
  | cons c r ih =>
    intro pre m n e hI off
    refine StrRest.succ fun u it h tk F N => ?_
    refine wpAny_mono (turn pre c r m n u (I, it) h tk e hI off F N) (fun f s₂ p => ?_) fun _ _ e => e
    have fin : TurnEnd h₀ env.locals { s with heap := h, toks := tk } (I, it) (Inv (pre ++ [c]) r) s₂ → UnrEnd h₀ env.locals { s with heap := h, toks := tk } I it (StrRest prog w A E h₀ env x body Q s I r) s₂ := by
      rintro ⟨h', tk', m', n', e', F', N', o', hI'⟩
      exact ⟨h', tk', m', n', e', F', N', o', ih (pre ++ [c]) m' n' (by rw [List.append_assoc]; exact e) hI' o'⟩
    cases f with
    | ret v => exact p
    | brk => exact p
    | next => exact fin p
    | cont => exact fin p
theorem each_str {tx : Str} {t : Tok} {m₀ : Str → Option Value} {news : Led} (hh : A.handled = none) (F : Fr h₀ env.locals s.heap m₀) (N : News h₀ env.locals s.heap news)
    (Inv : List Str → List Str → (Str → Option Value) → Led → Prop) (h0 : Inv [] (tx.cps.toList.map fun c => (⟨#[c]⟩ : Str)) m₀ news)
    (turn : ∀ pre c r m n (u : Tok) q h tk, (tx.cps.toList.map fun c => (⟨#[c]⟩ : Str)) = pre ++ c :: r → Inv pre (c :: r) m n → (∀ p ∈ n, p.1 ≠ q.1) → Fr h₀ env.locals h (fun y => if y = x then some (.str c u) else m y) → News h₀ env.locals h (q :: n) →
      wpAny (model prog w) A (execs body env) (TurnPost h₀ env.locals { s with heap := h, toks := tk } q (Inv (pre ++ [c]) r) Q) E { s with heap := h, toks := tk })
    (done : ∀ m n h tk, Inv (tx.cps.toList.map fun c => (⟨#[c]⟩ : Str)) [] m n → Fr h₀ env.locals h m → News h₀ env.locals h n → Q .next { s with heap := h, toks := tk }) :
    wpAny (model prog w) A (pyIter (.str tx t)) (fun it s₂ => LoopAtV prog w A h₀ env x body Q E it s₂) E s :=
  iter_strUnr hh F N rfl fun I hI => strRest_of Inv turn done _ [] m₀ news rfl h0 fun p hp => Nat.ne_of_lt (hI p hp)
def MapI (x : Str) (stored : List Str) (m₀ : Str → Option Value) (J : Led → Prop) (m' : Str → Option Value) (n' : Led) : Prop := J n' ∧ ∀ y, y ≠ x → stored.contains y = false → m' y = m₀ y
theorem TurnEnd.map {L : Addr} {s₁ : Shared} {q : Addr × Obj} {stored : List Str} {m₀ m' : Str → Option Value} {n' : Led} {J : Led → Prop} {h' : Heap} {tk : Nat}
    (F : Fr h₀ L h' m') (N : News h₀ L h' (q :: n')) (off : ∀ p ∈ n', p.1 ≠ q.1) (hJ : J n') (hm : ∀ y, y ≠ x → stored.contains y = false → m' y = m₀ y) :
    TurnEnd h₀ L s₁ q (MapI x stored m₀ J) { s₁ with heap := h', toks := tk } := ⟨h', tk, m', n', rfl, F, N, off, hJ, hm⟩
theorem str_map {tx : Str} {t : Tok} {m₀ : Str → Option Value} {news : Led} (stored : List Str) (J : List Str → Led → Prop) (hh : A.handled = none) (F : Fr h₀ env.locals s.heap m₀) (N : News h₀ env.locals s.heap news)
    (h0 : J [] news)
    (turn : ∀ pre c r n (u : Str → Option Value) (t : Tok) q h tk, (tx.cps.toList.map fun c => (⟨#[c]⟩ : Str)) = pre ++ c :: r → J pre n → (∀ p ∈ n, p.1 ≠ q.1) → Fr h₀ env.locals h (fun y => if y = x then some (.str c t) else if stored.contains y then u y else m₀ y) → News h₀ env.locals h (q :: n) →
      wpAny (model prog w) A (execs body env) (TurnPost h₀ env.locals { s with heap := h, toks := tk } q (MapI x stored m₀ (J (pre ++ [c]))) Q) E { s with heap := h, toks := tk })
    (done : ∀ n (u : Str → Option Value) h tk, J (tx.cps.toList.map fun c => (⟨#[c]⟩ : Str)) n → Fr h₀ env.locals h (fun y => if y = x then u y else if stored.contains y then u y else m₀ y) → News h₀ env.locals h n → Q .next { s with heap := h, toks := tk }) :
    wpAny (model prog w) A (pyIter (.str tx t)) (fun it s₂ => LoopAtV prog w A h₀ env x body Q E it s₂) E s := by
  refine each_str hh F N (fun pre _ m' n' => MapI x stored m₀ (J pre) m' n') ⟨h0, fun _ _ _ => rfl⟩ ?_ ?_
  · rintro pre c r m n u q h tk e ⟨hJ, hmm⟩ off F₁ N₁
    rw [pure_map hmm] at F₁
    exact turn pre c r n m u q h tk e hJ off F₁ N₁
  · rintro m n h tk ⟨hJ, hmm⟩ F₁ N₁
    rw [pure_map2 hmm] at F₁
    exact done n m h tk hJ F₁ N₁
theorem list_map {α : Type} {ax : Addr} {lo : Obj} {items : List α} {f : α → Value} {n : Nat} {m₀ : Str → Option Value} {news : Led}
    (stored : List Str) (J : List α → Led → Prop)
    (hh : A.handled = none) (F : Fr h₀ env.locals s.heap m₀) (N : News h₀ env.locals s.heap news) (hm : (ax, lo) ∈ news) (hc : lo.cls = .type "list") (hd : lo.data = .seq (items.map f).toArray n)
    (h0 : J [] news) (hlp : ∀ p n, J p n → (ax, lo) ∈ n)
    (turn : ∀ pre a r n (u : Str → Option Value) q h tk, items = pre ++ a :: r → J pre n → (∀ p ∈ n, p.1 ≠ q.1) → Fr h₀ env.locals h (fun y => if y = x then some (f a) else if stored.contains y then u y else m₀ y) → News h₀ env.locals h (q :: n) →
      wpAny (model prog w) A (execs body env) (TurnPost h₀ env.locals { s with heap := h, toks := tk } q (MapI x stored m₀ (J (pre ++ [a]))) Q) E { s with heap := h, toks := tk })
    (done : ∀ n (u : Str → Option Value) h tk, J items n → Fr h₀ env.locals h (fun y => if y = x then u y else if stored.contains y then u y else m₀ y) → News h₀ env.locals h n → Q .next { s with heap := h, toks := tk }) :
    wpAny (model prog w) A (pyIter (.ref ax)) (fun it s₂ => LoopAtV prog w A h₀ env x body Q E it s₂) E s := by
  refine each_list hh F N hm hc hd (fun pre _ m' n' => ∃ pa ra, items = pa ++ ra ∧ pre = pa.map f ∧ MapI x stored m₀ (J pa) m' n') ⟨[], items, rfl, rfl, h0, fun _ _ _ => rfl⟩ (fun p r m n h => by obtain ⟨_, _, _, _, h⟩ := h; exact hlp _ _ h.1) ?_ ?_
  · rintro pre v r m n q h tk e ⟨pa, ra, e1, e2, hJ, hmm⟩ off F₁ N₁
    rw [pure_map hmm] at F₁
    obtain ⟨pb, a, rb, c1, c2, c3, c4⟩ := map_split e
    have hl : pa.length = pb.length := by have := congrArg List.length (e2.symm.trans c2); simpa using this
    have hab : pa = pb := by
      have := congrArg (List.take pa.length) (e1.symm.trans c1)
      rw [List.take_left, hl, List.take_left] at this
      exact this
    subst hab
    subst c3
    refine wpAny_mono (turn pa a rb n m q h tk c1 hJ off F₁ N₁) (fun f' s₂ p => ?_) fun _ _ e => e
    have fin : TurnEnd h₀ env.locals { s with heap := h, toks := tk } q (MapI x stored m₀ (J (pa ++ [a]))) s₂ → TurnEnd h₀ env.locals { s with heap := h, toks := tk } q (fun m' n' => ∃ pa' ra, items = pa' ++ ra ∧ pre ++ [f a] = pa'.map f ∧ MapI x stored m₀ (J pa') m' n') s₂ := by
      rintro ⟨h', tk', m', news', e', F', N', o', r'⟩
      exact ⟨h', tk', m', news', e', F', N', o', pa ++ [a], rb, by rw [c1, List.append_assoc]; rfl, by rw [e2, List.map_append]; rfl, r'⟩
    cases f' with
    | ret v => exact p
    | brk => exact p
    | next => exact fin p
    | cont => exact fin p
  · rintro m n h tk ⟨pa, ra, e1, e2, hJ, hmm⟩ F₁ N₁
    rw [pure_map2 hmm] at F₁
    have hl : pa.length = items.length := by have := congrArg List.length e2; simpa using this.symm
    have : ra = [] := by
      have h2 := congrArg List.length e1
      rw [List.length_append, hl] at h2
      exact List.length_eq_zero_iff.mp (by omega)
    subst this
    rw [List.append_nil] at e1
    exact done n m h tk (e1 ▸ hJ) F₁ N₁
theorem tuple_map {α : Type} {ax : Addr} {lo : Obj} {items : List α} {f : α → Value} {n : Nat} {m₀ : Str → Option Value} {news : Led}
    (stored : List Str) (J : List α → Led → Prop)
    (hh : A.handled = none) (F : Fr h₀ env.locals s.heap m₀) (N : News h₀ env.locals s.heap news) (hm : (ax, lo) ∈ news) (hc : lo.cls = .type "tuple") (hd : lo.data = .seq (items.map f).toArray n)
    (h0 : J [] news) (hlp : ∀ p n, J p n → (ax, lo) ∈ n)
    (turn : ∀ pre a r n (u : Str → Option Value) q h tk, items = pre ++ a :: r → J pre n → (∀ p ∈ n, p.1 ≠ q.1) → Fr h₀ env.locals h (fun y => if y = x then some (f a) else if stored.contains y then u y else m₀ y) → News h₀ env.locals h (q :: n) →
      wpAny (model prog w) A (execs body env) (TurnPost h₀ env.locals { s with heap := h, toks := tk } q (MapI x stored m₀ (J (pre ++ [a]))) Q) E { s with heap := h, toks := tk })
    (done : ∀ n (u : Str → Option Value) h tk, J items n → Fr h₀ env.locals h (fun y => if y = x then u y else if stored.contains y then u y else m₀ y) → News h₀ env.locals h n → Q .next { s with heap := h, toks := tk }) :
    wpAny (model prog w) A (pyIter (.ref ax)) (fun it s₂ => LoopAtV prog w A h₀ env x body Q E it s₂) E s := by
  refine each_tuple hh F N hm hc hd (fun pre _ m' n' => ∃ pa ra, items = pa ++ ra ∧ pre = pa.map f ∧ MapI x stored m₀ (J pa) m' n') ⟨[], items, rfl, rfl, h0, fun _ _ _ => rfl⟩ (fun p r m n h => by obtain ⟨_, _, _, _, h⟩ := h; exact hlp _ _ h.1) ?_ ?_
  · rintro pre v r m n q h tk e ⟨pa, ra, e1, e2, hJ, hmm⟩ off F₁ N₁
    rw [pure_map hmm] at F₁
    obtain ⟨pb, a, rb, c1, c2, c3, c4⟩ := map_split e
    have hl : pa.length = pb.length := by have := congrArg List.length (e2.symm.trans c2); simpa using this
    have hab : pa = pb := by
      have := congrArg (List.take pa.length) (e1.symm.trans c1)
      rw [List.take_left, hl, List.take_left] at this
      exact this
    subst hab
    subst c3
    refine wpAny_mono (turn pa a rb n m q h tk c1 hJ off F₁ N₁) (fun f' s₂ p => ?_) fun _ _ e => e
    have fin : TurnEnd h₀ env.locals { s with heap := h, toks := tk } q (MapI x stored m₀ (J (pa ++ [a]))) s₂ → TurnEnd h₀ env.locals { s with heap := h, toks := tk } q (fun m' n' => ∃ pa' ra, items = pa' ++ ra ∧ pre ++ [f a] = pa'.map f ∧ MapI x stored m₀ (J pa') m' n') s₂ := by
      rintro ⟨h', tk', m', news', e', F', N', o', r'⟩
      exact ⟨h', tk', m', news', e', F', N', o', pa ++ [a], rb, by rw [c1, List.append_assoc]; rfl, by rw [e2, List.map_append]; rfl, r'⟩
    cases f' with
    | ret v => exact p
    | brk => exact p
    | next => exact fin p
    | cont => exact fin p
  · rintro m n h tk ⟨pa, ra, e1, e2, hJ, hmm⟩ F₁ N₁
    rw [pure_map2 hmm] at F₁
    have hl : pa.length = items.length := by have := congrArg List.length e2; simpa using this.symm
    have : ra = [] := by
      have h2 := congrArg List.length e1
      rw [List.length_append, hl] at h2
      exact List.length_eq_zero_iff.mp (by omega)
    subst this
    rw [List.append_nil] at e1
    exact done n m h tk (e1 ▸ hJ) F₁ N₁
end
end
local macro_rules | `(tactic| walk_at "no such key 10") => stopOut
section
open PySem PySem.W PyProof.Rows PySem.Calls PySem.Spec
local macro_rules | `(tactic| ktr_enter) => enterLine room1 bindS
def signLow (k : Nat) : Nat := if 65 ≤ k ∧ k ≤ 90 then k + 32 else k
def lowerS (x : Str) : Str := PySem.Txt.join (PySem.Str.ofString "") (x.cps.toList.map fun k => (⟨#[signLow k]⟩ : Str))
inductive LowerRel (news : Led) : List Value → (Led → Value → Prop) → Prop where
  | mk (x : Str) (t : Tok) : x.cps.size ≤ 1000 → (∀ k ∈ x.cps.toList, k < 1000) → LowerRel news [.str x t] (fun tl r => tl = [] ∧ ∃ t, r = .str (lowerS x) t)
theorem one_lt (a b : Nat) : ((⟨#[a]⟩ : Str).cps.toList < (⟨#[b]⟩ : Str).cps.toList) ↔ a < b := by
  show [a] < [b] ↔ a < b
  simp [List.cons_lt_cons_iff]
theorem of_A : PySem.Str.ofString "A" = ⟨#[65]⟩ := by decide
theorem of_Z : PySem.Str.ofString "Z" = ⟨#[90]⟩ := by decide
theorem carried_hi {k : Nat} {t : Tok} (h : ¬ (⟨#[k]⟩ : Str).cps.toList < (PySem.Str.ofString "A").cps.toList) (h' : ¬ (PySem.Str.ofString "Z").cps.toList < (⟨#[k]⟩ : Str).cps.toList) : Carried (.str ⟨#[((k : Int) + 32).toNat]⟩ t) (.str ⟨#[signLow ((⟨#[k]⟩ : Str).cps.getD 0 0)]⟩) := by
  rw [of_A, one_lt] at h
  rw [of_Z, one_lt] at h'
  have : ((k : Int) + 32).toNat = signLow ((⟨#[k]⟩ : Str).cps.getD 0 0) := by
    show _ = signLow k
    rw [signLow, if_pos (by omega)]; omega
  rw [this]; exact .str _ _
theorem carried_lo1 {k : Nat} {t : Tok} (h : (⟨#[k]⟩ : Str).cps.toList < (PySem.Str.ofString "A").cps.toList) : Carried (.str ⟨#[k]⟩ t) (.str ⟨#[signLow ((⟨#[k]⟩ : Str).cps.getD 0 0)]⟩) := by
  rw [of_A, one_lt] at h
  have : k = signLow ((⟨#[k]⟩ : Str).cps.getD 0 0) := by show _ = signLow k; rw [signLow, if_neg (by omega)]
  rw [← this]; exact .str _ _
theorem carried_lo2 {k : Nat} {t : Tok} (h : (PySem.Str.ofString "Z").cps.toList < (⟨#[k]⟩ : Str).cps.toList) : Carried (.str ⟨#[k]⟩ t) (.str ⟨#[signLow ((⟨#[k]⟩ : Str).cps.getD 0 0)]⟩) := by
  rw [of_Z, one_lt] at h
  have : k = signLow ((⟨#[k]⟩ : Str).cps.getD 0 0) := by show _ = signLow k; rw [signLow, if_neg (by omega)]
  rw [← this]; exact .str _ _
theorem CarriedAll.snoc' {vs : List Value} {ds : List PyData} {v : Value} {d : PyData} (h : CarriedAll vs ds) (hv : Carried v d) : CarriedAll (vs ++ [v]) (ds ++ [d]) := by
  induction h with
  | nil => exact .cons hv .nil
  | cons h _ ih => exact .cons h ih
local macro_rules | `(tactic| walk_at "pyIter str") => stopOut
local macro_rules | `(tactic| walk_at "TurnPost") => unfoldLine `TurnPost
local macro_rules | `(tactic| walk_at "TurnEnd") => stopOut
local macro_rules | `(tactic| walk_at "exec For Name Name cons nil") => forLine
local macro_rules | `(tactic| walk_at "newList") => do lineS `newList_K [asmS, asmS, goS] (inner := [wholeS]) (rest := [← introN ["l'", "h'", "F'", "N'", "l1"], sweepS])
local macro_rules | `(tactic| walk_at "call builtin:str.join") => stopOut
local macro_rules | `(tactic| walk_at "call builtin:list.append") => stopOut
local macro_rules | `(tactic| walk_at "call builtin:ord") => return parS [hereS, gdS (apS `call [apS `Value.builtin [strS "ord"], tup1S (apS `Value.str [apN `PySem.Str.mk 1, hoS])]), refineS (apS `P.ord_of_char [goS])]
local macro_rules | `(tactic| walk_at "call builtin:chr") => `(tactic| (k_here; refine chr_of_range (by omega) (by omega) ?_))
theorem lower_ct (prog : Program) (w : World) : Ct prog w 351 1 LowerRel := by
  (have hx : fillK PySem.Challenge.rw_pq0853_01 hd.heap_1 = fillK PySem.Challenge.rw_pq0853_01 hd.heap_1 := by k_fill; rfl)
  clear hx
  refine Ct.of fun news vs Post hR => ?_
  obtain ⟨x, t, hx, hx2⟩ := hR
  unfold CtB
  intro p loose mean mg mb dp un gd cn cs a ccd cl outer A₀ base h₀ L m s Q E B F X N T hk hd hu hret
  refine wpAny_call ?_
  k_dflt ktr_enter
  k_steps
  unfold Stop
  with_reducible rename Fr _ _ _ _ => F1
  with_reducible rename News _ _ _ _ => N1
  rename ∀ p ∈ news, p.1 < _ => hlt
  refine str_map [] (fun pre n => ∃ vs ln, n = (_, W.listOf vs ln) :: news ∧ CarriedAll vs.toList (pre.map fun c => .str ⟨#[signLow (c.cps.getD 0 0)]⟩)) (by rfl) F1 N1 ⟨#[], 0, rfl, .nil⟩ ?_ ?_
  · rintro pre c r n u t' q h tk e ⟨vs, ln, rfl, hc⟩ off F2 N2
    obtain ⟨pk, k, rk, e1, e2, e3, _⟩ := map_split e
    subst e3
    have hkk : k < 1000 := hx2 k (by rw [e1]; exact List.mem_append_right _ (List.mem_cons_self ..))
    have hq := off _ (List.mem_cons_self ..)
    have hsz : vs.size ≤ 1000 := by
      have h1 := hc.length_eq
      have h2 : x.cps.size = pk.length + (rk.length + 1) := by rw [← Array.length_toList, e1]; simp
      have h3 : pre.length = pk.length := by rw [e2, List.length_map]
      rw [List.length_map, Array.length_toList] at h1
      omega
    k_steps
    all_goals (
      unfold Stop
      refine append_K (by k_asm) (by k_asm) (.tail (Ne.symm hq) (.head fun p hp => Nat.ne_of_lt (hlt p hp))) ?_ (by rw [sizeLine_eq]; omega)
      intro h3 F3 N3
      k_steps
      unfold Stop
      refine TurnEnd.map (by assumption) (by assumption) ?_ ⟨_, _, rfl, ?_⟩ (fun y h1 _ => by simp only [h1, if_false, List.contains_nil, Bool.false_eq_true])
      · intro p hp
        rcases List.mem_cons.mp hp with rfl | hp
        · exact hq
        · exact off p (List.mem_cons_of_mem _ hp)
      · rw [Array.toList_push, List.map_append]
        exact CarriedAll.snoc' hc (by first | exact carried_lo1 (by assumption) | exact carried_lo2 (by assumption) | exact carried_hi (by assumption) (by assumption)))
  · rintro n u h tk ⟨vs, ln, rfl, hc⟩ F2 N2
    rw [List.map_map] at hc
    k_steps
    unfold Stop
    refine KT.join_1 (l := x.cps.toList) (ys := vs.toList) (g := fun k => (⟨#[signLow k]⟩ : Str)) (News.isList (by k_asm) (List.mem_cons_self ..)) hc (fun _ _ => rfl) (by rw [Array.length_toList]; omega) ?_
    intro t' k _
    k_steps
    refine hret _ [] _ _ (by assumption) (fun p hp => by rename_i kN _ _; exact kN p (List.mem_cons_of_mem _ hp)) ⟨rfl, _, rfl⟩
end
open PySem.Calls PySem.Spec
local macro_rules | `(tactic| ktr_enter) => enterLine room1 bindS
local macro_rules | `(tactic| walk_at "exec While Compare cons nil") => stopOut
local macro_rules | `(tactic| walk_at "pyIter ref") => stopOut
local macro_rules | `(tactic| walk_at "pyIter str") => stopOut
local macro_rules | `(tactic| walk_at "KwdPost0") => unfoldLine `KwdPost0
local macro_rules | `(tactic| walk_at "KwdEnd0") => stopOut
local macro_rules | `(tactic| walk_at "TurnPost") => unfoldLine `TurnPost
local macro_rules | `(tactic| walk_at "TurnEnd") => stopOut
local macro_rules | `(tactic| walk_at "exec For Name Name cons nil") => forLine
local macro_rules | `(tactic| walk_at "exec For Name Attribute cons nil") => forLine
local macro_rules | `(tactic| walk_at "newList") => do lineS `newList_K [asmS, asmS, goS] (inner := [wholeS]) (rest := [← introN ["l'", "h'", "F'", "N'", "l1"], sweepS])
local macro_rules | `(tactic| walk_at "call builtin:str.join") => stopOut
local macro_rules | `(tactic| walk_at "call builtin:list.append") => stopOut
local macro_rules | `(tactic| walk_at "call builtin:ord") => return parS [hereS, gdS (apS `call [apS `Value.builtin [strS "ord"], tup1S (apS `Value.str [apN `PySem.Str.mk 1, hoS])]), refineS (apS `P.ord_of_char [goS])]
local macro_rules | `(tactic| walk_at "call builtin:chr") => `(tactic| (k_here; refine chr_of_range (by omega) (by omega) ?_))
local macro_rules | `(tactic| walk_at "getAttr ref") => lineS `get_own [asmS, asmS, instS, isS, isS, isS, isS, assS, firstS [exactS (apN `handed_optRef 2), handedS], goS] (inner := [wholeS])
local macro_rules | `(tactic| walk_at "eval Name") => nameLine "globalImplicit" `nameX_K [asmS, asmS, asmS, isS, goS, rflS, rflS] [0, 1, 2, 5, 6, 3]
local macro_rules | `(tactic| walk_at "eval Name") => nameLine "globalImplicit" `nameX_B [asmS, asmS, asmS, isS, bootS, decS, goS, rflS, rflS] [0, 1, 2, 7, 8, 3, 4, 5] [kwS `PyProof.Rows.tacticName_is_builtin "name_is_builtin"]
local macro_rules | `(tactic| walk_at "eval Name") => nameLine "local" `nameX_L [asmS, rflS, goS, rflS, rflS] [0, 3, 4, 1]
local macro_rules | `(tactic| walk_at "eval Call") => dfLine `Call_ [gdS (apS `eval [hoS, apN `envOf 5])]
local macro_rules | `(tactic| walk_at "spliced") => `(tactic| k_dflt (first | refine args_cons ?_ | refine args_nil ⟨Fr.keep (by assumption) _ _ (by assumption), ?_⟩ | (refine args_nil ?_; try simp only [List.cons_append, List.nil_append])))
local macro_rules | `(tactic| walk_at "isTrue") => dfLine `isTrue_plain [gdS (apS `isTrue [hoS, apN `envOf 5, hoS])]
local macro_rules | `(tactic| walk_at "isTrue Compare") => dfLine `wpAny_isTrue_Compare1 [gdS (apS `isTrue [hoS, apN `envOf 5, hoS])]
local macro_rules | `(tactic| walk_at "exec If") => dfLine `wpAny_If
local macro_rules | `(tactic| walk_at "exec Assign") => dfLine `wpAny_Assign_Name
local macro_rules | `(tactic| walk_at "execs cons") => `(tactic| ((with_reducible refine wpAny_execs_cons ?_); try dsimp only))
local macro_rules | `(tactic| walk_at "ite") => `(tactic| first | with_reducible refine ite_tt ?_ | with_reducible refine ite_ff ?_)
local macro_rules | `(tactic| k_steps) => `(tactic| repeat' (first | (k_unfold; (try dsimp only)) | walk1 | (dsimp only; walk1) | fail "no step"))
local macro_rules | `(tactic| tb_start) => `(tactic| first | assumption | exact news_drop1 (by assumption) | exact news_drop2 (by assumption) | exact news_drop3 (by assumption) | exact news_drop4 (by assumption))
section
/-! ## the values that the law hands about -/
inductive VD where
  | none | bool (b : Bool) | int | str (x : Str) | arr | obj (c : Cls)
def VD.kind : VD → Str
  | .none => "null" | .bool _ => "bool" | .int => "int" | .str _ => "string" | .arr => "array" | .obj _ => "object"
def VD.isNone : VD → Bool | .none => true | _ => false
def VD.isBool : VD → Bool | .bool _ => true | _ => false
def VD.isInt : VD → Bool | .int => true | .bool _ => true | _ => false
def VD.isStr : VD → Bool | .str _ => true | _ => false
def VD.isArr : VD → Bool | .arr => true | _ => false
def VD.isObj : VD → Bool | .obj _ => true | _ => false
inductive VIs (news : Led) (ad : Cls → Addr) : Value → VD → Prop where
  | none : VIs news ad .none .none
  | bool (b : Bool) : VIs news ad (.bool b) (.bool b)
  | int (i : Int) (t : Tok) : VIs news ad (.int i t) .int
  | str (x : Str) (t : Tok) : VIs news ad (.str x t) (.str x)
  | arr (a d : Addr) (es : List DictEntry) (n : Nat) : (a, instObj 253 d) ∈ news → (d, dictOf es n) ∈ news → VIs news ad (.ref a) .arr
  | obj (a d : Addr) (es : List DictEntry) (n : Nat) (c : Cls) : (a, instObj 168 d) ∈ news → (d, dictOf es n) ∈ news → getL "cls" es = some (some (.ref (ad c))) → VIs news ad (.ref a) (.obj c)
theorem VIs.mono {news news' : Led} {ad : Cls → Addr} {v : Value} {d : VD} (h : VIs news ad v d) (hs : ∀ p ∈ news, p ∈ news') : VIs news' ad v d := by
  cases h with
  | none => exact .none
  | bool b => exact .bool b
  | int i t => exact .int i t
  | str x t => exact .str x t
  | arr a d es n h1 h2 => exact .arr a d es n (hs _ h1) (hs _ h2)
  | obj a d es n c h1 h2 h3 => exact .obj a d es n c (hs _ h1) (hs _ h2) h3
section
variable {prog : Program} {w : World} {A : Around} {E : Value → Shared → Prop} {s : Shared} {h₀ : Heap} {L : Addr} {m : Str → Option Value} {news : Led} {ad : Cls → Addr} {v : Value} {d : VD} {Q : Value → Shared → Prop}
theorem is_none_val (hv : VIs news ad v d) (h : Q (.bool d.isNone) s) : wpAny (model prog w) A (compareOp .Is v .none) Q E s := by
  cases hv <;> walk1 <;> exact h
theorem isi_Obj (F : Fr h₀ L s.heap m) (X : (hd.heap_1 w.params).In h₀) (N : News h₀ L s.heap news) (hv : VIs news ad v d) (h : ∀ tk, Q (.bool d.isObj) { s with toks := tk }) :
    wpAny (model prog w) A (call (.builtin "isinstance") [v, .ref 168]) Q E s := by
  (have hx : fillK PySem.Challenge.rw_pq0853_01 hd.heap_1 = fillK PySem.Challenge.rw_pq0853_01 hd.heap_1 := by k_fill; rfl)
  clear hx
  cases hv <;> walk1 <;> exact h _
theorem isi_Arr (F : Fr h₀ L s.heap m) (X : (hd.heap_1 w.params).In h₀) (N : News h₀ L s.heap news) (hv : VIs news ad v d) (h : ∀ tk, Q (.bool d.isArr) { s with toks := tk }) :
    wpAny (model prog w) A (call (.builtin "isinstance") [v, .ref 253]) Q E s := by
  cases hv <;> walk1 <;> exact h _
theorem isi_bool (F : Fr h₀ L s.heap m) (X : (hd.heap_1 w.params).In h₀) (N : News h₀ L s.heap news) (hv : VIs news ad v d) (h : ∀ tk, Q (.bool d.isBool) { s with toks := tk }) :
    wpAny (model prog w) A (call (.builtin "isinstance") [v, .type "bool"]) Q E s := by
  cases hv <;> walk1 <;> exact h _
theorem isi_int (F : Fr h₀ L s.heap m) (X : (hd.heap_1 w.params).In h₀) (N : News h₀ L s.heap news) (hv : VIs news ad v d) (h : ∀ tk, Q (.bool d.isInt) { s with toks := tk }) :
    wpAny (model prog w) A (call (.builtin "isinstance") [v, .type "int"]) Q E s := by
  cases hv <;> walk1 <;> exact h _
theorem isi_str (F : Fr h₀ L s.heap m) (X : (hd.heap_1 w.params).In h₀) (N : News h₀ L s.heap news) (hv : VIs news ad v d) (h : ∀ tk, Q (.bool d.isStr) { s with toks := tk }) :
    wpAny (model prog w) A (call (.builtin "isinstance") [v, .type "str"]) Q E s := by
  cases hv <;> walk1 <;> exact h _
end
local macro_rules | `(tactic| walk_at "call builtin:isinstance") => isiLine (apS `Value.ref [natS "168"]) `isi_Obj
local macro_rules | `(tactic| walk_at "call builtin:isinstance") => isiLine (apS `Value.ref [natS "253"]) `isi_Arr
local macro_rules | `(tactic| walk_at "call builtin:isinstance") => isiLine (apS `Value.type [strS "bool"]) `isi_bool
local macro_rules | `(tactic| walk_at "call builtin:isinstance") => isiLine (apS `Value.type [strS "int"]) `isi_int
local macro_rules | `(tactic| walk_at "call builtin:isinstance") => isiLine (apS `Value.type [strS "str"]) `isi_str
local macro_rules | `(tactic| walk_at "exec Raise some none") => stopOut
local macro_rules | `(tactic| walk_at "compareOp Is") => `(tactic| (k_here; refine is_none_val (by assumption) ?_))
theorem kind_none {d : VD} (h : d.isNone = true) : d.kind = "null" := by cases d <;> first | rfl | contradiction
theorem kind_bool {d : VD} (h : d.isBool = true) : d.kind = "bool" := by cases d <;> first | rfl | contradiction
theorem kind_int {d : VD} (h : d.isBool = false) (h : d.isInt = true) : d.kind = "int" := by cases d <;> first | rfl | contradiction
theorem kind_str {d : VD} (h : d.isStr = true) : d.kind = "string" := by cases d <;> first | rfl | contradiction
theorem kind_arr {d : VD} (h : d.isArr = true) : d.kind = "array" := by cases d <;> first | rfl | contradiction
theorem kind_obj {d : VD} (h : d.isObj = true) : d.kind = "object" := by cases d <;> first | rfl | contradiction
inductive KindRel (news : Led) : List Value → (Led → Value → Prop) → Prop where
  | mk (v : Value) (ad : Cls → Addr) (d : VD) : VIs news ad v d → KindRel news [v] (fun tl r => tl = [] ∧ ∃ t, r = .str d.kind t)
theorem kind_ct (prog : Program) (w : World) : Ct prog w 344 1 KindRel := by
  (have hx : fillK PySem.Challenge.rw_pq0853_01 hd.heap_1 = fillK PySem.Challenge.rw_pq0853_01 hd.heap_1 := by k_fill; rfl)
  clear hx
  refine Ct.of fun news vs Post hR => ?_
  obtain ⟨v, ad, d, hv⟩ := hR
  unfold CtB
  intro p loose mean mg mb dp un gd cn cs a ccd cl outer A₀ base h₀ L m s Q E B F X N T hk hd hu hret
  refine wpAny_call ?_
  k_dflt ktr_enter
  k_steps
  all_goals first
    | exact hret _ [] _ _ (by assumption) (by assumption) ⟨rfl, _, by rw [kind_none (by assumption)]⟩
    | exact hret _ [] _ _ (by assumption) (by assumption) ⟨rfl, _, by rw [kind_bool (by assumption)]⟩
    | exact hret _ [] _ _ (by assumption) (by assumption) ⟨rfl, _, by rw [kind_int (by assumption) (by assumption)]⟩
    | exact hret _ [] _ _ (by assumption) (by assumption) ⟨rfl, _, by rw [kind_str (by assumption)]⟩
    | exact hret _ [] _ _ (by assumption) (by assumption) ⟨rfl, _, by rw [kind_arr (by assumption)]⟩
    | exact hret _ [] _ _ (by assumption) (by assumption) ⟨rfl, _, by rw [kind_obj (by assumption)]⟩
    | (cases d <;> contradiction)
end
local macro_rules | `(tactic| walk_at "call builtin:isinstance") => isiLine (apS `Value.ref [natS "168"]) `isi_Obj
local macro_rules | `(tactic| walk_at "call builtin:isinstance") => isiLine (apS `Value.ref [natS "253"]) `isi_Arr
local macro_rules | `(tactic| walk_at "call builtin:isinstance") => isiLine (apS `Value.type [strS "bool"]) `isi_bool
local macro_rules | `(tactic| walk_at "call builtin:isinstance") => isiLine (apS `Value.type [strS "int"]) `isi_int
local macro_rules | `(tactic| walk_at "call builtin:isinstance") => isiLine (apS `Value.type [strS "str"]) `isi_str
local macro_rules | `(tactic| walk_at "exec Raise some none") => stopOut
local macro_rules | `(tactic| walk_at "compareOp Is") => `(tactic| (k_here; refine is_none_val (by assumption) ?_))
local macro_rules | `(tactic| walk_at "call ref") => ctLine "358" .V `is_subclass_ct tbS (relBy `IsSubRel.mk 5 1)
local macro_rules | `(tactic| walk_at "call ref") => ctLine "351" .T `lower_ct asmS (relBy `LowerRel.mk 2 2) true
local macro_rules | `(tactic| walk_at "call ref") => ctLine "344" .T `kind_ct tbS (relBy `KindRel.mk 3 1)
section
def instOf (wk : Nat) (d : VD) (x : Str) : Bool := match d with | .obj c => isSub wk c x | _ => false
def isOf (wk : Nat) (d : VD) (k : Option Cls) : Bool := match k with | none => false | some k => instOf wk d k.key
inductive InstOfRel (news : Led) : List Value → (Led → Value → Prop) → Prop where
  | mk (wk : Nat) (ad : Cls → Addr) (v : Value) (d : VD) (x : Str) (t : Tok) : Klasses news wk ad → VIs news ad v d → InstOfRel news [v, .str x t] (fun tl r => tl = [] ∧ r = .bool (instOf wk d x))
theorem instance_of_ct (prog : Program) (w : World) : Ct prog w 365 2 InstOfRel := by
  (have hx : fillK PySem.Challenge.rw_pq0853_01 hd.heap_1 = fillK PySem.Challenge.rw_pq0853_01 hd.heap_1 := by k_fill; rfl)
  clear hx
  refine Ct.of fun news vs Post hR => ?_
  obtain ⟨wk, ad, v, d, x, t, K, hv⟩ := hR
  unfold CtB
  intro p loose mean mg mb dp un gd cn cs a ccd cl outer A₀ base h₀ L m s Q E B F X N T hk hd hu hret
  refine wpAny_call ?_
  k_dflt ktr_enter
  k_steps
  · with_reducible rename _ = true => hb
    cases hv with
    | obj a' d' es n c h1 h2 h3 =>
      k_steps
      exact hret _ [] _ _ (by assumption) (by assumption) ⟨rfl, rfl⟩
    | _ => contradiction
  · refine hret _ [] _ _ (by assumption) (by assumption) ⟨rfl, ?_⟩
    cases hv <;> first | rfl | contradiction
end
section
section
variable {prog : Program} {w : World} {A : Around} {E : Value → Shared → Prop} {s : Shared} {h₀ h : Heap} {L d : Addr} {m : Str → Option Value} {news : Led} {o : Obj} {kvs : List (Str × Value)} {x : Str} {t : Tok} {v : Value}
theorem dict_of (N : News h₀ L h news) (hm : (d, o) ∈ news) (hd : o.IsDictOf (strKind prog w) kvs) : h.DictOf (strKind prog w) d kvs := Heap.dictOf_iff.mpr ⟨o, N.get hm, hd⟩
theorem in_dict {Q : Value → Shared → Prop} (N : News h₀ L s.heap news) (hm : (d, o) ∈ news) (hd : o.IsDictOf (strKind prog w) kvs) (lo : (d == sysModules) = false)
    (q : Q (.bool (valueAt kvs x).isSome) { s with toks := s.toks + 1 }) : wpAny (model prog w) A (compareOp .In (.str x t) (.ref d)) Q E s :=
  wpAny_in_of (strKind_is _ _ _ _) lo (dict_of N hm hd).mapOf q
theorem notin_dict {Q : Value → Shared → Prop} (N : News h₀ L s.heap news) (hm : (d, o) ∈ news) (hd : o.IsDictOf (strKind prog w) kvs) (lo : (d == sysModules) = false)
    (q : Q (.bool (!(valueAt kvs x).isSome)) { s with toks := s.toks + 1 }) : wpAny (model prog w) A (compareOp .NotIn (.str x t) (.ref d)) Q E s :=
  wpAny_notIn_of (strKind_is _ _ _ _) lo (dict_of N hm hd).mapOf q
theorem item_dict {value slice : Expr} {Q : Value → Shared → Prop} (N : News h₀ L s.heap news) (hm : (d, o) ∈ news) (hd : o.IsDictOf (strKind prog w) kvs) (hv : valueAt kvs x = some v)
    (q : Q v { s with toks := s.toks + 1 }) (hs : subscripted slice false (.ref d) (.str x t) = operate [.ref d, .str x t] (getItem (.ref d) (.str x t)) := by with_unfolding_all rfl) :
    wpAny (model prog w) A (subscriptTail value slice (.ref d) (.str x t)) Q E s :=
  tail_any (dict_of N hm hd).typeIs slot_dict_getitem.lookup (wpAny_getItem_of (strKind_is _ _ _ _) (dict_of N hm hd).mapOf hv q) hs
theorem get_dict {Q : Value → Shared → Prop} (N : News h₀ L s.heap news) (hm : (d, o) ∈ news) (hd : o.IsDictOf (strKind prog w) kvs) (lo : (d == sysModules) = false)
    (q : Q ((valueAt kvs x).getD .none) { s with toks := s.toks + 1 }) : wpAny (model prog w) A (call (.builtin "dict.get") [.ref d, .str x t]) Q E s :=
  call_meetsIn PySem.F.slot_dict_get (dict_of N hm hd).typeIs PySem.F.entry_dict_get (PySem.F.args_dict_get_2 _ _) (meets_dict_get (strKind prog w) d (strKind_is _ _ _ _) lo) ⟨_, (dict_of N hm hd).mapOf, q⟩
theorem getm_dict {pl : Sem Bool} {Q : Value × List Value → Shared → Prop} (N : News h₀ L s.heap news) (hm : (d, o) ∈ news) (hd : o.IsDictOf (strKind prog w) kvs) (q : Q (.builtin "dict.get", [.ref d]) s) :
    wpAny (model prog w) A (getMethod (.ref d) "get" pl) Q E s :=
  getMethod_builtin (dict_of N hm hd).typeIs PySem.F.plainAttrs_dict PySem.F.slot_dict_get PySem.F.type_dict_get (dict_of N hm hd).mapOf.noDict q
theorem set_item_dict {Q : Unit → Shared → Prop} (F : Fr h₀ L s.heap m) (N : News h₀ L s.heap news) (hm : (d, o) ∈ news) (hd : o.IsDictOf (strKind prog w) kvs)
    (q : ∀ h' o', Fr h₀ L h' m → News h₀ L h' (news.map fun p => if p.1 = d then (d, o') else p) → o'.IsDictOf (strKind prog w) (stored kvs x v) → Q () { s with heap := h', toks := s.toks + 1 })
    (hsz : kvs.length ≤ sizeLine) : wpAny (model prog w) A (setItem (.ref d) (.str x t) v) Q E s := by
  refine wpAny_setItem_pairs (hsz := hsz) (strKind_is _ _ _ _) (dict_of N hm hd) fun h' hmm hs => ?_
  obtain ⟨o', ho', hd'⟩ := Heap.dictOf_iff.mp hmm
  have z := N _ hm
  exact q h' o' (F.change hs z.2.1 z.2.2) (N.replace hs ho') hd'
end
/-! ## the host and its classes -/
def allCls : List Cls := [.trav, .iter, .clo, .walk, .oth, .p0, .p1, .p2]
def clsKvs (ad : Cls → Addr) : List (Str × Value) := allCls.map fun c => (c.key, .ref (ad c))
def toolKvs : List (Str × Value) := [("class", .ref 596)]
/-- the host: its tools and its classes -/
def HostAt (prog : Program) (w : World) (news : Led) (ad : Cls → Addr) (H : Addr) : Prop :=
  ∃ d es n T oT C oC, (H, instObj 559 d) ∈ news ∧ (d, dictOf es n) ∈ news ∧ getL "tools" es = some (some (.ref T)) ∧ getL "classes" es = some (some (.ref C)) ∧ getL "tool" es = some none ∧
    (T, oT) ∈ news ∧ oT.IsDictOf (strKind prog w) toolKvs ∧ (T == sysModules) = false ∧ (C, oC) ∈ news ∧ oC.IsDictOf (strKind prog w) (clsKvs ad) ∧ (C == sysModules) = false
theorem HostAt.mono {prog : Program} {w : World} {news news' : Led} {ad : Cls → Addr} {H : Addr} (h : HostAt prog w news ad H) (hs : ∀ p ∈ news, p ∈ news') : HostAt prog w news' ad H := by
  obtain ⟨d, es, n, T, oT, C, oC, h1, h2, h3, h4, h5, h6, h7, h8, h9, h10, h11⟩ := h
  exact ⟨d, es, n, T, oT, C, oC, hs _ h1, hs _ h2, h3, h4, h5, hs _ h6, h7, h8, hs _ h9, h10, h11⟩
structure Wld (prog : Program) (w : World) (news : Led) (wk : Nat) (ad : Cls → Addr) (H : Addr) : Prop where
  kls : Klasses news wk ad
  host : HostAt prog w news ad H
theorem Wld.mono {prog : Program} {w : World} {news news' : Led} {wk : Nat} {ad : Cls → Addr} {H : Addr} (h : Wld prog w news wk ad H) (hs : ∀ p ∈ news, p ∈ news') : Wld prog w news' wk ad H := ⟨h.kls.mono hs, h.host.mono hs⟩
end
local macro_rules | `(tactic| walk_at "call ref") => ctLine "365" .V `instance_of_ct tbS (relBy `InstOfRel.mk 6 2)
local macro_rules | `(tactic| walk_at "compareOp In str ref") => dictLine `in_dict
local macro_rules | `(tactic| walk_at "compareOp NotIn str ref") => dictLine `notin_dict
local macro_rules | `(tactic| walk_at "call builtin:dict.get") => dictLine `get_dict
local macro_rules | `(tactic| walk_at "getMethod ref") => lineS `getm_dict [asmS, memS, assS, goS] (guards := [gdS (apS `getMethod [apN `Value.ref 1, apS `PySem.Str.ofString [strS "get"], hoS])])
local macro_rules | `(tactic| walk_at "subscriptTail") => lineS `item_dict [asmS, memS, assS, rflS, goS, uniS rflS] (guards := [gSub (apN `Value.ref 1) (apN `Value.str 2)])
section
inductive IsOfRel (news : Led) : List Value → (Led → Value → Prop) → Prop where
  | mk (wk : Nat) (ad : Cls → Addr) (v : Value) (d : VD) (k : Option Cls) : Klasses news wk ad → VIs news ad v d → IsOfRel news [v, optRef ad k] (fun tl r => tl = [] ∧ r = .bool (isOf wk d k))
theorem is_obj_of {d : VD} (h : (d.kind == ("object" : Str)) = true) : ∃ c, d = .obj c := by cases d <;> first | exact ⟨_, rfl⟩ | (simp only [VD.kind] at h; exact absurd h (by decide))
theorem not_obj_of {d : VD} {wk : Nat} {k : Option Cls} (h : (d.kind == ("object" : Str)) = false) : isOf wk d k = false := by cases d <;> cases k <;> first | rfl | (simp only [VD.kind] at h; exact absurd h (by decide))
theorem is_of_ct (prog : Program) (w : World) : Ct prog w 386 3 IsOfRel := by
  (have hx : fillK PySem.Challenge.rw_pq0853_01 hd.heap_1 = fillK PySem.Challenge.rw_pq0853_01 hd.heap_1 := by k_fill; rfl)
  clear hx
  refine Ct.of fun news vs Post hR => ?_
  obtain ⟨wk, ad, v, d, k, K, hv⟩ := hR
  unfold CtB
  intro p loose mean mg mb dp un gd cn cs a ccd cl outer A₀ base h₀ L m s Q E B F X N T hk hd hu hret
  cases k with
  | none =>
    have e : optRef ad none = .none := rfl
    rw [e]
    refine wpAny_call ?_
    k_dflt ktr_enter
    k_steps
    exact hret _ [] _ _ (by assumption) (by assumption) ⟨rfl, rfl⟩
  | some c =>
    obtain ⟨dd, es, n, l, ln, t', h1, h2, h3, h4, h5, h6⟩ := K.kl c
    have e : optRef ad (some c) = .ref (ad c) := rfl
    rw [e]
    refine wpAny_call ?_
    k_dflt ktr_enter
    k_steps
    · with_reducible rename _ = true => hb
      obtain ⟨c', e⟩ := is_obj_of hb
      subst e
      cases hv with
      | obj a' d' es n c h1 h2 h3 =>
        k_steps
        exact hret _ [] _ _ (by assumption) (by assumption) ⟨rfl, rfl⟩
    · with_reducible rename _ = false => hb
      exact hret _ [] _ _ (by assumption) (by assumption) ⟨rfl, by rw [not_obj_of hb]; exact congrArg Value.bool hb⟩
def callableS (d : VD) : Bool := match d with | .str _ => true | .obj c => c.key == ("closure" : Str) | _ => false
theorem callable_str {d : VD} (h : (d.kind == ("string" : Str)) = true) : callableS d = true := by cases d <;> first | rfl | (simp only [VD.kind] at h; exact absurd h (by decide))
theorem callable_no {d : VD} (h : (d.kind == ("string" : Str)) = false) (h : (d.kind == ("object" : Str)) = false) : callableS d = false := by cases d <;> first | rfl | (simp only [VD.kind] at *; contradiction)
inductive CallableRel (prog : Program) (w : World) (news : Led) : List Value → (Led → Value → Prop) → Prop where
  | mk (wk : Nat) (ad : Cls → Addr) (H : Addr) (v : Value) (d : VD) : Wld prog w news wk ad H → VIs news ad v d → CallableRel prog w news [.ref H, v] (fun tl r => tl = [] ∧ r = .bool (callableS d))
theorem is_callable_ct (prog : Program) (w : World) : Ct prog w 379 2 (CallableRel prog w) := by
  refine Ct.of fun news vs Post hR => ?_
  obtain ⟨wk, ad, H, v, d, W, hv⟩ := hR
  obtain ⟨d0, es0, n0, T0, oT, C, oC, i1, i2, i3, i4, i5, i6, i7, i8, i9, i10, i11⟩ := W.host
  unfold CtB
  intro p loose mean mg mb dp un gd cn cs a ccd cl outer A₀ base h₀ L m s Q E B F X N T hk hd hu hret
  refine wpAny_call ?_
  k_dflt ktr_enter
  k_steps
  · with_reducible rename (_ == _) = true => hb
    exact hret _ [] _ _ (by assumption) (by assumption) ⟨rfl, by rw [callable_str hb]; exact congrArg Value.bool hb⟩
  · with_reducible rename (_ == ("object" : Str)) = true => hb
    obtain ⟨c', e⟩ := is_obj_of hb
    subst e
    cases hv with
    | obj a' d' es n c h1 h2 h3 =>
      obtain ⟨dd, es', n', l, ln, t', k1, k2, k3, k4, k5, k6⟩ := W.kls.kl c'
      k_steps
      exact hret _ [] _ _ (by assumption) (by assumption) ⟨rfl, rfl⟩
  · with_reducible rename (_ == ("string" : Str)) = false => hb
    with_reducible rename (_ == ("object" : Str)) = false => hb'
    exact hret _ [] _ _ (by assumption) (by assumption) ⟨rfl, by rw [callable_no hb hb']; exact congrArg Value.bool hb'⟩
end
local macro_rules | `(tactic| walk_at "call ref") => ctLine "386" .V `is_of_ct tbS (firstS [relBy `IsOfRel.mk 4 2 [apN `some 1], relBy `IsOfRel.mk 5 2])
local macro_rules | `(tactic| walk_at "call ref") => ctLine "379" .V `is_callable_ct tbS (relBy `CallableRel.mk 5 2)
section
def byClass (wk : Nat) (name : Str) (d : VD) (here static : Cls) : Bool :=
  if name == ("self" : Str) then isOf wk d (some here) else if name == ("parent" : Str) then isOf wk d here.parent else if name == ("static" : Str) then isOf wk d (some static) else instOf wk d (lowerS name)
/-- a name that the law may hand about -/
structure NameOk (x : Str) : Prop where
  sz : x.cps.size ≤ 1000
  lo : ∀ k ∈ x.cps.toList, k < 1000
inductive ByClassRel (news : Led) : List Value → (Led → Value → Prop) → Prop where
  | mk (wk : Nat) (ad : Cls → Addr) (name : Str) (t : Tok) (v : Value) (d : VD) (here static : Cls) : NameOk name → Klasses news wk ad → VIs news ad v d →
      ByClassRel news [.str name t, v, .ref (ad here), .ref (ad static)] (fun tl r => tl = [] ∧ r = .bool (byClass wk name d here static))
theorem by_class_ct (prog : Program) (w : World) : Ct prog w 393 4 ByClassRel := by
  (have hx : fillK PySem.Challenge.rw_pq0853_01 hd.heap_1 = fillK PySem.Challenge.rw_pq0853_01 hd.heap_1 := by k_fill; rfl)
  clear hx
  refine Ct.of fun news vs Post hR => ?_
  obtain ⟨wk, ad, name, t, v, d, here, static, ok, K, hv⟩ := hR
  have hsz := ok.sz
  unfold CtB
  intro p loose mean mg mb dp un gd cn cs a ccd cl outer A₀ base h₀ L m s Q E B F X N T hk hd hu hret
  have hlo := ok.lo
  obtain ⟨dd, es, n, l, ln, t', h1, h2, h3, h4, h5, h6⟩ := K.kl here
  refine wpAny_call ?_
  k_dflt ktr_enter
  k_steps
  all_goals (refine hret _ [] _ _ (by assumption) (by assumption) ⟨rfl, ?_⟩; unfold byClass; simp only [*, if_true, if_false, Bool.false_eq_true])
end
local macro_rules | `(tactic| walk_at "call ref") => ctLine "393" .V `by_class_ct tbS (relBy `ByClassRel.mk 8 3)
section
def boolIs (d : VD) (c : Bool) : Bool := match d with | .bool b => b == c | _ => false
def accName (wk : Nat) (name : Str) (d : VD) (here static : Cls) : Bool :=
  if ([("int" : Str), "string", "bool", "array", "object"].any fun x => x == name) then d.kind == name
  else if name == ("mixed" : Str) then true
  else if ([("null" : Str), "void"].any fun x => x == name) then d.isNone
  else if ([("true" : Str), "false"].any fun x => x == name) then boolIs d (name == ("true" : Str))
  else if name == ("never" : Str) then false
  else if name == ("callable" : Str) then callableS d
  else if name == ("iterable" : Str) then (d.kind == ("array" : Str) || instOf wk d "traversable")
  else byClass wk name d here static
theorem is_bool_of {d : VD} (h : (d.kind == ("bool" : Str)) = true) : ∃ b, d = .bool b := by cases d <;> first | exact ⟨_, rfl⟩ | (simp only [VD.kind] at h; exact absurd h (by decide))
theorem not_bool_of {d : VD} {c : Bool} (h : (d.kind == ("bool" : Str)) = false) : boolIs d c = false := by cases d <;> first | rfl | (simp only [VD.kind] at h; exact absurd h (by decide))
inductive AccNameRel (prog : Program) (w : World) (news : Led) : List Value → (Led → Value → Prop) → Prop where
  | mk (wk : Nat) (ad : Cls → Addr) (H : Addr) (name : Str) (t : Tok) (v : Value) (d : VD) (here static : Cls) : NameOk name → Wld prog w news wk ad H → VIs news ad v d →
      AccNameRel prog w news [.ref H, .str name t, v, .ref (ad here), .ref (ad static)] (fun tl r => tl = [] ∧ r = .bool (accName wk name d here static))
theorem accepts_name_ct (prog : Program) (w : World) : Ct prog w 400 5 (AccNameRel prog w) := by
  (have hx : fillK PySem.Challenge.rw_pq0853_01 hd.heap_1 = fillK PySem.Challenge.rw_pq0853_01 hd.heap_1 := by k_fill; rfl)
  clear hx
  refine Ct.of fun news vs Post hR => ?_
  obtain ⟨wk, ad, H, name, t, v, d, here, static, ok, W, hv⟩ := hR
  have K := W.kls
  unfold CtB
  intro p loose mean mg mb dp un gd cn cs a ccd cl outer A₀ base h₀ L m s Q E B F X N T hk hd hu hret
  refine wpAny_call ?_
  k_dflt ktr_enter
  k_steps
  all_goals try (with_reducible rename (VD.kind _ == ("bool" : Str)) = true => hb; obtain ⟨b, e⟩ := is_bool_of hb; subst e; cases hv; k_steps)
  all_goals (refine hret _ [] _ _ (by assumption) (by tb_start) ⟨rfl, ?_⟩; unfold accName)
  all_goals first
    | (simp only [*, if_true, if_false, Bool.false_eq_true]; done)
    | (simp only [*, if_true, if_false, Bool.false_eq_true, boolIs]; done)
    | (with_reducible rename (VD.kind _ == ("bool" : Str)) = false => hb; simp only [*, if_true, if_false, Bool.false_eq_true, not_bool_of hb]; done)
    | (simp only [*, if_true, if_false, Bool.false_eq_true, Bool.true_or, Bool.false_or]; done)
end
section
theorem strs_inj {vs : List Value} {xs ys : List Str} (h : StrsAre vs xs) : StrsAre vs ys → xs = ys := by
  induction h generalizing ys with
  | nil => intro h; cases h; rfl
  | cons y t _ ih => intro h; cases h with | cons _ _ h' => rw [ih h']
theorem strs_snoc {vs : List Value} {xs : List Str} {a : Str} {t : Tok} (h : StrsAre vs xs) : StrsAre (vs ++ [.str a t]) (xs ++ [a]) := by
  induction h with
  | nil => exact .cons _ _ .nil
  | cons y t _ ih => exact .cons _ _ ih
theorem strs_app {vs ws : List Value} {xs ys : List Str} (h : StrsAre vs xs) (k : StrsAre ws ys) : StrsAre (vs ++ ws) (xs ++ ys) := by
  induction h with
  | nil => exact k
  | cons y t _ ih => exact .cons _ _ ih
theorem strs_split {vs : List Value} {names : List Str} (h : StrsAre vs names) : ∀ {pre : List Value} {v : Value} {r : List Value}, vs = pre ++ v :: r → ∃ qn a rn t, names = qn ++ a :: rn ∧ v = .str a t ∧ StrsAre pre qn := by
  induction h with
  | nil => intro pre v r e; cases pre <;> cases e
  | cons y t h ih =>
    intro pre v r e
    cases pre with
    | nil => cases e; exact ⟨[], y, _, t, rfl, rfl, .nil⟩
    | cons b pre =>
      cases e
      obtain ⟨qn, a, rn, t', e1, e2, e3⟩ := ih rfl
      exact ⟨y :: qn, a, rn, t', by rw [e1]; rfl, e2, .cons _ _ e3⟩
theorem strs_len {vs : List Value} {xs : List Str} (h : StrsAre vs xs) : vs.length = xs.length := by
  induction h with
  | nil => rfl
  | cons y t _ ih => simp [ih]
/-- a tuple of texts; a list of texts -/
def TupStrs (news : Led) (a : Addr) (names : List Str) : Prop := ∃ vs n, (a, ({ cls := .type "tuple", data := .seq vs.toArray n } : Obj)) ∈ news ∧ StrsAre vs names
def LstStrs (news : Led) (a : Addr) (names : List Str) : Prop := ∃ vs n, (a, ({ cls := .type "list", data := .seq vs.toArray n } : Obj)) ∈ news ∧ StrsAre vs names
theorem TupStrs.mono {news news' : Led} {a : Addr} {names : List Str} (h : TupStrs news a names) (hs : ∀ p ∈ news, p ∈ news') : TupStrs news' a names := let ⟨vs, n, h1, h2⟩ := h; ⟨vs, n, hs _ h1, h2⟩
theorem LstStrs.mono {news news' : Led} {a : Addr} {names : List Str} (h : LstStrs news a names) (hs : ∀ p ∈ news, p ∈ news') : LstStrs news' a names := let ⟨vs, n, h1, h2⟩ := h; ⟨vs, n, hs _ h1, h2⟩
section
variable {prog : Program} {w : World} {A : Around} {E : Value → Shared → Prop} {s : Shared} {env : Env} {h₀ : Heap} {x : Str} {body : List Stmt} {Q : Flow → Shared → Prop}
theorem strs_tuple {ax : Addr} {vs : List Value} {names : List Str} {n : Nat} {m₀ : Str → Option Value} {news : Led}
    (stored : List Str) (P : List Str → Prop)
    (hh : A.handled = none) (F : Fr h₀ env.locals s.heap m₀) (N : News h₀ env.locals s.heap news) (hm : (ax, ({ cls := .type "tuple", data := .seq vs.toArray n } : Obj)) ∈ news) (hs : StrsAre vs names)
    (h0 : P [])
    (turn : ∀ pre a t r (u : Str → Option Value) q h tk, names = pre ++ a :: r → P pre → (∀ p ∈ news, p.1 ≠ q.1) → Fr h₀ env.locals h (fun y => if y = x then some (.str a t) else if stored.contains y then u y else m₀ y) → News h₀ env.locals h (q :: news) →
      wpAny (model prog w) A (execs body env) (TurnPost h₀ env.locals { s with heap := h, toks := tk } q (PureI x stored m₀ news (P (pre ++ [a]))) Q) E { s with heap := h, toks := tk })
    (done : ∀ (u : Str → Option Value) h tk, P names → Fr h₀ env.locals h (fun y => if y = x then u y else if stored.contains y then u y else m₀ y) → News h₀ env.locals h news → Q .next { s with heap := h, toks := tk }) :
    wpAny (model prog w) A (pyIter (.ref ax)) (fun it s₂ => LoopAtV prog w A h₀ env x body Q E it s₂) E s := by
  refine pure_tuple (items := vs) (f := fun v => v) stored (fun pre => ∃ pn, StrsAre pre pn ∧ P pn) hh F N hm rfl (by simp only [List.map_id_fun']; rfl) ⟨[], .nil, h0⟩ ?_ ?_
  · rintro pre v r u q h tk e ⟨pn, hp, hP⟩ off F₁ N₁
    obtain ⟨qn, a, rn, t, e1, e2, e3⟩ := strs_split hs e
    obtain rfl := strs_inj hp e3
    subst e2
    refine wpAny_mono (turn pn a t rn u q h tk e1 hP off F₁ N₁) (fun f' s₂ p => ?_) fun _ _ e => e
    have fin : TurnEnd h₀ env.locals { s with heap := h, toks := tk } q (PureI x stored m₀ news (P (pn ++ [a]))) s₂ → TurnEnd h₀ env.locals { s with heap := h, toks := tk } q (PureI x stored m₀ news (∃ qn, StrsAre (pre ++ [.str a t]) qn ∧ P qn)) s₂ := by
      rintro ⟨h', tk', m', news', e', F', N', o', r1, r2, r3⟩
      exact ⟨h', tk', m', news', e', F', N', o', r1, ⟨pn ++ [a], strs_snoc hp, r2⟩, r3⟩
    cases f' with
    | ret v => exact p
    | brk => exact p
    | next => exact fin p
    | cont => exact fin p
  · rintro u h tk ⟨pn, hp, hP⟩ F₁ N₁
    obtain rfl := strs_inj hp hs
    exact done u h tk hP F₁ N₁
theorem strs_list {ax : Addr} {vs : List Value} {names : List Str} {n : Nat} {m₀ : Str → Option Value} {news : Led}
    (stored : List Str) (P : List Str → Prop)
    (hh : A.handled = none) (F : Fr h₀ env.locals s.heap m₀) (N : News h₀ env.locals s.heap news) (hm : (ax, ({ cls := .type "list", data := .seq vs.toArray n } : Obj)) ∈ news) (hs : StrsAre vs names)
    (h0 : P [])
    (turn : ∀ pre a t r (u : Str → Option Value) q h tk, names = pre ++ a :: r → P pre → (∀ p ∈ news, p.1 ≠ q.1) → Fr h₀ env.locals h (fun y => if y = x then some (.str a t) else if stored.contains y then u y else m₀ y) → News h₀ env.locals h (q :: news) →
      wpAny (model prog w) A (execs body env) (TurnPost h₀ env.locals { s with heap := h, toks := tk } q (PureI x stored m₀ news (P (pre ++ [a]))) Q) E { s with heap := h, toks := tk })
    (done : ∀ (u : Str → Option Value) h tk, P names → Fr h₀ env.locals h (fun y => if y = x then u y else if stored.contains y then u y else m₀ y) → News h₀ env.locals h news → Q .next { s with heap := h, toks := tk }) :
    wpAny (model prog w) A (pyIter (.ref ax)) (fun it s₂ => LoopAtV prog w A h₀ env x body Q E it s₂) E s := by
  refine pure_list (items := vs) (f := fun v => v) stored (fun pre => ∃ pn, StrsAre pre pn ∧ P pn) hh F N hm rfl (by simp only [List.map_id_fun']; rfl) ⟨[], .nil, h0⟩ ?_ ?_
  · rintro pre v r u q h tk e ⟨pn, hp, hP⟩ off F₁ N₁
    obtain ⟨qn, a, rn, t, e1, e2, e3⟩ := strs_split hs e
    obtain rfl := strs_inj hp e3
    subst e2
    refine wpAny_mono (turn pn a t rn u q h tk e1 hP off F₁ N₁) (fun f' s₂ p => ?_) fun _ _ e => e
    have fin : TurnEnd h₀ env.locals { s with heap := h, toks := tk } q (PureI x stored m₀ news (P (pn ++ [a]))) s₂ → TurnEnd h₀ env.locals { s with heap := h, toks := tk } q (PureI x stored m₀ news (∃ qn, StrsAre (pre ++ [.str a t]) qn ∧ P qn)) s₂ := by
      rintro ⟨h', tk', m', news', e', F', N', o', r1, r2, r3⟩
      exact ⟨h', tk', m', news', e', F', N', o', r1, ⟨pn ++ [a], strs_snoc hp, r2⟩, r3⟩
    cases f' with
    | ret v => exact p
    | brk => exact p
    | next => exact fin p
    | cont => exact fin p
  · rintro u h tk ⟨pn, hp, hP⟩ F₁ N₁
    obtain rfl := strs_inj hp hs
    exact done u h tk hP F₁ N₁
variable {L : Addr} {news : Led} {a : Addr} {names : List Str} {t : Tok} {R : Value → Shared → Prop}
theorem tup_of {h : Heap} {vs : List Value} {n : Nat} (_N : News h₀ L h ((a, ({ cls := .type "tuple", data := .seq vs.toArray n } : Obj)) :: news)) (S : StrsAre vs names) : TupStrs ((a, ({ cls := .type "tuple", data := .seq vs.toArray n } : Obj)) :: news) a names := ⟨vs, n, List.mem_cons_self .., S⟩
theorem lst_of {h : Heap} {vs : List Value} {n : Nat} (_N : News h₀ L h ((a, ({ cls := .type "list", data := .seq vs.toArray n } : Obj)) :: news)) (S : StrsAre vs names) : LstStrs ((a, ({ cls := .type "list", data := .seq vs.toArray n } : Obj)) :: news) a names := ⟨vs, n, List.mem_cons_self .., S⟩
theorem in_tup (N : News h₀ L s.heap news) (T : TupStrs news a names) (q : R (.bool (names.any (· == x))) s) : wpAny (model prog w) A (compareOp .In (.str x t) (.ref a)) R E s := by
  obtain ⟨vs, n, h1, h2⟩ := T
  exact in_tuple_strs (News.isTup N h1) h2 q
theorem notin_tup (N : News h₀ L s.heap news) (T : TupStrs news a names) (q : R (.bool (!(names.any (· == x)))) s) : wpAny (model prog w) A (compareOp .NotIn (.str x t) (.ref a)) R E s := by
  obtain ⟨vs, n, h1, h2⟩ := T
  exact notin_tuple_strs (News.isTup N h1) h2 q
theorem in_lst (N : News h₀ L s.heap news) (T : LstStrs news a names) (q : R (.bool (names.any (· == x))) s) : wpAny (model prog w) A (compareOp .In (.str x t) (.ref a)) R E s := by
  obtain ⟨vs, n, h1, h2⟩ := T
  exact in_list_strs (News.isList N h1) h2 q
end
/-! ## a test is one fact -/
structure CutMark : Prop where
section
variable {prog : Program} {w : World} {A : Around} {E : Value → Shared → Prop} {s : Shared} {h₀ : Heap} {L : Addr} {m : Str → Option Value} {news : Led}
def CutEnd {α : Type} (h₀ : Heap) (L : Addr) (m : Str → Option Value) (news : Led) (s : Shared) (c b : α) (s' : Shared) : Prop := b = c ∧ ∃ h tk, s' = { s with heap := h, toks := tk } ∧ Fr h₀ L h m ∧ News h₀ L h news
theorem CutEnd.mk {α : Type} {c b : α} {h : Heap} {tk : Nat} (e : b = c) (F : Fr h₀ L h m) (N : News h₀ L h news) : CutEnd h₀ L m news s c b { s with heap := h, toks := tk } := ⟨e, h, tk, rfl, F, N⟩
theorem cut_any {α : Type} {t : Sem α} {Q : α → Shared → Prop} (c : α) (_F : Fr h₀ L s.heap m) (_N : News h₀ L s.heap news)
    (h : CutMark → wpAny (model prog w) A t (CutEnd h₀ L m news s c) E s)
    (k : ∀ h tk, Fr h₀ L h m → News h₀ L h news → Q c { s with heap := h, toks := tk }) : wpAny (model prog w) A t Q E s :=
  wpAny_mono (h ⟨⟩) (fun b s' z => by obtain ⟨e, h', tk, e', F, N⟩ := z; rw [e, e']; exact k h' tk F N) fun _ _ e => e
theorem opt_isNot {M : Model} {ad : Cls → Addr} {o : Option Cls} {Q : Value → Shared → Prop} (h : Q (.bool o.isSome) s) : wpAny M A (compareOp .IsNot (optRef ad o) .none) Q E s := by
  cases o with
  | none => show wpAny M A (compareOp .IsNot .none .none) Q E s; walk1; exact h
  | some c => show wpAny M A (compareOp .IsNot (.ref (ad c)) .none) Q E s; walk1; exact h
end
end
local macro_rules | `(tactic| walk_at "call ref") => ctLine "400" .V `accepts_name_ct tbS (relBy `AccNameRel.mk 9 3)
local macro_rules | `(tactic| walk_at "compareOp In str ref") => lineS `in_tup [tbS, assS, goS] [1, 0]
local macro_rules | `(tactic| walk_at "compareOp NotIn str ref") => lineS `notin_tup [tbS, assS, goS] [1, 0]
local macro_rules | `(tactic| walk_at "compareOp In str ref") => lineS `in_lst [tbS, assS, goS] [1, 0]
local macro_rules | `(tactic| walk_at "call builtin:str.lower") => `(tactic| (k_here; k_dflt (refine SCL.lower (Nat.le_trans (m := 1000) (by assumption) (by decide)) ?_); intro _))
local macro_rules | `(tactic| walk_at "getMethod ref") => lineS `method_inst [asmS, asmS, instS, isS, isS, isS, assS, goS] (inner := [wholeS])
local macro_rules | `(tactic| k_mem) => `(tactic| first | assumption | exact List.mem_cons_of_mem _ (by assumption) | exact List.mem_cons_of_mem _ (List.mem_cons_of_mem _ (by assumption)) | exact List.mem_cons_of_mem _ (List.mem_cons_of_mem _ (List.mem_cons_of_mem _ (by assumption))) | exact List.mem_cons_self .. | exact List.mem_cons_of_mem _ (List.mem_cons_self ..))
local macro_rules | `(tactic| walk_at "compareOp IsNot") => return parS [gdS (apS `compareOp [hoS, apN `optRef 2, hoS]), refineS (apS `opt_isNot [goS])]
section
def accS (wk : Nat) (names : List Str) (d : VD) (here static : Cls) : Bool := names.any fun n => accName wk n d here static
structure NamesOk (names : List Str) : Prop where
  ok : ∀ n ∈ names, NameOk n
  nf : ∀ n ∈ names, (n == ("float" : Str)) = false
theorem NamesOk.noFloat {names : List Str} (h : NamesOk names) : (names.any (· == ("float" : Str))) = false := by
  rw [List.any_eq_false]; intro x hx; rw [h.nf x hx]; exact Bool.false_ne_true
inductive AccRel (prog : Program) (w : World) (news : Led) : List Value → (Led → Value → Prop) → Prop where
  | mk (wk : Nat) (ad : Cls → Addr) (H nm : Addr) (names : List Str) (v : Value) (d : VD) (here static : Cls) : NamesOk names → TupStrs news nm names → Wld prog w news wk ad H → VIs news ad v d →
      AccRel prog w news [.ref H, .ref nm, v, .ref (ad here), .ref (ad static)] (fun tl r => tl = [] ∧ r = .bool (accS wk names d here static))
theorem accepts_ct (prog : Program) (w : World) : Ct prog w 407 6 (AccRel prog w) := by
  (have hx : fillK PySem.Challenge.rw_pq0853_01 hd.heap_1 = fillK PySem.Challenge.rw_pq0853_01 hd.heap_1 := by k_fill; rfl)
  clear hx
  refine Ct.of fun news vs Post hR => ?_
  obtain ⟨wk, ad, H, nm, names, v, d, here, static, ok, tn, W, hv⟩ := hR
  unfold CtB
  intro p loose mean mg mb dp un gd cn cs a ccd cl outer A₀ base h₀ L m s Q E B F X N T hk hd hu hret
  refine wpAny_call ?_
  k_dflt ktr_enter
  k_steps
  unfold Stop
  obtain ⟨vs, n, t1, t2⟩ := id tn
  refine strs_tuple [] (fun pre => (pre.any fun n => accName wk n d here static) = false) (by rfl) (by assumption) (by assumption) t1 t2 rfl ?_ ?_
  · intro pre nam t r u q h tk e hP off F₂ N₂
    have hmem : nam ∈ names := by rw [e]; exact List.mem_append_right _ (List.mem_cons_self ..)
    have hok := ok.ok nam hmem
    have hnf : (nam != ("float" : Str)) = true := by rw [bne, ok.nf nam hmem]; rfl
    have W' := W.mono (fun p hp => List.mem_cons_of_mem q hp)
    have hv' := hv.mono (fun p hp => List.mem_cons_of_mem q hp)
    k_steps
    · with_reducible rename accName _ _ _ _ _ = true => hb
      refine hret _ [] _ _ (by assumption) (by tb_start) ⟨rfl, ?_⟩
      rw [accS, e, List.any_append, List.any_cons, hb]; simp only [Bool.true_or, Bool.or_true]
    · unfold Stop
      with_reducible rename accName _ _ _ _ _ = false => hb
      refine TurnEnd.pure (by assumption) (by assumption) off ?_ ?_
      · rw [List.any_append, List.any_cons, hP, hb]; rfl
      · exact fun y h1 _ => by simp only [h1, if_false, List.contains_nil, Bool.false_eq_true]
  · intro u h tk hP F₂ N₂
    have hnf := ok.noFloat
    k_steps
    exact hret _ [] _ _ (by assumption) (by tb_start) ⟨rfl, by rw [accS, hP]⟩
end
section
def clsOf (x : Str) : Option Cls := allCls.find? fun c => c.key == x
theorem valueAt_cls (ad : Cls → Addr) (x : Str) : (valueAt (clsKvs ad) x).getD .none = optRef ad (clsOf x) := by
  unfold clsKvs clsOf
  generalize allCls = l
  induction l with
  | nil => rfl
  | cons c l ih =>
    by_cases h : c.key = x
    · simp [valueAt, h, optRef]
    · have h2 : (c.key == x) = false := beq_eq_false_iff_ne.mpr h
      rw [List.find?_cons_of_neg (by simp [h2])]
      rw [← ih]
      simp [valueAt, h]
inductive LawClassRel (prog : Program) (w : World) (news : Led) : List Value → (Led → Value → Prop) → Prop where
  | mk (wk : Nat) (ad : Cls → Addr) (H : Addr) (name : Str) (t : Tok) : NameOk name → Wld prog w news wk ad H → LawClassRel prog w news [.ref H, .str name t] (fun tl r => tl = [] ∧ r = optRef ad (clsOf (Txt.lower name)))
theorem law_class_ct (prog : Program) (w : World) : Ct prog w 596 1 (LawClassRel prog w) := by
  (have hx : fillK PySem.Challenge.rw_pq0853_01 hd.heap_1 = fillK PySem.Challenge.rw_pq0853_01 hd.heap_1 := by k_fill; rfl)
  clear hx
  refine Ct.of fun news vs Post hR => ?_
  obtain ⟨wk, ad, H, name, t, ok, W⟩ := hR
  have hsz := ok.sz
  obtain ⟨d0, es0, n0, T0, oT, C, oC, i1, i2, i3, i4, i5, i6, i7, i8, i9, i10, i11⟩ := W.host
  unfold CtB
  intro p loose mean mg mb dp un gd cn cs a ccd cl outer A₀ base h₀ L m s Q E B F X N T hk hd hu hret
  refine wpAny_call ?_
  k_dflt ktr_enter
  k_steps
  refine hret _ [] _ _ (by assumption) (by assumption) ⟨rfl, ?_⟩
  rw [valueAt_cls]
def builtinWords : List Str := ["int", "float", "string", "bool", "array", "callable", "iterable", "object", "mixed", "null", "void", "never", "false", "true", "self", "parent", "static"]
inductive WordsRel (news : Led) : List Value → (Led → Value → Prop) → Prop where
  | mk : WordsRel news [] (fun tl r => ∃ a vs n, tl = [(a, ({ cls := .type "tuple", data := .seq vs.toArray n } : Obj))] ∧ r = .ref a ∧ StrsAre vs builtinWords)
theorem builtin_words_ct (prog : Program) (w : World) : Ct prog w 372 1 WordsRel := by
  refine Ct.of fun news vs Post hR => ?_
  obtain ⟨⟩ := hR
  unfold CtB
  intro p loose mean mg mb dp un gd cn cs a ccd cl outer A₀ base h₀ L m s Q E B F X N T hk hd hu hret
  refine wpAny_call ?_
  k_dflt ktr_enter
  k_steps
  refine hret _ [_] _ _ (by assumption) (by assumption) ⟨_, _, _, rfl, rfl, ?_⟩
  repeat' (first | exact StrsAre.nil | refine StrsAre.cons _ _ ?_)
def keyBehind (name : Str) (c : Cls) : Str :=
  if name == ("self" : Str) then c.key else if name == ("parent" : Str) && c.parent.isSome then (match c.parent with | some p => p.key | none => c.key) else lowerS name
inductive KeyBehindRel (news : Led) : List Value → (Led → Value → Prop) → Prop where
  | mk (wk : Nat) (ad : Cls → Addr) (name : Str) (t : Tok) (c : Cls) : NameOk name → Klasses news wk ad → KeyBehindRel news [.str name t, .ref (ad c)] (fun tl r => tl = [] ∧ ∃ t, r = .str (keyBehind name c) t)
theorem key_behind_ct (prog : Program) (w : World) : Ct prog w 421 2 KeyBehindRel := by
  refine Ct.of fun news vs Post hR => ?_
  obtain ⟨wk, ad, name, t, c, ok, K⟩ := hR
  have hsz := ok.sz
  unfold CtB
  intro p loose mean mg mb dp un gd cn cs a ccd cl outer A₀ base h₀ L m s Q E B F X N T hk hd hu hret
  have hlo := ok.lo
  obtain ⟨dd, es, n, l, ln, t', h1, h2, h3, h4, h5, h6⟩ := K.kl c
  cases hp : c.parent with
  | none =>
    rw [hp] at h4
    have e : optRef ad none = .none := rfl
    rw [e] at h4
    refine wpAny_call ?_
    k_dflt ktr_enter
    k_steps
    all_goals (refine hret _ [] _ _ (by assumption) (by assumption) ⟨rfl, ?_⟩; exact ⟨_, congrArg (fun k => Value.str k _) (Eq.symm (by unfold keyBehind; simp only [*, if_true, if_false, Bool.false_eq_true, Option.isSome, Bool.and_false, Bool.and_true, Bool.false_and, Bool.true_and]))⟩)
  | some q =>
    rw [hp] at h4
    have e : optRef ad (some q) = .ref (ad q) := rfl
    rw [e] at h4
    obtain ⟨dd', es', n', l', ln', t'', k1, k2, k3, k4, k5, k6⟩ := K.kl q
    refine wpAny_call ?_
    k_dflt ktr_enter
    k_steps
    all_goals (refine hret _ [] _ _ (by assumption) (by assumption) ⟨rfl, ?_⟩; exact ⟨_, congrArg (fun k => Value.str k _) (Eq.symm (by unfold keyBehind; simp only [*, if_true, if_false, Bool.false_eq_true, Option.isSome, Bool.and_false, Bool.and_true, Bool.false_and, Bool.true_and]))⟩)
end
local macro_rules | `(tactic| walk_at "call ref") => ctLine "596" .V `law_class_ct tbS (relBy `LawClassRel.mk 5 2)
local macro_rules | `(tactic| walk_at "call ref") => ctLine "372" .tup `builtin_words_ct asmS dotMk true
local macro_rules | `(tactic| walk_at "call ref") => ctLine "421" .T `key_behind_ct tbS (relBy `KeyBehindRel.mk 5 2)
local macro_rules | `(tactic| walk_at "isTrue BoolOp") => stopUncut
section
inductive ToolRel (prog : Program) (w : World) (news : Led) : List Value → (Led → Value → Prop) → Prop where
  | mk (wk : Nat) (ad : Cls → Addr) (H : Addr) (t : Tok) : Wld prog w news wk ad H → ToolRel prog w news [.ref H, .str "class" t] (fun tl r => tl = [] ∧ r = .ref 596)
theorem tool_ct (prog : Program) (w : World) : Ct prog w 486 1 (ToolRel prog w) := by
  (have hx : fillK PySem.Challenge.rw_pq0853_01 hd.heap_1 = fillK PySem.Challenge.rw_pq0853_01 hd.heap_1 := by k_fill; rfl)
  clear hx
  refine Ct.of fun news vs Post hR => ?_
  obtain ⟨wk, ad, H, t, W⟩ := hR
  obtain ⟨d0, es0, n0, T0, oT, C, oC, i1, i2, i3, i4, i5, i6, i7, i8, i9, i10, i11⟩ := W.host
  unfold CtB
  intro p loose mean mg mb dp un gd cn cs a ccd cl outer A₀ base h₀ L m s Q E B F X N T hk hd hu hret
  refine wpAny_call ?_
  k_dflt ktr_enter
  k_steps
  exact hret _ [] _ _ (by assumption) (by assumption) ⟨rfl, rfl⟩
local macro_rules | `(tactic| walk_at "call ref") => ctLine "486" .V `tool_ct tbS (relBy `ToolRel.mk 4 1)
def classBehind (name : Str) (k : Option Cls) : Option Cls × Str :=
  match k with
  | none => (clsOf (Txt.lower name), lowerS name)
  | some c =>
    if ([("self" : Str), "static"].any fun x => x == name) then (some c, c.key)
    else if name == ("parent" : Str) && c.parent.isSome then (c.parent, (c.parent.getD c).key)
    else if lowerS name == c.key then (some c, lowerS name) else (clsOf (Txt.lower name), lowerS name)
inductive ClassBehindRel (prog : Program) (w : World) (news : Led) : List Value → (Led → Value → Prop) → Prop where
  | mk (wk : Nat) (ad : Cls → Addr) (H : Addr) (name : Str) (t : Tok) (k : Option Cls) : NameOk name → Wld prog w news wk ad H →
      ClassBehindRel prog w news [.ref H, .str name t, optRef ad k] (fun tl r => ∃ a n t, tl = [(a, ({ cls := .type "tuple", data := .seq [optRef ad (classBehind name k).1, .str (classBehind name k).2 t].toArray n } : Obj))] ∧ r = .ref a)
theorem class_behind_ct (prog : Program) (w : World) : Ct prog w 414 4 (ClassBehindRel prog w) := by
  refine Ct.of fun news vs Post hR => ?_
  obtain ⟨wk, ad, H, name, t, k, ok, W⟩ := hR
  have hsz := ok.sz
  unfold CtB
  intro p loose mean mg mb dp un gd cn cs a ccd cl outer A₀ base h₀ L m s Q E B F X N T hk hd hu hret
  have hlo := ok.lo
  have K := W.kls
  obtain ⟨d0, es0, n0, T0, oT, C, oC, i1, i2, i3, i4, i5, i6, i7, i8, i9, i10, i11⟩ := W.host
  cases k with
  | none =>
    have e : optRef ad none = .none := rfl
    rw [e]
    refine wpAny_call ?_
    k_dflt ktr_enter
    k_steps
    unfold Stop
    refine cut_any false (by assumption) (by assumption) ?_ ?_
    · intro cm
      k_steps
      all_goals exact .mk rfl (by assumption) (by tb_start)
    intro h1 tk1 F1 N1
    k_steps
    unfold Stop
    refine cut_any false (by assumption) (by assumption) ?_ ?_
    · intro cm
      k_steps
      all_goals exact .mk rfl (by assumption) (by tb_start)
    intro h1 tk1 F1 N1
    k_steps
    unfold Stop
    refine cut_any false (by assumption) (by assumption) ?_ ?_
    · intro cm
      k_steps
      all_goals exact .mk rfl (by assumption) (by tb_start)
    intro h1 tk1 F1 N1
    k_steps
    exact hret _ [_] _ _ (by assumption) (by assumption) ⟨_, _, _, rfl, rfl⟩
  | some c =>
    have e : optRef ad (some c) = .ref (ad c) := rfl
    rw [e]
    obtain ⟨dd, es, n, l, ln, t', h1, h2, h3, h4, h5, h6⟩ := K.kl c
    refine wpAny_call ?_
    k_dflt ktr_enter
    k_steps
    unfold Stop
    refine cut_any ([("self" : Str), "static"].any fun x => x == name) (by assumption) (by assumption) ?_ ?_
    · intro cm
      k_steps
      all_goals exact .mk (by simp only [*]) (by assumption) (by tb_start)
    intro h1 tk1 F1 N1
    k_steps
    · have ec : classBehind name (some c) = (some c, c.key) := by simp only [classBehind, *, if_true]
      refine hret _ [_] _ _ (by assumption) (by assumption) ?_
      rw [ec]
      exact ⟨_, _, _, rfl, rfl⟩
    unfold Stop
    refine cut_any (name == ("parent" : Str) && c.parent.isSome) (by assumption) (by assumption) ?_ ?_
    · intro cm
      k_steps
      all_goals exact .mk (by simp only [*, Bool.false_and, Bool.true_and]) (by assumption) (by tb_start)
    intro h1 tk1 F1 N1
    k_steps
    · with_reducible rename (_ && _) = true => hb
      with_reducible rename (List.any _ _) = false => hb0
      cases hp : c.parent with
      | none => rw [hp] at hb; simp at hb
      | some q =>
        have hpo : optRef ad (some q) = .ref (ad q) := rfl
        obtain ⟨dd', es', n', l', ln', t'', k1, k2, k3, k4, k5, k6⟩ := K.kl q
        rw [hpo]
        k_steps
        rw [hp] at hb
        have ec : classBehind name (some c) = (some q, q.key) := by simp only [classBehind, hb, hb0, if_true, if_false, hp, Option.getD_some, Bool.false_eq_true]
        refine hret _ [_] _ _ (by assumption) (by assumption) ?_
        rw [ec]
        exact ⟨_, _, _, rfl, rfl⟩
    unfold Stop
    refine cut_any (lowerS name == c.key) (by assumption) (by assumption) ?_ ?_
    · intro cm
      k_steps
      all_goals exact .mk (by simp only [*]) (by assumption) (by tb_start)
    intro h1 tk1 F1 N1
    k_steps
    · with_reducible rename (List.any _ _) = false => hb0
      with_reducible rename (_ && _) = false => hb1
      with_reducible rename (_ == _) = true => hb2
      have ec : classBehind name (some c) = (some c, lowerS name) := by simp only [classBehind, hb0, hb1, hb2, if_true, if_false, Bool.false_eq_true]
      refine hret _ [_] _ _ (by assumption) (by assumption) ?_
      rw [ec]
      exact ⟨_, _, _, rfl, rfl⟩
    · with_reducible rename (List.any _ _) = false => hb0
      with_reducible rename (_ && _) = false => hb1
      with_reducible rename (_ == _) = false => hb2
      have ec : classBehind name (some c) = (clsOf (Txt.lower name), lowerS name) := by simp only [classBehind, hb0, hb1, hb2, if_true, if_false, Bool.false_eq_true]
      refine hret _ [_] _ _ (by assumption) (by assumption) ?_
      rw [ec]
      exact ⟨_, _, _, rfl, rfl⟩
end
local macro_rules | `(tactic| walk_at "call ref") => ctLine "414" .P `class_behind_ct tbS (firstS [relBy `ClassBehindRel.mk 5 2 [apN `some 1], relBy `ClassBehindRel.mk 5 2 [idS `none], relBy `ClassBehindRel.mk 6 2])
section
local macro_rules | `(tactic| walk_at "eval BoolOp") => stopUncut
def foundSub (wk : Nat) (o : Option Cls) (x : Str) : Bool := match o with | some f => isSub wk f x | none => false
theorem foundSub_none {wk : Nat} {o : Option Cls} {x : Str} (h : o.isSome = false) : foundSub wk o x = false := by cases o <;> first | rfl | cases h
inductive IsSubOptRel (news : Led) : List Value → (Led → Value → Prop) → Prop where
  | mk (wk : Nat) (ad : Cls → Addr) (o : Option Cls) (x : Str) (t : Tok) : o.isSome = true → Klasses news wk ad → IsSubOptRel news [optRef ad o, .str x t] (fun tl r => tl = [] ∧ r = .bool (foundSub wk o x))
theorem is_subclass_opt_ct (prog : Program) (w : World) : Ct prog w 358 1 IsSubOptRel := by
  refine Ct.of fun news vs Post hR => ?_
  obtain ⟨wk, ad, o, x, t, ho, K⟩ := hR
  unfold CtB
  intro p loose mean mg mb dp un gd cn cs a ccd cl outer A₀ base h₀ L m s Q E B F X N T hk hd hu hret
  cases o with
  | none => cases ho
  | some c => exact is_subclass_ct prog w _ _ _ _ _ _ _ _ _ _ _ _ _ _ _ _ _ _ _ _ _ _ _ _ _ B F X N T hk (.mk wk ad c x t K) hd hu hret
local macro_rules | `(tactic| walk_at "call ref") => ctLine "358" .V `is_subclass_opt_ct tbS (relBy `IsSubOptRel.mk 5 2)
def cov1 (key : Str) (trav : Bool) (other : Str) : Bool := other == ("object" : Str) || (other == ("iterable" : Str) && trav) || (other == ("callable" : Str) && key == ("closure" : Str))
def cov2 (other : Str) : Bool := ([("self" : Str), "parent"].any fun x => x == other) || !(builtinWords.any (· == other))
def cov3 (wk : Nat) (found : Option Cls) (key : Str) (above : Str) : Bool := key == above || foundSub wk found above
def travS (wk : Nat) (found : Option Cls) (key : Str) : Bool := key == ("traversable" : Str) || foundSub wk found "traversable"
def covOther (wk : Nat) (found : Option Cls) (key : Str) (bk : Cls) (other : Str) : Bool :=
  if cov1 key (travS wk found key) other then true else if cov2 other then cov3 wk found key (keyBehind other bk) else false
def classCovered (wk : Nat) (name : Str) (k : Option Cls) (base : List Str) (bk : Cls) : Bool := base.any (covOther wk (classBehind name k).1 (classBehind name k).2 bk)
inductive ClassCovRel (prog : Program) (w : World) (news : Led) : List Value → (Led → Value → Prop) → Prop where
  | mk (wk : Nat) (ad : Cls → Addr) (H nb : Addr) (name : Str) (t : Tok) (k : Option Cls) (base : List Str) (bk : Cls) : NameOk name → NamesOk base → TupStrs news nb base → Wld prog w news wk ad H →
      ClassCovRel prog w news [.ref H, .str name t, optRef ad k, .ref nb, .ref (ad bk)] (fun tl r => tl = [] ∧ r = .bool (classCovered wk name k base bk))
theorem class_covered_ct (prog : Program) (w : World) : Ct prog w 428 5 (ClassCovRel prog w) := by
  (have hx : fillK PySem.Challenge.rw_pq0853_01 hd.heap_1 = fillK PySem.Challenge.rw_pq0853_01 hd.heap_1 := by k_fill; rfl)
  clear hx
  refine Ct.of fun news vs Post hR => ?_
  obtain ⟨wk, ad, H, nb, name, t, k, bs, bk, ok, oks, tb, W⟩ := hR
  have K := W.kls
  unfold CtB
  intro p loose mean mg mb dp un gd cn cs a ccd cl outer A₀ base h₀ L m s Q E B F X N T hk hd hu hret
  have hz : ("traversable" : Str).cps.size ≤ 1000 := by decide
  refine wpAny_call ?_
  k_dflt ktr_enter
  k_steps
  unfold Stop
  refine cut_any (news := news) (.bool (travS wk (classBehind name k).1 (classBehind name k).2)) (by assumption) (by tb_start) ?_ ?_
  · intro cm
    k_steps
    all_goals exact .mk (by first | (simp only [travS, *, Bool.true_or, Bool.false_or]; done) | (simp only [travS, foundSub_none (by assumption), *, Bool.or_false]; done)) (by assumption) (by tb_start)
  intro h1 tk1 F1 N1
  k_steps
  unfold Stop
  obtain ⟨vs, n, t1, t2⟩ := id tb
  refine strs_tuple ["above"] (fun pre => (pre.any (covOther wk (classBehind name k).1 (classBehind name k).2 bk)) = false) (by rfl) (by assumption) (by assumption) t1 t2 rfl ?_ ?_
  · intro pre other t' r u q h tk e hP off F₂ N₂
    have hmem : other ∈ bs := by rw [e]; exact List.mem_append_right _ (List.mem_cons_self ..)
    have hok := oks.ok other hmem
    have K' := K.mono (fun p hp => List.mem_cons_of_mem q hp)
    k_steps
    unfold Stop
    refine cut_any (news := q :: news) (cov1 (classBehind name k).2 (travS wk (classBehind name k).1 (classBehind name k).2) other) (by assumption) (by tb_start) ?_ ?_
    · intro cm
      k_steps
      all_goals exact .mk (by simp only [cov1, *, Bool.true_or, Bool.false_or, Bool.true_and, Bool.false_and, Bool.or_false, Bool.or_true]) (by assumption) (by tb_start)
    intro h2 tk2 F2 N2
    k_steps
    · with_reducible rename cov1 _ _ _ = true => hb
      refine hret _ [] _ _ (by assumption) (by tb_start) ⟨rfl, ?_⟩
      rw [classCovered, e, List.any_append, List.any_cons, covOther, hb]; simp only [Bool.true_or, Bool.or_true, if_true]
    unfold Stop
    refine cut_any (news := q :: news) (cov2 other) (by assumption) (by tb_start) ?_ ?_
    · intro cm
      k_steps
      all_goals exact .mk (by simp only [cov2, *, Bool.true_or, Bool.false_or, Bool.not_true, Bool.not_false]) (by assumption) (by tb_start)
    intro h3 tk3 F3 N3
    k_steps
    · unfold Stop
      refine cut_any (news := q :: news) (cov3 wk (classBehind name k).1 (classBehind name k).2 (keyBehind other bk)) (by assumption) (by tb_start) ?_ ?_
      · intro cm
        k_steps
        all_goals exact .mk (by first | (simp only [cov3, *, Bool.true_or, Bool.false_or]; done) | (simp only [cov3, foundSub_none (by assumption), *, Bool.or_false]; done)) (by assumption) (by tb_start)
      intro h3 tk3 F3 N3
      k_steps
      · with_reducible rename cov1 _ _ _ = false => hb1
        with_reducible rename cov2 _ = true => hb2
        with_reducible rename cov3 _ _ _ _ = true => hb3
        refine hret _ [] _ _ (by assumption) (by tb_start) ⟨rfl, ?_⟩
        rw [classCovered, e, List.any_append, List.any_cons, covOther, hb1, hb2, hb3]; simp only [Bool.true_or, Bool.or_true, if_true, if_false, Bool.false_eq_true]
      · unfold Stop
        with_reducible rename cov1 _ _ _ = false => hb1
        with_reducible rename cov2 _ = true => hb2
        with_reducible rename cov3 _ _ _ _ = false => hb3
        refine TurnEnd.pure (by assumption) (by assumption) off ?_ ?_
        · rw [List.any_append, List.any_cons, hP, covOther, hb1, hb2, hb3]; rfl
        · intro y h1 h2
          have h3 : y ≠ ("above" : Str) := by intro e; subst e; exact absurd h2 (by decide)
          simp only [h1, h3, h2, if_false, Bool.false_eq_true]
    · unfold Stop
      with_reducible rename cov1 _ _ _ = false => hb1
      with_reducible rename cov2 _ = false => hb2
      refine TurnEnd.pure (by assumption) (by assumption) off ?_ ?_
      · rw [List.any_append, List.any_cons, hP, covOther, hb1, hb2]; rfl
      · exact fun y h1 h2 => by simp only [h1, h2, if_false, Bool.false_eq_true]
  · intro u h tk hP F₂ N₂
    k_steps
    exact hret _ [] _ _ (by assumption) (by tb_start) ⟨rfl, by rw [classCovered, hP]⟩
end
local macro_rules | `(tactic| walk_at "call ref") => do ctLine "428" .V `class_covered_ct tbS (firstS [← relCase `ClassCovRel.mk 9 [2, 0, 1, 3] (some (apN `some 1)), ← relCase `ClassCovRel.mk 9 [2, 0, 1, 3] (some (idS `none))])
local macro_rules | `(tactic| walk_at "no such key 11") => stopOut
local macro_rules | `(tactic| walk_at "no such key 12") => stopOut
section
def hasN (base : List Str) (x : Str) : Bool := base.any (· == x)
def nc1 (base : List Str) (name : Str) : Bool := hasN base name && !([("self" : Str), "parent"].any fun x => x == name)
def nc2 (name : Str) : Bool := hasN builtinWords name && !([("self" : Str), "parent", "static"].any fun x => x == name)
def nameCovered (wk : Nat) (name : Str) (k : Cls) (base : List Str) (bk : Cls) : Bool :=
  if name == ("never" : Str) then true
  else if hasN base "mixed" then name != ("void" : Str)
  else if nc1 base name then true
  else if ([("true" : Str), "false"].any fun x => x == name) then hasN base "bool"
  else if name == ("bool" : Str) then hasN base "true" && hasN base "false"
  else if name == ("array" : Str) then hasN base "iterable"
  else if name == ("iterable" : Str) then hasN base "array" && classCovered wk "Traversable" none base bk
  else if nc2 name then false
  else classCovered wk name (some k) base bk
inductive NameCovRel (prog : Program) (w : World) (news : Led) : List Value → (Led → Value → Prop) → Prop where
  | mk (wk : Nat) (ad : Cls → Addr) (H nb : Addr) (name : Str) (t : Tok) (k : Cls) (base : List Str) (bk : Cls) : NameOk name → NamesOk base → TupStrs news nb base → Wld prog w news wk ad H →
      NameCovRel prog w news [.ref H, .str name t, .ref (ad k), .ref nb, .ref (ad bk)] (fun tl r => tl = [] ∧ r = .bool (nameCovered wk name k base bk))
theorem ok_trav : NameOk "Traversable" := ⟨by decide, by decide⟩
theorem name_covered_ct (prog : Program) (w : World) : Ct prog w 435 6 (NameCovRel prog w) := by
  (have hx : fillK PySem.Challenge.rw_pq0853_01 hd.heap_1 = fillK PySem.Challenge.rw_pq0853_01 hd.heap_1 := by k_fill; rfl)
  clear hx
  refine Ct.of fun news vs Post hR => ?_
  obtain ⟨wk, ad, H, nb, name, t, k, bs, bk, ok, oks, tb, W⟩ := hR
  unfold CtB
  intro p loose mean mg mb dp un gd cn cs a ccd cl outer A₀ base h₀ L m s Q E B F X N T hk hd hu hret
  have okT := ok_trav
  refine wpAny_call ?_
  k_dflt ktr_enter
  k_steps
  all_goals try exact hret _ [] _ _ (by assumption) (by tb_start) ⟨rfl, by simp only [nameCovered, hasN, *, if_true, if_false, Bool.false_eq_true]⟩
  unfold Stop
  refine cut_any (news := news) (nc1 bs name) (by assumption) (by tb_start) ?_ ?_
  · intro cm
    k_steps
    all_goals exact .mk (by simp only [nc1, hasN, *, Bool.true_and, Bool.false_and, Bool.not_true, Bool.not_false]) (by assumption) (by tb_start)
  intro h1 tk1 F1 N1
  k_steps
  all_goals try exact hret _ [] _ _ (by assumption) (by tb_start) ⟨rfl, by simp only [nameCovered, hasN, *, if_true, if_false, Bool.false_eq_true, Bool.true_and, Bool.false_and]⟩
  unfold Stop
  refine cut_any (news := news) (nc2 name) (by assumption) (by tb_start) ?_ ?_
  · intro cm
    k_steps
    all_goals exact .mk (by simp only [nc2, hasN, *, Bool.true_and, Bool.false_and, Bool.not_true, Bool.not_false]) (by assumption) (by tb_start)
  intro h1 tk1 F1 N1
  k_steps
  all_goals exact hret _ [] _ _ (by assumption) (by tb_start) ⟨rfl, by simp only [nameCovered, hasN, *, if_true, if_false, Bool.false_eq_true, Bool.true_and, Bool.false_and]⟩
end
local macro_rules | `(tactic| walk_at "call ref") => do ctLine "435" .V `name_covered_ct tbS (← relCase `NameCovRel.mk 9 [2, 0, 1, 3])
section
abbrev Ty := Option (List Str)
inductive TyIs (news : Led) : Value → Ty → Prop where
  | none : TyIs news .none none
  | some (a : Addr) (names : List Str) : TupStrs news a names → NamesOk names → TyIs news (.ref a) (some names)
theorem TyIs.mono {news news' : Led} {v : Value} {ty : Ty} (h : TyIs news v ty) (hs : ∀ p ∈ news, p ∈ news') : TyIs news' v ty := by
  cases h with
  | none => exact .none
  | some a names h1 h2 => exact .some a names (h1.mono hs) h2
def isSubtype (wk : Nat) (sub : Ty) (k : Cls) (base : Ty) (bk : Cls) : Bool :=
  match base with
  | none => true
  | some b => match sub with | none => false | some s => s.all fun n => nameCovered wk n k b bk
inductive SubtypeRel (prog : Program) (w : World) (news : Led) : List Value → (Led → Value → Prop) → Prop where
  | mk (wk : Nat) (ad : Cls → Addr) (H : Addr) (v1 v2 : Value) (sub : Ty) (k : Cls) (base : Ty) (bk : Cls) : TyIs news v1 sub → TyIs news v2 base → Wld prog w news wk ad H →
      SubtypeRel prog w news [.ref H, v1, .ref (ad k), v2, .ref (ad bk)] (fun tl r => tl = [] ∧ r = .bool (isSubtype wk sub k base bk))
theorem is_subtype_ct (prog : Program) (w : World) : Ct prog w 442 7 (SubtypeRel prog w) := by
  (have hx : fillK PySem.Challenge.rw_pq0853_01 hd.heap_1 = fillK PySem.Challenge.rw_pq0853_01 hd.heap_1 := by k_fill; rfl)
  clear hx
  refine Ct.of fun news vs Post hR => ?_
  obtain ⟨wk, ad, H, v1, v2, sub, k, bs, bk, h1, h2, W⟩ := hR
  unfold CtB
  intro p loose mean mg mb dp un gd cn cs a ccd cl outer A₀ base h₀ L m s Q E B F X N T hk hd hu hret
  refine wpAny_call ?_
  k_dflt ktr_enter
  cases h2 with
  | none =>
    k_steps
    exact hret _ [] _ _ (by assumption) (by tb_start) ⟨rfl, rfl⟩
  | some b bn tb okb =>
    cases h1 with
    | none =>
      k_steps
      exact hret _ [] _ _ (by assumption) (by tb_start) ⟨rfl, rfl⟩
    | some a1 sn ts oks =>
      k_steps
      unfold Stop
      obtain ⟨vs, n, t1, t2⟩ := id ts
      refine strs_tuple [] (fun pre => (pre.all fun n => nameCovered wk n k bn bk) = true) (by rfl) (by assumption) (by assumption) t1 t2 rfl ?_ ?_
      · intro pre nam t' r u q h tk e hP off F₂ N₂
        have hmem : nam ∈ sn := by rw [e]; exact List.mem_append_right _ (List.mem_cons_self ..)
        have hok := oks.ok nam hmem
        have W' := W.mono (fun p hp => List.mem_cons_of_mem q hp)
        have tb' := tb.mono (fun p hp => List.mem_cons_of_mem q hp)
        k_steps
        · unfold Stop
          with_reducible rename nameCovered _ _ _ _ _ = true => hb
          refine TurnEnd.pure (by assumption) (by assumption) off ?_ ?_
          · rw [List.all_append, List.all_cons, hP, hb]; rfl
          · exact fun y h1 h2 => by simp only [h1, h2, if_false, Bool.false_eq_true]
        · with_reducible rename nameCovered _ _ _ _ _ = false => hb
          refine hret _ [] _ _ (by assumption) (by tb_start) ⟨rfl, ?_⟩
          rw [isSubtype, e, List.all_append, List.all_cons, hb]; simp only [Bool.false_and, Bool.and_false]
      · intro u h tk hP F₂ N₂
        k_steps
        exact hret _ [] _ _ (by assumption) (by tb_start) ⟨rfl, by rw [isSubtype, hP]⟩
end
section
section
variable {prog : Program} {w : World} {A : Around} {E : Value → Shared → Prop} {Q : Flow → Shared → Prop} {s : Shared} {env : Env} {h₀ : Heap} {L : Addr}
/-! ## a while that turns two names -/
def WEnd (h₀ : Heap) (L : Addr) (s : Shared) (y1 y2 : Str) (J : Nat → Value → Value → Led → Prop) (m₀ : Str → Option Value) (n : Nat) (s₃ : Shared) : Prop :=
  ∃ h' tk m₂ nx' n' a' b', s₃ = { s with heap := h', toks := tk } ∧ Fr h₀ L h' m₂ ∧ News h₀ L h' nx' ∧ n' < n ∧ J n' a' b' nx' ∧ m₂ y1 = some a' ∧ m₂ y2 = some b' ∧ ∀ y, y ≠ y1 → y ≠ y2 → m₂ y = m₀ y
def WPost (h₀ : Heap) (L : Addr) (s : Shared) (y1 y2 : Str) (J : Nat → Value → Value → Led → Prop) (m₀ : Str → Option Value) (Q : Flow → Shared → Prop) (n : Nat) (f : Flow) (s₃ : Shared) : Prop :=
  match f with
  | .ret v => Q (.ret v) s₃
  | .brk => Q .next s₃
  | _ => WEnd h₀ L s y1 y2 J m₀ n s₃
theorem while_two {test : Expr} {body : List Stmt} {pos : Pos} {m₀ : Str → Option Value} {news : Led} (y1 y2 : Str) (J : Nat → Value → Value → Led → Prop) {n₀ : Nat} {a₀ b₀ : Value}
    (F : Fr h₀ L s.heap m₀) (N : News h₀ L s.heap news) (e1 : m₀ y1 = some a₀) (e2 : m₀ y2 = some b₀) (hJ : J n₀ a₀ b₀ news)
    (turn : ∀ n a b nx h tk, J n a b nx → Fr h₀ L h (fun y => if y = y1 then some a else if y = y2 then some b else m₀ y) → News h₀ L h nx →
      wpAny (model prog w) A (isTrue test env (eval test env)) (fun c s₂ => if c = true then wpAny (model prog w) A (execs body env) (WPost h₀ L s y1 y2 J m₀ Q n) E s₂ else Q .next s₂) E { s with heap := h, toks := tk })
    (hE : PassesOwn (model prog w) A env E := by passes_own) :
    wpAny (model prog w) A (exec (.While test body [] pos) env) Q E s := by
  refine While_inv2 (fun n m nx => ∃ a b, J n a b nx ∧ m y1 = some a ∧ m y2 = some b ∧ ∀ y, y ≠ y1 → y ≠ y2 → m y = m₀ y) F N ⟨a₀, b₀, hJ, e1, e2, fun _ _ _ => rfl⟩ ?_ hE
  rintro n m₁ nx h tk F₁ N₁ ⟨a, b, hJ, h1, h2, hm⟩
  have e : m₁ = fun y => if y = y1 then some a else if y = y2 then some b else m₀ y := by
    funext y
    by_cases c1 : y = y1
    · subst c1; simp [h1]
    · by_cases c2 : y = y2
      · subst c2; simp [c1, h2]
      · simp [c1, c2, hm y c1 c2]
  rw [e] at F₁
  refine wpAny_mono (turn n a b nx h tk hJ F₁ N₁) (fun c s₂ h₂ => ?_) fun _ _ e => e
  split at h₂
  · rename_i hc
    rw [if_pos hc]
    refine wpAny_mono h₂ (fun f s₃ h₃ => ?_) fun _ _ e => e
    have fin : WEnd h₀ L s y1 y2 J m₀ n s₃ → ∃ h' tk m₂ news₂ n', s₃ = { s with heap := h', toks := tk } ∧ Fr h₀ L h' m₂ ∧ News h₀ L h' news₂ ∧ n' < n ∧ ∃ a b, J n' a b news₂ ∧ m₂ y1 = some a ∧ m₂ y2 = some b ∧ ∀ y, y ≠ y1 → y ≠ y2 → m₂ y = m₀ y := by
      rintro ⟨h', tk, m₂, nx', n', a', b', e, F', N', hn, hJ', c1, c2, c3⟩
      exact ⟨h', tk, m₂, nx', n', e, F', N', hn, a', b', hJ', c1, c2, c3⟩
    cases f with
    | ret v => exact h₃
    | brk => exact h₃
    | next => exact fin h₃
    | cont => exact fin h₃
  · rename_i hc
    rw [if_neg hc]
    exact h₂
end
/-! ## a comprehension whose element makes nothing that is kept -/
section
variable {prog : Program} {w : World} {A : Around} {h₀ : Heap} {L : Addr} {m : Str → Option Value} {env : Env} {elt : Expr} {x : Str} {scope : Scope} {cl : List (Str × Addr)} {s : Shared} {S : Led → Prop} {P : Nat → Value → Prop} {Fin : List Value → Led → Prop} {news : Led}
def ElEnd (h₀ : Heap) (L : Addr) (m : Str → Option Value) (led : Led) (s₁ : Shared) (O : Value → Prop) (y : Value) (s₂ : Shared) : Prop :=
  ∃ h' tk, s₂ = { s₁ with heap := h', toks := tk } ∧ Fr h₀ L h' m ∧ News h₀ L h' led ∧ O y
theorem ElEnd.mk {led : Led} {s₁ : Shared} {O : Value → Prop} {y : Value} {h' : Heap} {tk : Nat} (F : Fr h₀ L h' m) (N : News h₀ L h' led) (o : O y) : ElEnd h₀ L m led s₁ O y { s₁ with heap := h', toks := tk } := ⟨h', tk, rfl, F, N, o⟩
theorem comp_gen {n : Nat} (Out : Nat → Value → Prop) (hS : S news)
    (turn : ∀ i v q1 C oC q3 m₂ h tk (E' : Value → Shared → Prop), i < n → P i v → LCg.NsObj oC m₂ → m₂ x = some v → Fr h₀ L h m → News h₀ L h (q1 :: (C, oC) :: q3 :: news) →
      wpAny (model prog w) A (eval elt (compEnvC scope cl C env)) (ElEnd h₀ L m (q1 :: (C, oC) :: q3 :: news) { s with heap := h, toks := tk } (Out i)) E' { s with heap := h, toks := tk })
    (fin : ∀ ys, ys.length = n → (∀ i y, ys[i]? = some y → Out i y) → Fin ys news) :
    LCg.CompRest prog w A h₀ L m env elt x scope cl s S P Fin n 0 [] news := by
  have all : ∀ k i ys, i + k = n → ys.length = i → (∀ j y, ys[j]? = some y → Out j y) → LCg.CompRest prog w A h₀ L m env elt x scope cl s S P Fin k i ys news := by
    intro k
    induction k with
    | zero => intro i ys e hl hO; exact LCg.CompRest.zero (fin ys (by omega) hO)
    | succ k ih =>
      intro i ys e hl hO
      refine LCg.CompRest.succ fun v I oI C oC D m₂ h tk E' hP hC hx F N off ne => ?_
      refine wpAny_mono (turn i v (I, oI) C oC (D, LCg.lst ys) m₂ h tk E' (by omega) hP hC hx F N) (fun y s₂ z => ?_) fun _ _ e => e
      obtain ⟨h', tk', e', F', N', o⟩ := z
      refine ⟨h', tk', news, e', F', N', off, hS, ih (i + 1) (ys ++ [y]) (by omega) (by simp [hl]) fun j y' hj => ?_⟩
      by_cases hlt : j < ys.length
      · rw [List.getElem?_append_left hlt] at hj; exact hO j y' hj
      · rw [List.getElem?_append_right (by omega)] at hj
        have hj0 : j - ys.length = 0 := by
          cases hq : j - ys.length with
          | zero => rfl
          | succ q => rw [hq] at hj; simp at hj
        rw [hj0] at hj
        simp only [List.getElem?_cons_zero, Option.some.injEq] at hj
        subst hj
        have : j = i := by omega
        subst this; exact o
  exact all n 0 [] (by omega) rfl (by intro j y h; simp at h)
end
theorem strs_get {vs : List Value} {names : List Str} (h : StrsAre vs names) : ∀ {i : Nat} {v : Value}, vs[i]? = some v → ∃ n t, names[i]? = some n ∧ v = .str n t := by
  induction h with
  | nil => intro i v e; simp at e
  | cons y t h ih =>
    intro i v e
    cases i with
    | zero => simp only [List.getElem?_cons_zero, Option.some.injEq] at e; exact ⟨y, t, rfl, e.symm⟩
    | succ i => simp only [List.getElem?_cons_succ] at e ⊢; exact ih e
theorem strs_of {α : Type} {g : α → Str} : ∀ {items : List α} {ys : List Value}, ys.length = items.length → (∀ (i : Nat) (y : Value), ys[i]? = some y → ∃ a t, items[i]? = some a ∧ y = Value.str (g a) t) → StrsAre ys (items.map g)
  | [], [], _, _ => .nil
  | a :: l, y :: ys, hl, h => by
    obtain ⟨a', t, e1, e2⟩ := h 0 y rfl
    simp only [List.getElem?_cons_zero, Option.some.injEq] at e1
    subst e1; subst e2
    exact .cons _ _ (strs_of (by simpa using hl) fun i y' e => by simpa using h (i + 1) y' (by simpa using e))
theorem bools_of {α : Type} {g : α → Bool} : ∀ {items : List α} {ys : List Value}, ys.length = items.length → (∀ (i : Nat) (y : Value), ys[i]? = some y → ∃ a, items[i]? = some a ∧ y = Value.bool (g a)) → LSm.BoolsAre ys (items.map g)
  | [], [], _, _ => .nil
  | a :: l, y :: ys, hl, h => by
    obtain ⟨a', e1, e2⟩ := h 0 y rfl
    simp only [List.getElem?_cons_zero, Option.some.injEq] at e1
    subst e1; subst e2
    exact .cons _ (bools_of (by simpa using hl) fun i y' e => by simpa using h (i + 1) y' (by simpa using e))
section
variable {prog : Program} {w : World} {A : Around} {E : Value → Shared → Prop} {s : Shared} {h₀ : Heap} {L : Addr} {m : Str → Option Value} {news : Led}
theorem LstStrs.isList {h : Heap} {a : Addr} {xs : List Str} (l : LstStrs news a xs) (N : News h₀ L h news) : ∃ vs : List Value, h.IsList a vs.toArray ∧ StrsAre vs xs := by
  obtain ⟨vs, n, h1, h2⟩ := l
  exact ⟨vs, News.isList N h1, h2⟩
theorem add_strs {l b : Addr} {xs ys : List Str} {Q : Value → Shared → Prop} (F : Fr h₀ L s.heap m) (N : News h₀ L s.heap news) (hl : LstStrs news l xs) (hb : LstStrs news b ys) (hsz : xs.length + ys.length ≤ sizeLine)
    (h : ∀ D vs n h', Fr h₀ L h' m → News h₀ L h' ((D, ({ cls := .type "list", data := .seq vs.toArray n } : Obj)) :: news) → StrsAre vs (xs ++ ys) → Q (.ref D) { s with heap := h' }) :
    wpAny (model prog w) A (binaryOp .Add (.ref l) (.ref b)) Q E s := by
  obtain ⟨vs, l1, s1⟩ := hl.isList N
  obtain ⟨ws, l2, s2⟩ := hb.isList N
  refine add_lists (hsz := by rw [strs_len s1, strs_len s2]; exact hsz) F N l1 l2 fun h' F' N' => h _ (vs ++ ws) _ h' F' N' (strs_app s1 s2)
end
end
local macro_rules | `(tactic| walk_at "eval ListComp") => `(tactic| (k_here; k_dflt (refine LCg.ListComp_U (F₀ := by k_asm) (by with_unfolding_all rfl) (by decide) (by rfl) (by decide) (by rfl) ?_)))
local macro_rules | `(tactic| walk_at "CompSrc") => stopOut
local macro_rules | `(tactic| walk_at "CompRest") => stopOut
local macro_rules | `(tactic| walk_at "WPost") => unfoldLine `WPost
local macro_rules | `(tactic| walk_at "WEnd") => stopOut
section
local macro_rules | `(tactic| walk_at "binaryOp Add ref ref") => stopOut
def upKeys (wk : Nat) : Option Cls → List Str
  | some c => (c.chain.map fun d => d.key :: (d.ifs wk).map Cls.key).flatten
  | none => []
theorem upKeys_step (wk : Nat) (c : Cls) : upKeys wk (some c) = (c.key :: (c.ifs wk).map Cls.key) ++ upKeys wk c.parent := by cases c <;> simp [upKeys, Cls.chain, Cls.parent]
def lawAbove (wk : Nat) (key : Str) : List Str := key :: upKeys wk (clsOf key)
theorem ifs_len (wk : Nat) (c : Cls) : (c.ifs wk).length ≤ 2 := by
  cases c <;> simp only [Cls.ifs] <;> (try split) <;> simp only [List.length_cons, List.length_nil] <;> omega
theorem chain_len (c : Cls) : c.chain.length ≤ 3 := by cases c <;> decide
theorem up_len (wk : Nat) (o : Option Cls) : (upKeys wk o).length ≤ 9 := by
  cases o with
  | none => exact Nat.zero_le _
  | some c =>
    have h0 := ifs_len wk .p0
    have h1 := ifs_len wk .p1
    have h2 := ifs_len wk .p2
    have h := ifs_len wk c
    cases c <;> simp only [upKeys, Cls.chain, List.map_cons, List.map_nil, List.flatten_cons, List.flatten_nil, List.length_append, List.length_cons, List.length_nil, List.length_map] <;> omega
theorem lawAbove_len (wk : Nat) (key : Str) : (lawAbove wk key).length ≤ 13 := by
  have := up_len wk (clsOf key)
  rw [lawAbove, List.length_cons]; omega
inductive LawAboveRel (prog : Program) (w : World) (news : Led) : List Value → (Led → Value → Prop) → Prop where
  | mk (wk : Nat) (ad : Cls → Addr) (H : Addr) (key : Str) (t : Tok) : Wld prog w news wk ad H →
      LawAboveRel prog w news [.ref H, .str key t] (fun tl r => ∃ a vs n, tl = [(a, ({ cls := .type "list", data := .seq vs.toArray n } : Obj))] ∧ r = .ref a ∧ StrsAre vs (lawAbove wk key))
theorem law_above_ct (prog : Program) (w : World) : Ct prog w 615 2 (LawAboveRel prog w) := by
  (have hx : fillK PySem.Challenge.rw_pq0853_01 hd.heap_1 = fillK PySem.Challenge.rw_pq0853_01 hd.heap_1 := by k_fill; rfl)
  clear hx
  refine Ct.of fun news vs Post hR => ?_
  obtain ⟨wk, ad, H, key, t, W⟩ := hR
  obtain ⟨d0, es0, n0, T0, oT, C, oC, i1, i2, i3, i4, i5, i6, i7, i8, i9, i10, i11⟩ := W.host
  unfold CtB
  intro p loose mean mg mb dp un gd cn cs a ccd cl outer A₀ base h₀ L m s Q E B F X N T hk hd hu hret
  refine wpAny_call ?_
  k_dflt ktr_enter
  k_steps
  unfold Stop
  with_reducible rename Fr _ _ _ _ => F1
  with_reducible rename News _ _ _ _ => N1
  refine while_two (news := _) "found" "klass" (fun n a b nx => ∃ d adr vs ln pre, n = upSize d ∧ a = .ref adr ∧ b = optRef ad d ∧ nx = (adr, ({ cls := .type "list", data := .seq vs.toArray ln } : Obj)) :: news ∧ StrsAre vs pre ∧ pre ++ upKeys wk d = lawAbove wk key)
    F1 (news_drop1 N1) (by rfl) (by rfl) ⟨clsOf key, _, [_], 0, [key], rfl, rfl, valueAt_cls ad key, rfl, .cons _ _ .nil, rfl⟩ ?_ (by passes_own)
  rintro n a b nx h tk ⟨d, adr, vs, ln, pre, rfl, rfl, rfl, rfl, hs, hp⟩ F2 N2
  have hlen : pre.length ≤ 13 := by
    have := congrArg List.length hp
    rw [List.length_append] at this
    have := lawAbove_len wk key
    omega
  cases d with
  | none =>
    have e : optRef ad none = .none := rfl
    rw [e] at F2
    k_steps
    have hp' : pre = lawAbove wk key := by rw [← hp]; exact (List.append_nil _).symm
    exact hret _ [_] _ _ (by assumption) (by assumption) ⟨_, _, _, rfl, rfl, hp' ▸ hs⟩
  | some c =>
    have e : optRef ad (some c) = .ref (ad c) := rfl
    rw [e] at F2
    obtain ⟨dd, es, n, l, ln', t', h1, h2, h3, h4, h5, h6⟩ := W.kls.kl c
    k_steps
    unfold Stop
    refine add_strs (by assumption) (by assumption) ⟨vs, _, by k_mem, hs⟩ ⟨[_], 0, by k_mem, .cons c.key _ .nil⟩ (by rw [sizeLine_eq, List.length_singleton]; omega) ?_
    intro D1 vs1 n1 hh1 F3 N3 S3
    replace N3 := news_keep2 N3
    k_steps
    unfold Stop
    refine LCg.CompSrc.ledger (by rfl) (by assumption) (by assumption) (List.mem_cons_of_mem _ h6) (by rw [sizeLine_eq, List.size_toArray, List.length_map]; have := ifs_len wk c; omega) ?_
    intro g
    refine comp_gen (fun i y => ∃ b t, (c.ifs wk)[i]? = some b ∧ y = Value.str b.key t) (Or.inr ⟨_, List.mem_cons_of_mem _ h6, rfl, _, rfl⟩) ?_ ?_
    · intro i v q1 C oC q3 m₂ h tk E' hi hP hC hx F4 N4
      have hP' : ((c.ifs wk).map fun c => Value.ref (ad c))[i]? = some v := by simpa using hP
      rw [List.getElem?_map] at hP'
      obtain ⟨b, hb, e⟩ := Option.map_eq_some_iff.mp hP'
      subst e
      obtain ⟨dd', es', n', l', ln'', t'', k1, k2, k3, k4, k5, k6⟩ := W.kls.kl b
      replace k1 := List.mem_cons_of_mem q1 (List.mem_cons_of_mem (C, oC) (List.mem_cons_of_mem q3 (List.mem_cons_of_mem (D1, ({ cls := .type "list", data := .seq vs1.toArray n1 } : Obj)) k1)))
      replace k2 := List.mem_cons_of_mem q1 (List.mem_cons_of_mem (C, oC) (List.mem_cons_of_mem q3 (List.mem_cons_of_mem (D1, ({ cls := .type "list", data := .seq vs1.toArray n1 } : Obj)) k2)))
      k_steps
      exact .mk (by assumption) (by assumption) ⟨b, _, hb, rfl⟩
    · intro ys hl hO
      have SY : StrsAre ys ((c.ifs wk).map Cls.key) := strs_of (by rw [hl, List.size_toArray, List.length_map]) hO
      unfold LCg.FinE
      intro D2 hh2 tk2 F5 N5 off5
      k_steps
      unfold Stop
      refine add_strs (by assumption) (by assumption) ⟨vs1, n1, by k_mem, S3⟩ ⟨ys, ys.length, by k_mem, SY⟩ (by rw [sizeLine_eq, List.length_append, List.length_singleton, List.length_map]; have := ifs_len wk c; omega) ?_
      intro D3 vs3 n3 hh3 F6 N6 S6
      replace N6 := news_keep2 N6
      k_steps
      unfold Stop
      refine ⟨_, _, _, _, upSize c.parent, _, _, rfl, by assumption, by assumption, upSize_step c, ⟨c.parent, D3, vs3, n3, _, rfl, rfl, rfl, rfl, S6, ?_⟩, rfl, rfl, fun y h1 h2 => by simp only [h1, h2, if_false]⟩
      rw [← hp, upKeys_step]
      simp only [List.append_assoc, List.cons_append, List.nil_append]
end
local macro_rules | `(tactic| walk_at "no such key 13") => stopOut
local macro_rules | `(tactic| walk_at "no such key 14") => stopOut
section
section
variable {prog : Program} {w : World} {A : Around} {E : Value → Shared → Prop} {s : Shared} {env : Env} {h₀ : Heap} {x : Str} {body : List Stmt} {Q : Flow → Shared → Prop}
def AccI (x y1 : Str) (m₀ : Str → Option Value) (news : Led) (xs : List Str) (m' : Str → Option Value) (n' : Led) : Prop :=
  ∃ adr ws k, n' = (adr, ({ cls := .type "list", data := .seq ws.toArray k } : Obj)) :: news ∧ (∀ p ∈ news, p.1 ≠ adr) ∧ StrsAre ws xs ∧ m' y1 = some (.ref adr) ∧ ∀ y, y ≠ y1 → y ≠ x → m' y = m₀ y
theorem strs_acc {ax : Addr} {vs : List Value} {names : List Str} {n : Nat} {m₀ : Str → Option Value} {news : Led} {a₀ : Addr} {w₀ : List Value} {k₀ : Nat}
    (y1 : Str) (out : List Str → List Str) (hne : x ≠ y1)
    (hh : A.handled = none) (F : Fr h₀ env.locals s.heap m₀) (N : News h₀ env.locals s.heap ((a₀, ({ cls := .type "list", data := .seq w₀.toArray k₀ } : Obj)) :: news))
    (hm : (ax, ({ cls := .type "tuple", data := .seq vs.toArray n } : Obj)) ∈ news) (hs : StrsAre vs names)
    (h1 : m₀ y1 = some (.ref a₀)) (off₀ : ∀ p ∈ news, p.1 ≠ a₀) (h0 : StrsAre w₀ (out []))
    (turn : ∀ pre a t r adr ws k q h tk, names = pre ++ a :: r → (∀ p ∈ news, p.1 ≠ adr) → q.1 ≠ adr → (∀ p ∈ news, p.1 ≠ q.1) → StrsAre ws (out pre) →
      Fr h₀ env.locals h (fun y => if y = x then some (.str a t) else if y = y1 then some (.ref adr) else m₀ y) → News h₀ env.locals h (q :: (adr, ({ cls := .type "list", data := .seq ws.toArray k } : Obj)) :: news) →
      wpAny (model prog w) A (execs body env) (TurnPost h₀ env.locals { s with heap := h, toks := tk } q (AccI x y1 m₀ news (out (pre ++ [a]))) Q) E { s with heap := h, toks := tk })
    (done : ∀ adr ws k (u : Str → Option Value) h tk, StrsAre ws (out names) → Fr h₀ env.locals h (fun y => if y = y1 then some (.ref adr) else if y = x then u y else m₀ y) → News h₀ env.locals h ((adr, ({ cls := .type "list", data := .seq ws.toArray k } : Obj)) :: news) → Q .next { s with heap := h, toks := tk }) :
    wpAny (model prog w) A (pyIter (.ref ax)) (fun it s₂ => LoopAtV prog w A h₀ env x body Q E it s₂) E s := by
  refine each_tuple hh F N (.tail _ hm) rfl rfl (fun pre _ m' n' => ∃ pn, StrsAre pre pn ∧ AccI x y1 m₀ news (out pn) m' n') ⟨[], .nil, a₀, w₀, k₀, rfl, off₀, h0, h1, fun _ _ _ => rfl⟩ (fun p r m n h => ?_) ?_ ?_
  · obtain ⟨pn, _, adr, ws, k, rfl, _⟩ := h
    exact .tail _ hm
  · rintro pre v r m n q h tk e ⟨pn, hp, adr, ws, k, rfl, off1, S, e1, hmm⟩ off F₁ N₁
    obtain ⟨qn, a, rn, t, c1, c2, c3⟩ := strs_split hs e
    obtain rfl := strs_inj hp c3
    subst c2
    have em : (fun y => if y = x then some (Value.str a t) else m y) = fun y => if y = x then some (.str a t) else if y = y1 then some (.ref adr) else m₀ y := by
      funext y
      by_cases z1 : y = x
      · simp [z1]
      · by_cases z2 : y = y1
        · subst z2; simp [z1, e1]
        · simp [z1, z2, hmm y z2 z1]
    rw [em] at F₁
    refine wpAny_mono (turn pn a t rn adr ws k q h tk c1 off1 (Ne.symm (off _ (List.mem_cons_self ..))) (fun p hp => off p (.tail _ hp)) S F₁ N₁) (fun f' s₂ p => ?_) fun _ _ e => e
    have fin : TurnEnd h₀ env.locals { s with heap := h, toks := tk } q (AccI x y1 m₀ news (out (pn ++ [a]))) s₂ → TurnEnd h₀ env.locals { s with heap := h, toks := tk } q (fun m' n' => ∃ pn, StrsAre (pre ++ [.str a t]) pn ∧ AccI x y1 m₀ news (out pn) m' n') s₂ := by
      rintro ⟨h', tk', m', news', e', F', N', o', r'⟩
      exact ⟨h', tk', m', news', e', F', N', o', pn ++ [a], strs_snoc hp, r'⟩
    cases f' with
    | ret v => exact p
    | brk => exact p
    | next => exact fin p
    | cont => exact fin p
  · rintro m n h tk ⟨pn, hp, adr, ws, k, rfl, off1, S, e1, hmm⟩ F₁ N₁
    obtain rfl := strs_inj hp hs
    have em : m = fun y => if y = y1 then some (.ref adr) else if y = x then m y else m₀ y := by
      funext y
      by_cases z2 : y = y1
      · subst z2; simp [e1]
      · by_cases z1 : y = x
        · subst z1; simp [hne]
        · simp [z1, z2, hmm y z2 z1]
    rw [em] at F₁
    exact done adr ws k m h tk S F₁ N₁
end
section
variable {prog : Program} {w : World} {A : Around} {E : Value → Shared → Prop} {s : Shared} {h₀ : Heap} {L : Addr} {m : Str → Option Value} {news : Led}
theorem add_strs2 {l b : Addr} {xs ys : List Str} {Q : Value → Shared → Prop} (F : Fr h₀ L s.heap m) (N : News h₀ L s.heap news) (hl : LstStrs news l xs) (hb : LstStrs news b ys) (hsz : xs.length + ys.length ≤ sizeLine)
    (h : ∀ D vs n h', Fr h₀ L h' m → News h₀ L h' ((D, ({ cls := .type "list", data := .seq vs.toArray n } : Obj)) :: news) → StrsAre vs (xs ++ ys) → (∀ p ∈ news, p.1 ≠ D) → Q (.ref D) { s with heap := h' }) :
    wpAny (model prog w) A (binaryOp .Add (.ref l) (.ref b)) Q E s := by
  obtain ⟨vs, l1, s1⟩ := hl.isList N
  obtain ⟨ws, l2, s2⟩ := hb.isList N
  refine add_lists (hsz := by rw [strs_len s1, strs_len s2]; exact hsz) F N l1 l2 fun h' F' N' => h _ (vs ++ ws) _ h' F' N' (strs_app s1 s2) fun p hp => Nat.ne_of_lt (Heap.lt_size (N p hp).1)
theorem append_strs {D : Addr} {q : Addr × Obj} {ws : List Value} {xs : List Str} {k : Nat} {y : Str} {t : Tok} {Q : Value → Shared → Prop} (F : Fr h₀ L s.heap m)
    (N : News h₀ L s.heap (q :: (D, ({ cls := .type "list", data := .seq ws.toArray k } : Obj)) :: news)) (hq : q.1 ≠ D) (off : ∀ p ∈ news, p.1 ≠ D) (S : StrsAre ws xs) (hsz : xs.length ≤ sizeLine)
    (h : ∀ h' ws' k', Fr h₀ L h' m → News h₀ L h' (q :: (D, ({ cls := .type "list", data := .seq ws'.toArray k' } : Obj)) :: news) → StrsAre ws' (xs ++ [y]) → Q .none { s with heap := h' }) :
    wpAny (model prog w) A (call (.builtin "list.append") [.ref D, .str y t]) Q E s := by
  refine append_K F N (.tail hq (.head off)) (fun h' F' N' => h h' (ws ++ [.str y t]) (k + 1) F' ?_ (strs_snoc S)) (by rw [List.size_toArray, strs_len S]; exact hsz)
  have e : (ws.toArray.push (Value.str y t)) = (ws ++ [Value.str y t]).toArray := by simp
  rw [e] at N'
  exact N'
theorem opt_is {M : Model} {ad : Cls → Addr} {o : Option Cls} {Q : Value → Shared → Prop} (h : Q (.bool (!o.isSome)) s) : wpAny M A (compareOp .Is (optRef ad o) .none) Q E s := by
  cases o with
  | none => show wpAny M A (compareOp .Is .none .none) Q E s; walk1; exact h
  | some c => show wpAny M A (compareOp .Is (.ref (ad c)) .none) Q E s; walk1; exact h
end
section
variable {h₀ h' : Heap} {L D : Addr} {q l a : Addr × Obj} {news : Led} {x y1 : Str} {m₀ m' : Str → Option Value} {xs : List Str} {ws : List Value} {k : Nat} {s₁ : Shared} {tk : Nat}
theorem acc_end (F : Fr h₀ L h' m') (N : News h₀ L h' (q :: (D, ({ cls := .type "list", data := .seq ws.toArray k } : Obj)) :: news)) (offq : ∀ p ∈ news, p.1 ≠ q.1) (hqD : q.1 ≠ D) (offD : ∀ p ∈ news, p.1 ≠ D) (S : StrsAre ws xs)
    (e1 : m' y1 = some (.ref D)) (hm : ∀ y, y ≠ y1 → y ≠ x → m' y = m₀ y) : TurnEnd h₀ L s₁ q (AccI x y1 m₀ news xs) { s₁ with heap := h', toks := tk } :=
  ⟨h', tk, m', _, rfl, F, N, fun p hp => by rcases List.mem_cons.mp hp with rfl | hp; exact Ne.symm hqD; exact offq p hp, D, ws, k, rfl, offD, S, e1, hm⟩
theorem news_pick {d : Addr × Obj} (N : News h₀ L h' (d :: l :: q :: a :: news)) : News h₀ L h' (q :: d :: news) := fun p hp => N p (by
  rcases List.mem_cons.mp hp with rfl | hp
  · exact .tail _ (.tail _ (.head _))
  · rcases List.mem_cons.mp hp with rfl | hp
    · exact .head _
    · exact .tail _ (.tail _ (.tail _ (.tail _ hp))))
end
/-- a ledger to come back to -/
structure LedMark (led : Led) : Prop where
theorem LedMark.of {h₀ h : Heap} {L : Addr} {led : Led} (_N : News h₀ L h led) : LedMark led := ⟨⟩
section
variable {prog : Program} {w : World} {A : Around} {E : Value → Shared → Prop} {s : Shared} {h₀ : Heap} {L : Addr} {m : Str → Option Value} {led : Led}
theorem cut_led {α : Type} {t : Sem α} {Q : α → Shared → Prop} (_M : LedMark led) (c : α) (F : Fr h₀ L s.heap m) (N : News h₀ L s.heap led)
    (h : CutMark → wpAny (model prog w) A t (CutEnd h₀ L m led s c) E s)
    (k : ∀ h tk, Fr h₀ L h m → News h₀ L h led → Q c { s with heap := h, toks := tk }) : wpAny (model prog w) A t Q E s := cut_any c F N h k
end
section
variable {prog : Program} {w : World} {h₀ h : Heap} {L : Addr} {news : Led} {q q1 q2 q3 q4 q5 q6 q7 : Addr × Obj} {wk : Nat} {ad : Cls → Addr} {H a : Addr} {names : List Str} {v : Value} {ty : Ty}
theorem Wld.up (W : Wld prog w news wk ad H) (_N : News h₀ L h (q :: news)) : Wld prog w (q :: news) wk ad H := W.mono fun _ hp => .tail _ hp
theorem LstStrs.up (W : LstStrs news a names) (_N : News h₀ L h (q :: news)) : LstStrs (q :: news) a names := W.mono fun _ hp => .tail _ hp
theorem TyIs.up (W : TyIs news v ty) (_N : News h₀ L h (q :: news)) : TyIs (q :: news) v ty := W.mono fun _ hp => .tail _ hp
theorem Wld.up3 (W : Wld prog w news wk ad H) (_N : News h₀ L h (q :: q1 :: q2 :: news)) : Wld prog w (q :: q1 :: q2 :: news) wk ad H := W.mono fun _ hp => .tail _ (.tail _ (.tail _ hp))
theorem LstStrs.up3 (W : LstStrs news a names) (_N : News h₀ L h (q :: q1 :: q2 :: news)) : LstStrs (q :: q1 :: q2 :: news) a names := W.mono fun _ hp => .tail _ (.tail _ (.tail _ hp))
theorem news_drop5 (N : News h₀ L h (q1 :: q2 :: q3 :: q4 :: q5 :: news)) : News h₀ L h news := fun p hp => N p (.tail _ (.tail _ (.tail _ (.tail _ (.tail _ hp)))))
theorem news_drop6 (N : News h₀ L h (q1 :: q2 :: q3 :: q4 :: q5 :: q6 :: news)) : News h₀ L h news := fun p hp => N p (.tail _ (.tail _ (.tail _ (.tail _ (.tail _ (.tail _ hp))))))
theorem news_drop7 (N : News h₀ L h (q1 :: q2 :: q3 :: q4 :: q5 :: q6 :: q7 :: news)) : News h₀ L h news := fun p hp => N p (.tail _ (.tail _ (.tail _ (.tail _ (.tail _ (.tail _ (.tail _ hp)))))))
end
theorem any_map_id {α : Type} (f : α → Bool) (l : List α) : (l.map f).any id = l.any f := by induction l <;> simp_all
theorem all_map_id {α : Type} (f : α → Bool) (l : List α) : (l.map f).all id = l.all f := by induction l <;> simp_all
theorem news_ne {h₀ h : Heap} {L a b : Addr} {o1 o2 : Obj} {led : Led} (N : News h₀ L h led) (h1 : (a, o1) ∈ led) (h2 : (b, o2) ∈ led) (hd : o1.data ≠ o2.data) : a ≠ b := by
  intro e; subst e
  have e1 := (N _ h1).1
  rw [(N _ h2).1] at e1
  exact hd (congrArg Obj.data (Option.some.inj e1)).symm
section
variable {h₀ h : Heap} {L : Addr} {news : Led} {q q1 q2 : Addr × Obj} {a : Addr} {names : List Str}
theorem TupStrs.up3 (W : TupStrs news a names) (_N : News h₀ L h (q :: q1 :: q2 :: news)) : TupStrs (q :: q1 :: q2 :: news) a names := W.mono fun _ hp => .tail _ (.tail _ (.tail _ hp))
end
theorem news_ne_cell {h₀ h : Heap} {L a b : Addr} {o2 : Obj} {its : Array Value} {n : Nat} {v : Option Value} {led : Led} (N : News h₀ L h ((a, ({ cls := .type "list", data := .seq its n } : Obj)) :: (b, o2) :: led)) (hd : o2.data = .cell v) : a ≠ b :=
  news_ne N (List.mem_cons_self ..) (List.mem_cons_of_mem _ (List.mem_cons_self ..)) (fun e => by rw [hd] at e; cases e)
section
variable {prog : Program} {w : World} {h₀ h : Heap} {L : Addr} {news led : Led} {wk : Nat} {ad : Cls → Addr} {H a : Addr} {names : List Str} {v : Value} {ty : Ty} {d : VD}
theorem Wld.upN (W : Wld prog w news wk ad H) (_N : News h₀ L h led) (sub : ∀ p ∈ news, p ∈ led) : Wld prog w led wk ad H := W.mono sub
theorem LstStrs.upN (W : LstStrs news a names) (_N : News h₀ L h led) (sub : ∀ p ∈ news, p ∈ led) : LstStrs led a names := W.mono sub
theorem TupStrs.upN (W : TupStrs news a names) (_N : News h₀ L h led) (sub : ∀ p ∈ news, p ∈ led) : TupStrs led a names := W.mono sub
theorem TyIs.upN (W : TyIs news v ty) (_N : News h₀ L h led) (sub : ∀ p ∈ news, p ∈ led) : TyIs led v ty := W.mono sub
theorem VIs.upN (W : VIs news ad v d) (_N : News h₀ L h led) (sub : ∀ p ∈ news, p ∈ led) : VIs led ad v d := W.mono sub
end
end
section
local macro_rules | `(tactic| walk_at "compareOp Is") => return parS [gdS (apS `compareOp [hoS, apN `optRef 2, hoS]), refineS (apS `opt_is [goS])]
local macro_rules | `(tactic| walk_at "binaryOp Add ref ref") => stopOut
def woName (name : Str) (c : Cls) : List Str :=
  if name == ("bool" : Str) then ["true", "false"]
  else if name == ("iterable" : Str) then ["array", "traversable"]
  else if name == ("self" : Str) then [c.key]
  else if name == ("parent" : Str) then [match c.parent with | some p => p.key | none => "parent"]
  else [Txt.lower name]
def writtenOut (names : List Str) (c : Cls) : List Str := (names.map fun n => woName n c).flatten
theorem wo_snoc (pre : List Str) (a : Str) (c : Cls) : writtenOut (pre ++ [a]) c = writtenOut pre c ++ woName a c := by simp [writtenOut]
theorem wo_name_len (a : Str) (c : Cls) : (woName a c).length ≤ 2 := by
  unfold woName
  repeat' split
  all_goals (simp only [List.length_cons, List.length_nil]; omega)
theorem wo_len (names : List Str) (c : Cls) : (writtenOut names c).length ≤ 2 * names.length := by
  induction names with
  | nil => exact Nat.le_refl _
  | cons n r ih =>
    have := wo_name_len n c
    have e : writtenOut (n :: r) c = woName n c ++ writtenOut r c := by simp [writtenOut]
    rw [e, List.length_append, List.length_cons]; omega
inductive WoRel (prog : Program) (w : World) (news : Led) : List Value → (Led → Value → Prop) → Prop where
  | mk (wk : Nat) (ad : Cls → Addr) (nb : Addr) (names : List Str) (c : Cls) : TupStrs news nb names → NamesOk names → names.length ≤ 1000 → Klasses news wk ad →
      WoRel prog w news [.ref nb, .ref (ad c)] (fun tl r => ∃ a vs n, tl = [(a, ({ cls := .type "list", data := .seq vs.toArray n } : Obj))] ∧ r = .ref a ∧ StrsAre vs (writtenOut names c))
theorem written_out_ct (prog : Program) (w : World) : Ct prog w 622 1 (WoRel prog w) := by
  (have hx : fillK PySem.Challenge.rw_pq0853_01 hd.heap_1 = fillK PySem.Challenge.rw_pq0853_01 hd.heap_1 := by k_fill; rfl)
  clear hx
  refine Ct.of fun news vs Post hR => ?_
  obtain ⟨wk, ad, nb, names, c, tn, oks, hlen, K⟩ := hR
  obtain ⟨dd, es, n, l, ln, t', h1, h2, h3, h4, h5, h6⟩ := K.kl c
  unfold CtB
  intro p loose mean mg mb dp un gd cn cs a ccd cl outer A₀ base h₀ L m s Q E B F X N T hk hd hu hret
  refine wpAny_call ?_
  k_dflt ktr_enter
  k_steps
  unfold Stop
  obtain ⟨vs, nn, t1, t2⟩ := id tn
  rename ∀ p ∈ news, p.1 < _ => hlt
  refine strs_acc (news := news) "found" (fun pre => writtenOut pre c) (by decide) (by rfl) (by assumption) (by assumption) t1 t2 (by rfl) (fun p hp => Nat.ne_of_lt (hlt p hp)) .nil ?_ ?_
  · intro pre a t r adr ws k q h tk e off1 off2 off3 S F2 N2
    have hmem : a ∈ names := by rw [e]; exact List.mem_append_right _ (List.mem_cons_self ..)
    have hok := oks.ok a hmem
    have hsz := hok.sz
    have hl2 : (writtenOut pre c).length ≤ 2000 := by
      have := wo_len pre c
      have h2 := congrArg List.length e
      rw [List.length_append, List.length_cons] at h2
      omega
    k_steps
    · unfold Stop
      have ew : woName a c = (["true", "false"] : List Str) := by simp only [woName, *, if_true, if_false, Bool.false_eq_true]
      refine add_strs2 (ys := ["true", "false"]) (by assumption) (by assumption) ⟨ws, k, by k_mem, S⟩ ⟨[_, _], 0, by k_mem, .cons _ _ (.cons _ _ .nil)⟩ (by rw [sizeLine_eq, List.length_cons, List.length_singleton]; omega) ?_
      intro D vs1 n1 hh1 F3 N3 S3 off3'
      k_steps
      unfold Stop
      refine acc_end (by assumption) (news_pick (by assumption)) off3 (off3' q (by k_mem)) (fun p hp => off3' p (.tail _ (.tail _ (.tail _ hp)))) (by rw [wo_snoc, ew]; exact S3) (by rfl) (fun y h1 h2 => by simp only [h1, h2, if_false])
    · unfold Stop
      have ew : woName a c = (["array", "traversable"] : List Str) := by simp only [woName, *, if_true, if_false, Bool.false_eq_true]
      refine add_strs2 (ys := ["array", "traversable"]) (by assumption) (by assumption) ⟨ws, k, by k_mem, S⟩ ⟨[_, _], 0, by k_mem, .cons _ _ (.cons _ _ .nil)⟩ (by rw [sizeLine_eq, List.length_cons, List.length_singleton]; omega) ?_
      intro D vs1 n1 hh1 F3 N3 S3 off3'
      k_steps
      unfold Stop
      refine acc_end (by assumption) (news_pick (by assumption)) off3 (off3' q (by k_mem)) (fun p hp => off3' p (.tail _ (.tail _ (.tail _ hp)))) (by rw [wo_snoc, ew]; exact S3) (by rfl) (fun y h1 h2 => by simp only [h1, h2, if_false])
    · unfold Stop
      have ew : woName a c = [c.key] := by simp only [woName, *, if_true, if_false, Bool.false_eq_true]
      refine append_strs (by assumption) (by assumption) off2 off1 S (by rw [sizeLine_eq]; omega) ?_
      intro hh1 ws1 k1 F3 N3 S3
      k_steps
      unfold Stop
      refine acc_end (by assumption) (by assumption) off3 off2 off1 (by rw [wo_snoc, ew]; exact S3) (by rfl) (fun y h1 h2 => by simp only [h1, h2, if_false])
    · with_reducible rename Option.isSome _ = true => hb
      cases hp : c.parent with
      | none => rw [hp] at hb; cases hb
      | some pc =>
        have e0 : optRef ad (some pc) = .ref (ad pc) := rfl
        rw [e0]
        obtain ⟨dd', es', n', l', ln', t'', k1, k2, k3, k4, k5, k6⟩ := K.kl pc
        k_steps
        unfold Stop
        have ew : woName a c = [pc.key] := by simp only [woName, *, if_true, if_false, Bool.false_eq_true]
        refine append_strs (by assumption) (by assumption) off2 off1 S (by rw [sizeLine_eq]; omega) ?_
        intro hh1 ws1 k1 F3 N3 S3
        k_steps
        unfold Stop
        refine acc_end (by assumption) (by assumption) off3 off2 off1 (by rw [wo_snoc, ew]; exact S3) (by rfl) (fun y h1 h2 => by simp only [h1, h2, if_false])
    · have hpn : c.parent = none := by with_reducible rename Option.isSome _ = false => hb; exact Option.isNone_iff_eq_none.mp (by simpa using hb)
      unfold Stop
      have ew : woName a c = (["parent"] : List Str) := by simp only [woName, *, if_true, if_false, Bool.false_eq_true]
      refine append_strs (by assumption) (by assumption) off2 off1 S (by rw [sizeLine_eq]; omega) ?_
      intro hh1 ws1 k1 F3 N3 S3
      k_steps
      unfold Stop
      refine acc_end (by assumption) (by assumption) off3 off2 off1 (by rw [wo_snoc, ew]; exact S3) (by rfl) (fun y h1 h2 => by simp only [h1, h2, if_false])
    · unfold Stop
      have ew : woName a c = [Txt.lower a] := by simp only [woName, *, if_true, if_false, Bool.false_eq_true]
      refine append_strs (by assumption) (by assumption) off2 off1 S (by rw [sizeLine_eq]; omega) ?_
      intro hh1 ws1 k1 F3 N3 S3
      k_steps
      unfold Stop
      refine acc_end (by assumption) (by assumption) off3 off2 off1 (by rw [wo_snoc, ew]; exact S3) (by rfl) (fun y h1 h2 => by simp only [h1, h2, if_false])
  · intro adr ws k u h tk S F2 N2
    k_steps
    exact hret _ [_] _ _ (by assumption) (by assumption) ⟨_, _, _, rfl, rfl, S⟩
end
local macro_rules | `(tactic| walk_at "call ref") => ctLine "615" .lst `law_above_ct tbS (relBy `LawAboveRel.mk 5 1)
section
local macro_rules | `(tactic| ktr_step) => do let a ← `(tactic| decide +kernel); let n ← scp "N'"; let y ← scp "Y'"; let ni : Lean.Ident := ⟨n⟩; let yi : Lean.Ident := ⟨y⟩; let c ← `(tactic| k_cells $yi:ident); let d ← `(tactic| try simp only [List.cons_append, List.nil_append] at $ni:ident); let l ← leafS `code_defC [assS, assS, assS, assS, assS, erflS, erflS, assS, isS, isS, room1, bindS, erflS, a, goS, erflS, erflS, erflS] [5, 6, 7, 0, 1, 2, 3, 4, 8, 9, 10, 11, 12, 13, 15, 16, 17]; return parS (l ++ [wholeS, ← introN ["g'", "L'", "h'", "tk'", "cells'", "FG'", "F'", "N'", "Y'", "B'", "X'", "T'", "l1"], c, d, dsimpS, foldS])
local macro_rules | `(tactic| walk_at "eval IfExp") => stopUncut
local macro_rules | `(tactic| walk_at "call builtin:any") => stopOut
local macro_rules | `(tactic| walk_at "call builtin:all") => stopOut
local macro_rules | `(tactic| tb_start) => `(tactic| first | assumption | exact news_drop1 (by assumption) | exact news_drop2 (by assumption) | exact news_drop3 (by assumption) | exact news_drop4 (by assumption) | exact news_drop5 (by assumption) | exact news_drop6 (by assumption) | exact news_drop7 (by assumption))
def lawKey (name : Str) (c : Cls) : Str := if name == ("static" : Str) then c.key else name
def lc1 (others : List Str) (key : Str) : Bool := hasN others "object" || (hasN others "callable" && key == ("closure" : Str))
def lawCovered (wk : Nat) (name : Str) (c : Cls) (others : List Str) : Bool :=
  if name == ("never" : Str) then true
  else if hasN others "mixed" then name != ("void" : Str)
  else if hasN others name then true
  else if ([("int" : Str), "string", "array", "object", "callable", "null", "true", "false", "mixed", "void"].any fun x => x == name) then false
  else if lc1 others (lawKey name c) then true
  else (lawAbove wk (lawKey name c)).any fun one => hasN others one
inductive LawCovRel (prog : Program) (w : World) (news : Led) : List Value → (Led → Value → Prop) → Prop where
  | mk (wk : Nat) (ad : Cls → Addr) (H no : Addr) (name : Str) (t : Tok) (c : Cls) (others : List Str) : LstStrs news no others → Wld prog w news wk ad H →
      LawCovRel prog w news [.ref H, .str name t, .ref (ad c), .ref no] (fun tl r => tl = [] ∧ r = .bool (lawCovered wk name c others))
theorem law_is_covered_ct (prog : Program) (w : World) : Ct prog w 627 3 (LawCovRel prog w) := by
  (have hx : fillK PySem.Challenge.rw_pq0853_01 hd.heap_1 = fillK PySem.Challenge.rw_pq0853_01 hd.heap_1 := by k_fill; rfl)
  clear hx
  refine Ct.of fun news vs Post hR => ?_
  obtain ⟨wk, ad, H, no, name, t, c, others, lo, W⟩ := hR
  obtain ⟨dd, es, n, l, ln, t', h1, h2, h3, h4, h5, h6⟩ := W.kls.kl c
  unfold CtB
  intro p loose mean mg mb dp un gd cn cs a ccd cl outer A₀ base h₀ L m s Q E B F X N T hk hd hu hret
  refine wpAny_call ?_
  k_dflt ktr_step
  with_reducible rename News _ _ _ _ => Nc
  have Lm := LedMark.of Nc
  have W1 := W.up Nc
  k_steps
  all_goals try exact hret _ [] _ _ (by assumption) (by tb_start) ⟨rfl, by simp only [lawCovered, hasN, *, if_true, if_false, Bool.false_eq_true]⟩
  unfold Stop
  refine cut_led Lm (Value.str (lawKey name c) (if name == ("static" : Str) then t' else t)) (by assumption) (by tb_start) ?_ ?_
  · intro cm
    k_steps
    all_goals exact .mk (by simp only [lawKey, *, if_true, if_false, Bool.false_eq_true]) (by assumption) (by tb_start)
  intro hh1 tk1 F1 N1
  k_steps
  unfold Stop
  refine cut_led Lm (lc1 others (lawKey name c)) (by assumption) (by tb_start) ?_ ?_
  · intro cm
    k_steps
    all_goals exact .mk (by simp only [lc1, hasN, *, Bool.true_or, Bool.false_or, Bool.true_and, Bool.false_and]) (by assumption) (by tb_start)
  intro hh2 tk2 F2 N2
  k_steps
  · exact hret _ [] _ _ (by assumption) (by tb_start) ⟨rfl, by simp only [lawCovered, hasN, *, if_true, if_false, Bool.false_eq_true]⟩
  unfold Stop
  with_reducible rename StrsAre _ (lawAbove _ _) => S9
  have hl9 := strs_len S9
  have hl8 := lawAbove_len wk (lawKey name c)
  refine LCg.CompSrc.ledger (by rfl) (by assumption) (by assumption) (by k_mem) (by rw [sizeLine_eq, List.size_toArray]; omega) ?_
  intro g
  refine comp_gen (fun i y => ∃ n, (lawAbove wk (lawKey name c))[i]? = some n ∧ y = Value.bool (hasN others n)) (Or.inr ⟨_, by k_mem, rfl, _, rfl⟩) ?_ ?_
  · intro i v q1 C oC q3 m₂ h tk E' hi hP hC hx F4 N4
    obtain ⟨nm, tt, e1, e2⟩ := strs_get S9 (i := i) (v := v) (by simpa using hP)
    subst e2
    k_steps
    exact .mk (by assumption) (by assumption) ⟨nm, e1, rfl⟩
  · intro ys hl hO
    have BY : LSm.BoolsAre ys ((lawAbove wk (lawKey name c)).map (hasN others)) := bools_of (by rw [hl, List.size_toArray, hl9]) hO
    unfold LCg.FinE
    intro D2 hh3 tk3 F5 N5 off5
    k_steps
    unfold Stop
    refine LSm.any_bools (by assumption) (by assumption) (by rfl) (News.isList (by assumption) (by k_mem)) BY ?_
    intro hh4 tk4 F6 N6
    k_steps
    refine hret _ [] _ _ (by assumption) (by tb_start) ⟨rfl, ?_⟩
    rw [any_map_id]
    simp only [lawCovered, hasN, *, if_true, if_false, Bool.false_eq_true]
    rfl
end
local macro_rules | `(tactic| walk_at "call ref") => do ctLine "407" .V `accepts_ct tbS (← relCase `AccRel.mk 9 [1, 0, 2, 3])
local macro_rules | `(tactic| walk_at "call ref") => do ctLine "622" .lst `written_out_ct tbS (← relCase `WoRel.mk 5 [0, 1, 2, 3])
local macro_rules | `(tactic| walk_at "call ref") => do ctLine "627" .V `law_is_covered_ct tbS (← relCase `LawCovRel.mk 8 [0, 1])
section
local macro_rules | `(tactic| ktr_step) => do let a ← `(tactic| decide +kernel); let n ← scp "N'"; let y ← scp "Y'"; let ni : Lean.Ident := ⟨n⟩; let yi : Lean.Ident := ⟨y⟩; let c ← `(tactic| k_cells $yi:ident); let d ← `(tactic| try simp only [List.cons_append, List.nil_append] at $ni:ident); let l ← leafS `code_defC [assS, assS, assS, assS, assS, erflS, erflS, assS, isS, isS, room1, bindS, erflS, a, goS, erflS, erflS, erflS] [5, 6, 7, 0, 1, 2, 3, 4, 8, 9, 10, 11, 12, 13, 15, 16, 17]; return parS (l ++ [wholeS, ← introN ["g'", "L'", "h'", "tk'", "cells'", "FG'", "F'", "N'", "Y'", "B'", "X'", "T'", "l1"], c, d, dsimpS, foldS])
local macro_rules | `(tactic| walk_at "eval IfExp") => stopUncut
local macro_rules | `(tactic| walk_at "call builtin:any") => stopOut
local macro_rules | `(tactic| walk_at "call builtin:all") => stopOut
local macro_rules | `(tactic| tb_start) => `(tactic| first | assumption | exact news_drop1 (by assumption) | exact news_drop2 (by assumption) | exact news_drop3 (by assumption) | exact news_drop4 (by assumption) | exact news_drop5 (by assumption) | exact news_drop6 (by assumption) | exact news_drop7 (by assumption))
local macro_rules | `(tactic| walk_at "storeName") => stopAt [gStore "others"]
def takesS (wk : Nat) (ty : Ty) (d : VD) (k st : Cls) : Bool := match ty with | none => true | some ns => accS wk ns d k st
inductive LawTakesRel (prog : Program) (w : World) (news : Led) : List Value → (Led → Value → Prop) → Prop where
  | mk (wk : Nat) (ad : Cls → Addr) (H : Addr) (vt : Value) (ty : Ty) (v : Value) (d : VD) (k st : Cls) : TyIs news vt ty → VIs news ad v d → Wld prog w news wk ad H →
      LawTakesRel prog w news [.ref H, vt, v, .ref (ad k), .ref (ad st)] (fun tl r => tl = [] ∧ r = .bool (takesS wk ty d k st))
theorem law_takes_ct (prog : Program) (w : World) : Ct prog w 639 7 (LawTakesRel prog w) := by
  (have hx : fillK PySem.Challenge.rw_pq0853_01 hd.heap_1 = fillK PySem.Challenge.rw_pq0853_01 hd.heap_1 := by k_fill; rfl)
  clear hx
  refine Ct.of fun news vs Post hR => ?_
  obtain ⟨wk, ad, H, vt, ty, v, d, k, st, ht, hv, W⟩ := hR
  unfold CtB
  intro p loose mean mg mb dp un gd cn cs a ccd cl outer A₀ base h₀ L m s Q E B F X N T hk hd hu hret
  refine wpAny_call ?_
  k_dflt ktr_enter
  cases ht with
  | none =>
    k_steps
    exact hret _ [] _ _ (by assumption) (by tb_start) ⟨rfl, rfl⟩
  | some a names tn oks =>
    k_steps
    exact hret _ [] _ _ (by assumption) (by tb_start) ⟨rfl, rfl⟩
def lawDue (wk : Nat) (sub : Ty) (k : Cls) (base : Ty) (bk : Cls) : Bool :=
  match base with
  | none => true
  | some b => match sub with | none => false | some s => (writtenOut s k).all fun n => lawCovered wk n k (writtenOut b bk)
/-- a type's names are few -/
def FewN : Ty → Prop
  | some ns => ns.length ≤ 1000
  | none => True
inductive LawDueRel (prog : Program) (w : World) (news : Led) : List Value → (Led → Value → Prop) → Prop where
  | mk (wk : Nat) (ad : Cls → Addr) (H : Addr) (v1 v2 : Value) (sub : Ty) (k : Cls) (base : Ty) (bk : Cls) : TyIs news v1 sub → TyIs news v2 base → FewN sub → FewN base → Wld prog w news wk ad H →
      LawDueRel prog w news [.ref H, v1, .ref (ad k), v2, .ref (ad bk)] (fun tl r => tl = [] ∧ r = .bool (lawDue wk sub k base bk))
theorem law_due_ct (prog : Program) (w : World) : Ct prog w 632 4 (LawDueRel prog w) := by
  refine Ct.of fun news vs Post hR => ?_
  obtain ⟨wk, ad, H, v1, v2, sub, k, bs, bk, hT1, hT2, f1, f2, W⟩ := hR
  unfold CtB
  intro p loose mean mg mb dp un gd cn cs a ccd cl outer A₀ base h₀ L m s Q E B F X N T hk hd hu hret
  refine wpAny_call ?_
  k_dflt ktr_step
  have cm : CutMark := ⟨⟩
  with_reducible rename News _ _ _ _ => Nc
  have W1 := W.up3 Nc
  have K1 := W1.kls
  cases hT2 with
  | none =>
    k_steps
    exact hret _ [] _ _ (by assumption) (by tb_start) ⟨rfl, rfl⟩
  | some b bn tb okb =>
    cases hT1 with
    | none =>
      k_steps
      exact hret _ [] _ _ (by assumption) (by tb_start) ⟨rfl, rfl⟩
    | some a1 sn ts oks =>
      have f1' : sn.length ≤ 1000 := f1
      have f2' : bn.length ≤ 1000 := f2
      have tb1 := tb.up3 Nc
      have ts1 := ts.up3 Nc
      k_steps
      unfold Stop
      with_reducible rename StrsAre _ (writtenOut _ _) => SO
      rename ∀ p ∈ news, p.1 < _ => hlt
      refine' storeX_C ?kF ?kN ?kc ?kU ?kd ?_
      case kF => assumption
      case kN => assumption
      case kc => rfl
      case kU =>
        refine .tail (news_ne_cell (by assumption) (by assumption)) (.head fun p hp => ?_)
        rcases List.mem_cons.mp hp with rfl | hp
        · k_ne
        · rcases List.mem_cons.mp hp with rfl | hp
          · k_ne
          · exact Nat.ne_of_lt (Nat.lt_trans (hlt p hp) (by omega))
      case kd => assumption
      intro hh1 o3 F3 N3 d3'
      have LO := lst_of N3 SO
      have W2 := W.upN N3 (fun p hp => by repeat (first | exact hp | apply List.mem_cons_of_mem))
      have ts2 := ts.upN N3 (fun p hp => by repeat (first | exact hp | apply List.mem_cons_of_mem))
      have K2 := W2.kls
      k_steps
      unfold Stop
      with_reducible rename StrsAre _ (writtenOut sn _) => SS
      have hlS := strs_len SS
      have hl8 := wo_len sn k
      refine LCg.CompSrc.ledger (by rfl) (by assumption) (by assumption) (by k_mem) (by rw [sizeLine_eq, List.size_toArray]; omega) ?_
      intro g
      refine comp_gen (fun i y => ∃ n, (writtenOut sn k)[i]? = some n ∧ y = Value.bool (lawCovered wk n k (writtenOut bn bk))) (Or.inr ⟨_, by k_mem, rfl, _, rfl⟩) ?_ ?_
      · intro i v q1 C oC q3 m₂ h tk E' hi hP hC hx F4 N4
        obtain ⟨nm, tt, e1, e2⟩ := strs_get SS (i := i) (v := v) (by simpa using hP)
        subst e2
        have W3 := W.upN N4 (fun p hp => by repeat (first | exact hp | apply List.mem_cons_of_mem))
        have LO3 := LO.upN N4 (fun p hp => by repeat (first | exact hp | apply List.mem_cons_of_mem))
        k_steps
        exact .mk (by assumption) (by assumption) ⟨nm, e1, rfl⟩
      · intro ys hl hO
        have BY : LSm.BoolsAre ys ((writtenOut sn k).map fun n => lawCovered wk n k (writtenOut bn bk)) := bools_of (by rw [hl, List.size_toArray, hlS]) hO
        unfold LCg.FinE
        intro D2 hh3 tk3 F5 N5 off5
        k_steps
        unfold Stop
        refine LSm.all_bools (by assumption) (by assumption) (by rfl) (News.isList (by assumption) (by k_mem)) BY ?_
        intro hh4 tk4 F6 N6
        k_steps
        refine hret _ [] _ _ (by assumption) (by tb_start) ⟨rfl, ?_⟩
        rw [all_map_id]
        rfl
end
local macro_rules | `(tactic| walk_at "no such key 15") => stopOut
local macro_rules | `(tactic| walk_at "no such key 16") => stopOut
local macro_rules | `(tactic| walk_at "no such key 17") => stopOut
local macro_rules | `(tactic| walk_at "no such key 18") => stopOut
local macro_rules | `(tactic| walk_at "no such key 19") => stopOut
section
def words20 : List Str := ["iterable", "object", "P0", "self", "callable", "CLOSURE", "bool", "true", "static", "array", "TRAVERSABLE", "parent", "p1", "ITERATOR", "false", "null", "int", "P2", "string", "Zed"]
def words23 : List Str := "void" :: "never" :: "mixed" :: words20
def wks : List Nat := [0, 1, 2, 3]
def ps : List Cls := [.p0, .p1, .p2]
theorem any_or {α : Type} (f g : α → Bool) (l : List α) : (l.any fun x => f x || g x) = (l.any f || l.any g) := by
  induction l with
  | nil => rfl
  | cons a l ih => simp only [List.any_cons, ih]; cases f a <;> cases g a <;> cases l.any f <;> cases l.any g <;> rfl
theorem any_false {α : Type} (l : List α) : (l.any fun _ => false) = false := by induction l <;> simp_all
theorem any_and_const {α : Type} (f : α → Bool) (c : Bool) (l : List α) : (l.any fun x => f x && c) = (l.any f && c) := by
  cases c
  · simp
  · simp
theorem any_swap {α β : Type} (f : α → β → Bool) (l : List α) (r : List β) : (l.any fun x => r.any fun y => f x y) = r.any fun y => l.any fun x => f x y := by
  induction l with
  | nil => simp
  | cons a l ih => simp only [List.any_cons, ih, any_or]
theorem ite_or (A X : Bool) {inst : Decidable (A = true)} : (@ite Bool (A = true) inst true X) = (A || X) := by
  cases A
  · rw [if_neg Bool.false_ne_true]; rfl
  · rw [if_pos rfl]; rfl
theorem any_flat {α β : Type} (f : α → List β) (p : β → Bool) (l : List α) : (l.map f).flatten.any p = l.any fun x => (f x).any p := by
  induction l with
  | nil => rfl
  | cons a l ih => simp [List.any_append, ih]
theorem all_flat {α β : Type} (f : α → List β) (p : β → Bool) (l : List α) : (l.map f).flatten.all p = l.all fun x => (f x).all p := by
  induction l with
  | nil => rfl
  | cons a l ih => simp [List.all_append, ih]
theorem any_on {α : Type} {f g : α → Bool} {l : List α} (h : ∀ x ∈ l, f x = g x) : l.any f = l.any g := by
  rw [Bool.eq_iff_iff, List.any_eq_true, List.any_eq_true]
  exact ⟨fun ⟨x, hx, e⟩ => ⟨x, hx, h x hx ▸ e⟩, fun ⟨x, hx, e⟩ => ⟨x, hx, (h x hx).symm ▸ e⟩⟩
theorem all_on {α : Type} {f g : α → Bool} {l : List α} (h : ∀ x ∈ l, f x = g x) : l.all f = l.all g := by
  rw [Bool.eq_iff_iff, List.all_eq_true, List.all_eq_true]
  exact ⟨fun e x hx => h x hx ▸ e x hx, fun e x hx => (h x hx).symm ▸ e x hx⟩
/-- what one name of a list covers, by the law -/
theorem law_cut (wk : Nat) (n : Str) (k : Cls) (os : List Str) (hn : (n == ("never" : Str)) = false) (hm : hasN os "mixed" = false) :
    lawCovered wk n k os = os.any fun o => lawCovered wk n k [o] := by
  have hs : ∀ o ∈ os, lawCovered wk n k [o] = (o == n || (if ([("int" : Str), "string", "array", "object", "callable", "null", "true", "false", "mixed", "void"].any fun x => x == n) then false else ((o == ("object" : Str) || (o == ("callable" : Str) && lawKey n k == ("closure" : Str))) || (lawAbove wk (lawKey n k)).any fun one => o == one))) := by
    intro o ho
    have ho' : (o == ("mixed" : Str)) = false := by
      rw [hasN, List.any_eq_false] at hm
      exact Bool.eq_false_iff.mpr (hm o ho)
    simp only [lawCovered, hn, hasN, lc1, List.any_cons, List.any_nil, Bool.or_false, ho', if_false, Bool.false_eq_true]
    cases (o == n) <;> simp only [Bool.false_eq_true, if_false, if_true, Bool.false_or, Bool.true_or]
    split <;> (try rfl)
    cases (o == ("object" : Str) || (o == ("callable" : Str) && lawKey n k == ("closure" : Str))) <;> simp
  rw [show (os.any fun o => lawCovered wk n k [o]) = os.any fun o => (o == n || (if ([("int" : Str), "string", "array", "object", "callable", "null", "true", "false", "mixed", "void"].any fun x => x == n) then false else ((o == ("object" : Str) || (o == ("callable" : Str) && lawKey n k == ("closure" : Str))) || (lawAbove wk (lawKey n k)).any fun one => o == one))) from by
    rw [Bool.eq_iff_iff, List.any_eq_true, List.any_eq_true]
    constructor
    · rintro ⟨o, ho, h⟩; exact ⟨o, ho, by rw [← hs o ho]; exact h⟩
    · rintro ⟨o, ho, h⟩; exact ⟨o, ho, by rw [hs o ho]; exact h⟩]
  simp only [lawCovered, hn, hm, if_false, Bool.false_eq_true]
  generalize ([("int" : Str), "string", "array", "object", "callable", "null", "true", "false", "mixed", "void"].any fun x => x == n) = c
  generalize lawKey n k = key
  generalize lawAbove wk key = ab
  rw [any_or]
  cases c
  · simp only [Bool.false_eq_true, if_false, any_or, any_and_const, any_swap (l := os), lc1, hasN]
    refine Eq.trans (ite_or _ _) ?_
    exact congrArg (fun z => os.any (fun x => x == n) || z) (ite_or _ _)
  · simp only [if_true, any_false, Bool.or_false, hasN]
    simp only [ite_or, Bool.or_false]
theorem name_cut (wk : Nat) (n : Str) (k : Cls) (b : List Str) (bk : Cls) (hn : (n == ("never" : Str)) = false) (h1 : (n == ("bool" : Str)) = false) (h2 : (n == ("iterable" : Str)) = false) (hm : hasN b "mixed" = false) :
    nameCovered wk n k b bk = b.any fun m => nameCovered wk n k [m] bk := by
  have hs : ∀ m ∈ b, nameCovered wk n k [m] bk = ((m == n && !([("self" : Str), "parent"].any fun x => x == n)) || (if ([("true" : Str), "false"].any fun x => x == n) then m == ("bool" : Str) else if n == ("array" : Str) then m == ("iterable" : Str) else if nc2 n then false else covOther wk (classBehind n (some k)).1 (classBehind n (some k)).2 bk m)) := by
    intro m ho
    have ho' : (m == ("mixed" : Str)) = false := by
      rw [hasN, List.any_eq_false] at hm
      exact Bool.eq_false_iff.mpr (hm m ho)
    simp only [nameCovered, hn, h1, h2, hasN, nc1, classCovered, List.any_cons, List.any_nil, Bool.or_false, ho', if_false, Bool.false_eq_true]
    exact ite_or _ _
  rw [show (b.any fun m => nameCovered wk n k [m] bk) = b.any fun m => ((m == n && !([("self" : Str), "parent"].any fun x => x == n)) || (if ([("true" : Str), "false"].any fun x => x == n) then m == ("bool" : Str) else if n == ("array" : Str) then m == ("iterable" : Str) else if nc2 n then false else covOther wk (classBehind n (some k)).1 (classBehind n (some k)).2 bk m)) from by
    rw [Bool.eq_iff_iff, List.any_eq_true, List.any_eq_true]
    constructor
    · rintro ⟨o, ho, h⟩; exact ⟨o, ho, by rw [← hs o ho]; exact h⟩
    · rintro ⟨o, ho, h⟩; exact ⟨o, ho, by rw [hs o ho]; exact h⟩]
  rw [any_or, any_and_const]
  have hm' : b.any (· == ("mixed" : Str)) = false := hm
  simp only [nameCovered, hn, h1, h2, hm', nc1, hasN, classCovered, if_false, Bool.false_eq_true]
  rw [ite_or]
  generalize (!([("self" : Str), "parent"].any fun x => x == n)) = c0
  generalize ([("true" : Str), "false"].any fun x => x == n) = c1
  generalize (n == ("array" : Str)) = c2
  generalize nc2 n = c3
  congr 1
  cases c1 <;> cases c2 <;> cases c3 <;> simp only [Bool.false_eq_true, if_false, if_true, any_false]
theorem d1_ok : (wks.all fun wk => ps.all fun k => ps.all fun bk => words23.all fun n => (n == ("bool" : Str) || n == ("iterable" : Str) || n == ("never" : Str)) || words20.all fun m => nameCovered wk n k [m] bk == (woName n k).all fun x => (woName m bk).any fun y => lawCovered wk x k [y]) = true := by decide +kernel
theorem d2_ok : (wks.all fun wk => ps.all fun k => ps.all fun bk => words23.all fun n => [("void" : Str), "never", "mixed"].all fun m => nameCovered wk n k [m] bk == (woName n k).all fun x => lawCovered wk x k (woName m bk)) = true := by decide +kernel
theorem d3_ok : (wks.all fun wk => ps.all fun k => ps.all fun bk => words20.all fun m =>
    ((woName m bk).any fun y => lawCovered wk "true" k [y]) == (m == ("true" : Str) || m == ("bool" : Str)) &&
    ((woName m bk).any fun y => lawCovered wk "false" k [y]) == (m == ("false" : Str) || m == ("bool" : Str)) &&
    ((woName m bk).any fun y => lawCovered wk "array" k [y]) == (m == ("array" : Str) || m == ("iterable" : Str)) &&
    ((woName m bk).any fun y => lawCovered wk "traversable" k [y]) == (covOther wk (classBehind "Traversable" none).1 (classBehind "Traversable" none).2 bk m || m == ("iterable" : Str))) = true := by decide +kernel
theorem d4_ok : (words23.all fun n => ps.all fun k => (n == ("bool" : Str) || n == ("iterable" : Str)) || (woName n k).length == 1 && (woName n k).all fun x => (x == ("never" : Str)) == (n == ("never" : Str))) = true := by decide +kernel
theorem d5_ok : (words20.all fun m => ps.all fun k => (woName m k).all fun y => (y == ("mixed" : Str)) == false) = true := by decide +kernel
theorem d6_ok : (words20.all fun m => (m == ("mixed" : Str)) == false) = true := by decide +kernel
theorem get2 {p : Nat → Cls → Bool} (h : (wks.all fun wk => ps.all fun k => p wk k) = true) {wk : Nat} (hw : wk ∈ wks) {k : Cls} (hk : k ∈ ps) : p wk k = true := List.all_eq_true.mp (List.all_eq_true.mp h wk hw) k hk
/-- the law's cover of a name by a list of names -/
theorem law_by {b : List Str} (hb : ∀ m ∈ b, m ∈ words20) {bk : Cls} (hbk : bk ∈ ps) (wk : Nat) (k : Cls) (x : Str) (hx : (x == ("never" : Str)) = false) :
    lawCovered wk x k (writtenOut b bk) = b.any fun m => (woName m bk).any fun y => lawCovered wk x k [y] := by
  rw [law_cut wk x k _ hx, writtenOut, any_flat]
  rw [hasN, writtenOut, any_flat, List.any_eq_false]
  intro m hm
  have h := List.all_eq_true.mp (List.all_eq_true.mp d5_ok m (hb m hm)) bk hbk
  rw [Bool.not_eq_true, List.any_eq_false]
  intro y hy
  have := List.all_eq_true.mp h y hy
  rw [Bool.not_eq_true]
  exact beq_iff_eq.mp this
theorem no_mixed {b : List Str} (hb : ∀ m ∈ b, m ∈ words20) : hasN b "mixed" = false := by
  rw [hasN, List.any_eq_false]
  intro m hm
  rw [Bool.not_eq_true]
  exact beq_iff_eq.mp (List.all_eq_true.mp d6_ok m (hb m hm))
end
section
inductive Menu : Ty → Prop where
  | none : Menu none
  | void : Menu (some ["void"])
  | never : Menu (some ["never"])
  | mixed : Menu (some ["mixed"])
  | names (ns : List Str) : ns ≠ [] → ns.length ≤ 3 → (∀ n ∈ ns, n ∈ words20) → Menu (some ns)
theorem mem23 {n : Str} (h : n ∈ words20) : n ∈ words23 := .tail _ (.tail _ (.tail _ h))
theorem Menu.in23 {ns : List Str} (h : Menu (some ns)) : ∀ n ∈ ns, n ∈ words23 := by
  cases h with
  | void => intro n hn; rcases List.mem_singleton.mp hn; decide
  | never => intro n hn; rcases List.mem_singleton.mp hn; decide
  | mixed => intro n hn; rcases List.mem_singleton.mp hn; decide
  | names _ _ _ h => exact fun n hn => mem23 (h n hn)
/-- one name is covered just when all it is written out as is -/
theorem one_due {wk : Nat} (hw : wk ∈ wks) {k bk : Cls} (hk : k ∈ ps) (hbk : bk ∈ ps) {n : Str} (hn : n ∈ words23) {b : List Str} (hb : ∀ m ∈ b, m ∈ words20) :
    nameCovered wk n k b bk = (woName n k).all fun x => lawCovered wk x k (writtenOut b bk) := by
  have e3 : ∀ m ∈ b, _ := fun m hm => List.all_eq_true.mp (List.all_eq_true.mp (get2 d3_ok hw hk) bk hbk) m (hb m hm)
  have hm := no_mixed hb
  have hm' : (b.any (· == ("mixed" : Str))) = false := hm
  by_cases h1 : n = ("bool" : Str)
  · subst h1
    have w : woName "bool" k = [("true" : Str), "false"] := rfl
    rw [w]
    simp only [List.all_cons, List.all_nil, Bool.and_true]
    rw [law_by hb hbk wk k _ (by decide), law_by hb hbk wk k _ (by decide)]
    rw [any_on (f := fun m => (woName m bk).any fun y => lawCovered wk "true" k [y]) (g := fun m => m == ("true" : Str) || m == ("bool" : Str)) (fun m hm => by have := e3 m hm; simp only [Bool.and_eq_true, beq_iff_eq (α := Bool)] at this; exact this.1.1.1)]
    rw [any_on (f := fun m => (woName m bk).any fun y => lawCovered wk "false" k [y]) (g := fun m => m == ("false" : Str) || m == ("bool" : Str)) (fun m hm => by have := e3 m hm; simp only [Bool.and_eq_true, beq_iff_eq (α := Bool)] at this; exact this.1.1.2)]
    rw [any_or, any_or]
    have w : nameCovered wk "bool" k b bk = (b.any (· == ("bool" : Str)) || (b.any (· == ("true" : Str)) && b.any (· == ("false" : Str)))) := by
      have a1 : (("bool" : Str) == ("never" : Str)) = false := by decide
      have a2 : ([("self" : Str), "parent"].any fun x => x == ("bool" : Str)) = false := by decide
      have a3 : ([("true" : Str), "false"].any fun x => x == ("bool" : Str)) = false := by decide
      have a4 : (("bool" : Str) == ("bool" : Str)) = true := by decide
      simp only [nameCovered, a1, a2, a3, a4, hm', nc1, hasN, Bool.false_eq_true, if_false, if_true, Bool.not_false, Bool.and_true]
      exact ite_or _ _
    rw [w]
    generalize b.any (· == ("bool" : Str)) = x1
    generalize b.any (· == ("true" : Str)) = x2
    generalize b.any (· == ("false" : Str)) = x3
    revert x1 x2 x3; decide
  · by_cases h2 : n = ("iterable" : Str)
    · subst h2
      have w : woName "iterable" k = [("array" : Str), "traversable"] := rfl
      rw [w]
      simp only [List.all_cons, List.all_nil, Bool.and_true]
      rw [law_by hb hbk wk k _ (by decide), law_by hb hbk wk k _ (by decide)]
      rw [any_on (f := fun m => (woName m bk).any fun y => lawCovered wk "array" k [y]) (g := fun m => m == ("array" : Str) || m == ("iterable" : Str)) (fun m hm => by have := e3 m hm; simp only [Bool.and_eq_true, beq_iff_eq (α := Bool)] at this; exact this.1.2)]
      rw [any_on (f := fun m => (woName m bk).any fun y => lawCovered wk "traversable" k [y]) (g := fun m => covOther wk (classBehind "Traversable" none).1 (classBehind "Traversable" none).2 bk m || m == ("iterable" : Str)) (fun m hm => by have := e3 m hm; simp only [Bool.and_eq_true, beq_iff_eq (α := Bool)] at this; exact this.2)]
      rw [any_or, any_or]
      have w : nameCovered wk "iterable" k b bk = (b.any (· == ("iterable" : Str)) || (b.any (· == ("array" : Str)) && b.any (covOther wk (classBehind "Traversable" none).1 (classBehind "Traversable" none).2 bk))) := by
        have a1 : (("iterable" : Str) == ("never" : Str)) = false := by decide
        have a2 : ([("self" : Str), "parent"].any fun x => x == ("iterable" : Str)) = false := by decide
        have a3 : ([("true" : Str), "false"].any fun x => x == ("iterable" : Str)) = false := by decide
        have a4 : (("iterable" : Str) == ("bool" : Str)) = false := by decide
        have a5 : (("iterable" : Str) == ("array" : Str)) = false := by decide
        have a6 : (("iterable" : Str) == ("iterable" : Str)) = true := by decide
        simp only [nameCovered, a1, a2, a3, a4, a5, a6, hm', nc1, hasN, classCovered, Bool.false_eq_true, if_false, if_true, Bool.not_false, Bool.and_true]
        exact ite_or _ _
      rw [w]
      generalize b.any (· == ("iterable" : Str)) = x1
      generalize b.any (· == ("array" : Str)) = x2
      generalize b.any (covOther _ _ _ _) = x3
      revert x1 x2 x3; decide
    · have h1' : (n == ("bool" : Str)) = false := beq_eq_false_iff_ne.mpr h1
      have h2' : (n == ("iterable" : Str)) = false := beq_eq_false_iff_ne.mpr h2
      have h4 := List.all_eq_true.mp (List.all_eq_true.mp d4_ok n hn) k hk
      rw [h1', h2', Bool.false_or, Bool.false_or, Bool.and_eq_true, beq_iff_eq] at h4
      obtain ⟨x, hx⟩ := List.length_eq_one_iff.mp h4.1
      rw [hx] at h4 ⊢
      have h5 : (x == ("never" : Str)) = (n == ("never" : Str)) := by simpa using h4.2
      simp only [List.all_cons, List.all_nil, Bool.and_true]
      cases h3 : (n == ("never" : Str)) with
      | true => simp only [nameCovered, lawCovered, h3, h5, if_true]
      | false =>
        rw [name_cut wk n k b bk h3 h1' h2' hm, law_by hb hbk wk k x (h5.trans h3)]
        refine any_on fun m hm => ?_
        have h6 := List.all_eq_true.mp (List.all_eq_true.mp (get2 d1_ok hw hk) bk hbk) n hn
        rw [h1', h2', h3, Bool.false_or, Bool.false_or, Bool.false_or] at h6
        have h7 := List.all_eq_true.mp h6 m (hb m hm)
        rw [hx] at h7
        simpa using h7
/-- the code's answer is the law's -/
theorem sub_due {wk : Nat} (hw : wk ∈ wks) {k bk : Cls} (hk : k ∈ ps) (hbk : bk ∈ ps) {s b : Ty} (hs : Menu s) (hb : Menu b) : isSubtype wk s k b bk = lawDue wk s k b bk := by
  cases b with
  | none => rfl
  | some b =>
    cases s with
    | none => rfl
    | some s =>
      show (s.all fun n => nameCovered wk n k b bk) = (writtenOut s k).all fun n => lawCovered wk n k (writtenOut b bk)
      rw [writtenOut, all_flat]
      refine all_on fun n hn => ?_
      have hn := hs.in23 n hn
      have h2 := List.all_eq_true.mp (List.all_eq_true.mp (get2 d2_ok hw hk) bk hbk) n hn
      cases hb with
      | void => have h3 := List.all_eq_true.mp h2 "void" (by decide); rw [show writtenOut ["void"] bk = woName "void" bk from by simp [writtenOut]]; exact beq_iff_eq.mp h3
      | never => have h3 := List.all_eq_true.mp h2 "never" (by decide); rw [show writtenOut ["never"] bk = woName "never" bk from by simp [writtenOut]]; exact beq_iff_eq.mp h3
      | mixed => have h3 := List.all_eq_true.mp h2 "mixed" (by decide); rw [show writtenOut ["mixed"] bk = woName "mixed" bk from by simp [writtenOut]]; exact beq_iff_eq.mp h3
      | names _ _ _ hb => exact one_due hw hk hbk hn hb
end
section
def vds : List VD := [.none, .bool true, .bool false, .int, .str "x", .arr, .obj .p0, .obj .p1, .obj .p2, .obj .walk, .obj .clo, .obj .oth]
def below : Cls → Cls → Bool
  | .p2, _ => true | .p1, .p1 => true | .p1, .p0 => true | .p0, .p0 => true | _, _ => false
def atoms : List Str := ["traversable", "object", "p0", "p1", "p2", "callable", "closure", "true", "false", "static", "array", "parent", "iterator", "null", "int", "string", "zed", "void", "never", "mixed"]
def accA (wk : Nat) (x : Str) (d : VD) (st : Cls) : Bool := x != ("parent" : Str) && accName wk x d .p0 st
theorem t1_ok : (wks.all fun wk => ps.all fun k => ps.all fun st => vds.all fun d => words23.all fun n => accName wk n d k st == (woName n k).any fun x => accA wk x d st) = true := by decide +kernel
theorem t2_ok : (ps.all fun k => words23.all fun n => (woName n k).all fun x => atoms.any (· == x)) = true := by decide +kernel
theorem t3_ok : (wks.all fun wk => ps.all fun k => atoms.all fun x => atoms.all fun y => !(lawCovered wk x k [y]) || ps.all fun st => !(below st k) || vds.all fun d => !(accA wk x d st) || accA wk y d st) = true := by decide +kernel
theorem t4_ok : (wks.all fun wk => ps.all fun k => atoms.all fun x => atoms.all fun y => !(lawCovered wk x k [y]) || ps.all fun k1 => !(below k k1) || atoms.all fun z => !(lawCovered wk y k1 [z]) || lawCovered wk x k [z]) = true := by decide +kernel
theorem t5_ok : (wks.all fun wk => ps.all fun k => [("void" : Str), "never", "mixed"].all fun m => nameCovered wk m k [m] k) = true := by decide +kernel
theorem t6_ok : (wks.all fun wk => ps.all fun k => atoms.all fun x => x == ("never" : Str) || !(lawCovered wk x k ["never"])) = true := by decide +kernel
theorem t7_ok : (wks.all fun wk => ps.all fun st => vds.all fun d => !(accA wk "never" d st)) = true := by decide +kernel
theorem t8_ok : (ps.all fun k => woName "void" k == [("void" : Str)] && woName "never" k == [("never" : Str)] && woName "mixed" k == [("mixed" : Str)]) = true := by decide +kernel
theorem t9_ok : (wks.all fun wk => ps.all fun k => atoms.all fun y => lawCovered wk y k [y]) = true := by decide +kernel
theorem wo_single {m : Str} {k : Cls} (h : woName m k = [m]) : writtenOut [m] k = [m] := by simp [writtenOut, h]
theorem in_atoms {s : List Str} (hs : Menu (some s)) {k : Cls} (hk : k ∈ ps) {x : Str} (hx : x ∈ writtenOut s k) : x ∈ atoms := by
  rw [writtenOut, List.mem_flatten] at hx
  obtain ⟨l, hl, hx⟩ := hx
  obtain ⟨n, hn, rfl⟩ := List.mem_map.mp hl
  have h := List.all_eq_true.mp (List.all_eq_true.mp (List.all_eq_true.mp t2_ok k hk) n (hs.in23 n hn)) x hx
  obtain ⟨y, hy, e⟩ := List.any_eq_true.mp h
  exact beq_iff_eq.mp e ▸ hy
theorem cov_one {b : List Str} (hb : Menu (some b)) {bk : Cls} (hbk : bk ∈ ps) (wk : Nat) (k : Cls) (x : Str) (hx : (x == ("never" : Str)) = false) :
    lawCovered wk x k (writtenOut b bk) = (writtenOut b bk).any fun y => lawCovered wk x k [y] := by
  have h8 := List.all_eq_true.mp t8_ok bk hbk
  simp only [Bool.and_eq_true, beq_iff_eq] at h8
  cases hb with
  | void => rw [wo_single h8.1.1]; simp
  | never => rw [wo_single h8.1.2]; simp
  | mixed => rw [wo_single h8.2]; simp
  | names _ _ _ hb => rw [law_by hb hbk wk k x hx, writtenOut, any_flat]
theorem never_cov (wk : Nat) (k : Cls) (os : List Str) : lawCovered wk "never" k os = true := by simp [lawCovered]
theorem refl {wk : Nat} (hw : wk ∈ wks) {k : Cls} (hk : k ∈ ps) {t : Ty} (ht : Menu t) : isSubtype wk t k t k = true := by
  have h5 := get2 t5_ok hw hk
  cases ht with
  | none => rfl
  | void => show (List.all [_] _) = true; rw [List.all_cons, List.all_nil, Bool.and_true]; exact List.all_eq_true.mp h5 "void" (by decide)
  | never => show (List.all [_] _) = true; rw [List.all_cons, List.all_nil, Bool.and_true]; exact List.all_eq_true.mp h5 "never" (by decide)
  | mixed => show (List.all [_] _) = true; rw [List.all_cons, List.all_nil, Bool.and_true]; exact List.all_eq_true.mp h5 "mixed" (by decide)
  | names s h1 h2 h3 =>
    rw [sub_due hw hk hk (.names s h1 h2 h3) (.names s h1 h2 h3)]
    refine List.all_eq_true.mpr fun x hx => ?_
    by_cases hn : x = ("never" : Str)
    · subst hn; exact never_cov _ _ _
    · have hn' : (x == ("never" : Str)) = false := beq_eq_false_iff_ne.mpr hn
      rw [cov_one (.names s h1 h2 h3) hk wk k x hn']
      refine List.any_eq_true.mpr ⟨x, hx, ?_⟩
      exact List.all_eq_true.mp (get2 t9_ok hw hk) x (in_atoms (.names s h1 h2 h3) hk hx)
theorem trans {wk : Nat} (hw : wk ∈ wks) {k0 k1 k2 : Cls} (hk0 : k0 ∈ ps) (hk1 : k1 ∈ ps) (hk2 : k2 ∈ ps) (hb : below k0 k1 = true) {s0 s1 s2 : Ty} (m0 : Menu s0) (m1 : Menu s1) (m2 : Menu s2)
    (h01 : lawDue wk s0 k0 s1 k1 = true) (h12 : lawDue wk s1 k1 s2 k2 = true) : lawDue wk s0 k0 s2 k2 = true := by
  cases s2 with
  | none => rfl
  | some c =>
    cases s1 with
    | none => cases h12
    | some b =>
      cases s0 with
      | none => cases h01
      | some a =>
        refine List.all_eq_true.mpr fun x hx => ?_
        by_cases hn : x = ("never" : Str)
        · subst hn; exact never_cov _ _ _
        · have hn' : (x == ("never" : Str)) = false := beq_eq_false_iff_ne.mpr hn
          have h1 := List.all_eq_true.mp h01 x hx
          rw [cov_one m1 hk1 wk k0 x hn'] at h1
          obtain ⟨y, hy, e1⟩ := List.any_eq_true.mp h1
          have ax := in_atoms m0 hk0 hx
          have ay := in_atoms m1 hk1 hy
          by_cases hv : y = ("never" : Str)
          · subst hv
            have h6 := List.all_eq_true.mp (get2 t6_ok hw hk0) x ax
            rw [hn', e1] at h6
            cases h6
          · have hv' : (y == ("never" : Str)) = false := beq_eq_false_iff_ne.mpr hv
            have h2 := List.all_eq_true.mp h12 y hy
            rw [cov_one m2 hk2 wk k1 y hv'] at h2
            obtain ⟨z, hz, e2⟩ := List.any_eq_true.mp h2
            have az := in_atoms m2 hk2 hz
            have h4 := List.all_eq_true.mp (List.all_eq_true.mp (get2 t4_ok hw hk0) x ax) y ay
            rw [e1, Bool.not_true, Bool.false_or] at h4
            have h4 := List.all_eq_true.mp h4 k1 hk1
            rw [hb, Bool.not_true, Bool.false_or] at h4
            have h4 := List.all_eq_true.mp h4 z az
            rw [e2, Bool.not_true, Bool.false_or] at h4
            rw [cov_one m2 hk2 wk k0 x hn']
            exact List.any_eq_true.mpr ⟨z, hz, h4⟩
theorem sound {wk : Nat} (hw : wk ∈ wks) {k0 k1 st : Cls} (hk0 : k0 ∈ ps) (hk1 : k1 ∈ ps) (hst : st ∈ ps) (hb : below st k0 = true) {s0 s1 : Ty} (m0 : Menu s0) (m1 : Menu s1) {d : VD} (hd : d ∈ vds)
    (h01 : lawDue wk s0 k0 s1 k1 = true) (ht : takesS wk s0 d k0 st = true) : takesS wk s1 d k1 st = true := by
  cases s1 with
  | none => rfl
  | some b =>
    cases s0 with
    | none => cases h01
    | some a =>
      obtain ⟨n, hn, e0⟩ := List.any_eq_true.mp (show (a.any fun n => accName wk n d k0 st) = true from ht)
      have h1 := List.all_eq_true.mp (List.all_eq_true.mp (List.all_eq_true.mp (get2 t1_ok hw hk0) st hst) d hd) n (m0.in23 n hn)
      rw [e0, beq_iff_eq] at h1
      obtain ⟨x, hx, e1⟩ := List.any_eq_true.mp h1.symm
      have hx' : x ∈ writtenOut a k0 := List.mem_flatten.mpr ⟨_, List.mem_map.mpr ⟨n, hn, rfl⟩, hx⟩
      have h2 := List.all_eq_true.mp h01 x hx'
      by_cases hv : x = ("never" : Str)
      · subst hv
        have h7 := List.all_eq_true.mp (get2 t7_ok hw hst) d hd
        rw [e1] at h7
        cases h7
      · have hv' : (x == ("never" : Str)) = false := beq_eq_false_iff_ne.mpr hv
        rw [cov_one m1 hk1 wk k0 x hv'] at h2
        obtain ⟨y, hy, e2⟩ := List.any_eq_true.mp h2
        have h3 := List.all_eq_true.mp (List.all_eq_true.mp (get2 t3_ok hw hk0) x (in_atoms m0 hk0 hx')) y (in_atoms m1 hk1 hy)
        rw [e2, Bool.not_true, Bool.false_or] at h3
        have h3 := List.all_eq_true.mp h3 st hst
        rw [hb, Bool.not_true, Bool.false_or] at h3
        have h3 := List.all_eq_true.mp h3 d hd
        rw [e1, Bool.not_true, Bool.false_or] at h3
        obtain ⟨l, hl, hy⟩ := List.mem_flatten.mp hy
        obtain ⟨m, hm, rfl⟩ := List.mem_map.mp hl
        have h4 := List.all_eq_true.mp (List.all_eq_true.mp (List.all_eq_true.mp (get2 t1_ok hw hk1) st hst) d hd) m (m1.in23 m hm)
        have h5 : ((woName m k1).any fun x => accA wk x d st) = true := List.any_eq_true.mpr ⟨y, hy, h3⟩
        rw [h5, beq_iff_eq] at h4
        exact List.any_eq_true.mpr ⟨m, hm, h4⟩
end
section
/-- a contract of a def that may turn what stands: what stands behind it is news' -/
def CtM (prog : Program) (w : World) (f : Addr) (sz : Nat) (Rel : Led → List Value → (Led → Value → Prop) → Prop) : Prop :=
  ∀ (p : Program) (loose : List Str) (mean : ExcName → Option Value) (mg mb : Str → Option Value) (dp un : Nat) (gd : Option (List Code)) (cn : Str) (cs : Scope) (a : Addr) (ccd : Value) (cl : List (Str × Addr)) (outer : List Env) (A₀ : Around) (base h₀ : Heap) (L : Addr) (m : Str → Option Value) (news : Led) (s : Shared) (vs : List Value) (Post : Led → Value → Prop)
    (Q E : Value → Shared → Prop),
    Below A₀ base outer h₀ → Fr h₀ L s.heap m → (hd.heap_1 w.params).In h₀ → News h₀ L s.heap news → Top p loose mean mg mb h₀ → cs.kind = .function → Rel news vs Post → dp + sz < recursionLimit → un + 8 * sz < cLine →
    (∀ r news' h' tk', Fr h₀ L h' m → News h₀ L h' news' → Post news' r → Q r { s with heap := h', toks := tk' }) →
    wpAny (model prog w) (ktrTop dp un gd cn cs L a ccd cl outer) (call (.ref f) vs) Q E s
theorem CtM.use {prog : Program} {w : World} {f : Addr} {sz : Nat} {Rel : Led → List Value → (Led → Value → Prop) → Prop} (C : CtM prog w f sz Rel)
    {p : Program} {loose : List Str} {mean : ExcName → Option Value} {mg mb : Str → Option Value} {dp un : Nat} {gd : Option (List Code)} {cn : Str} {cs : Scope} {a : Addr} {ccd : Value} {cl : List (Str × Addr)} {outer : List Env} {A₀ : Around} {base h₀ : Heap} {L : Addr} {m : Str → Option Value} {news : Led} {s : Shared} {vs : List Value} {Post : Led → Value → Prop}
    {Q E : Value → Shared → Prop} (B : Below A₀ base outer h₀) (F : Fr h₀ L s.heap m) (X : (hd.heap_1 w.params).In h₀) (N : News h₀ L s.heap news) (T : Top p loose mean mg mb h₀) (hk : cs.kind = .function) (R : Rel news vs Post)
    (hd : dp + sz < recursionLimit) (hu : un + 8 * sz < cLine)
    (ret : ∀ r news' h' tk', Fr h₀ L h' m → News h₀ L h' news' → Post news' r → Q r { s with heap := h', toks := tk' }) :
    wpAny (model prog w) (ktrTop dp un gd cn cs L a ccd cl outer) (call (.ref f) vs) Q E s := C _ _ _ _ _ _ _ _ _ _ _ _ _ _ _ _ _ _ _ _ _ _ _ _ _ B F X N T hk R hd hu ret
/-- such a contract's body, once what is asked stands -/
def CtMB (prog : Program) (w : World) (f : Addr) (sz : Nat) (news : Led) (vs : List Value) (Post : Led → Value → Prop) : Prop :=
  ∀ (p : Program) (loose : List Str) (mean : ExcName → Option Value) (mg mb : Str → Option Value) (dp un : Nat) (gd : Option (List Code)) (cn : Str) (cs : Scope) (a : Addr) (ccd : Value) (cl : List (Str × Addr)) (outer : List Env) (A₀ : Around) (base h₀ : Heap) (L : Addr) (m : Str → Option Value) (s : Shared)
    (Q E : Value → Shared → Prop),
    Below A₀ base outer h₀ → Fr h₀ L s.heap m → (hd.heap_1 w.params).In h₀ → News h₀ L s.heap news → Top p loose mean mg mb h₀ → cs.kind = .function → dp + sz < recursionLimit → un + 8 * sz < cLine →
    (∀ r news' h' tk', Fr h₀ L h' m → News h₀ L h' news' → Post news' r → Q r { s with heap := h', toks := tk' }) →
    wpAny (model prog w) (ktrTop dp un gd cn cs L a ccd cl outer) (call (.ref f) vs) Q E s
theorem CtM.of {prog : Program} {w : World} {f : Addr} {sz : Nat} {Rel : Led → List Value → (Led → Value → Prop) → Prop} (h : ∀ news vs Post, Rel news vs Post → CtMB prog w f sz news vs Post) : CtM prog w f sz Rel :=
  fun p loose mean mg mb dp un gd cn cs a ccd cl outer A₀ base h₀ L m news s vs Post Q E B F X N T hk R hd hu ret => h news vs Post R p loose mean mg mb dp un gd cn cs a ccd cl outer A₀ base h₀ L m s Q E B F X N T hk hd hu ret
/-- all but what lies at C stands -/
def Keeps (C : Addr) (news news' : Led) : Prop := ∀ p ∈ news, p.1 ≠ C → p ∈ news'
theorem Keeps.of {C : Addr} {news news' : Led} (h : ∀ p ∈ news, p ∈ news') : Keeps C news news' := fun p hp _ => h p hp
theorem Keeps.trans {C : Addr} {a b c : Led} (h1 : Keeps C a b) (h2 : Keeps C b c) : Keeps C a c := fun p hp hn => h2 p (h1 p hp hn) hn
/-! ## what a store makes of an object's dict -/
theorem getL_put_same {name : Str} {hsh : Int} {t : Tok} {v : Value} : ∀ es : List DictEntry, getL name (putL name hsh (.str name t) v es) = some (some v)
  | [] => by simp [putL, getL, Value.isStr]
  | e :: r => by
    have ih := getL_put_same (name := name) (hsh := hsh) (t := t) (v := v) r
    unfold putL
    cases h : e.key.isStr name with
    | true => simp [getL, h]
    | false =>
      simp only [Bool.false_eq_true, if_false]
      unfold getL at ih ⊢
      simp only [List.find?_cons, h]
      revert ih
      cases hf : List.find? (fun x => x.key.isStr name) (putL name hsh (.str name t) v r) with
      | some e' => exact fun h => h
      | none =>
        dsimp only
        intro ih
        split at ih <;> cases ih
theorem putL_any {name : Str} {hsh : Int} {t : Tok} {v : Value} : ∀ es : List DictEntry, (putL name hsh (.str name t) v es).any (·.refKey) = es.any (·.refKey)
  | [] => rfl
  | e :: r => by
    have ih := putL_any (name := name) (hsh := hsh) (t := t) (v := v) r
    unfold putL
    cases h : e.key.isStr name with
    | true => rfl
    | false => simp only [Bool.false_eq_true, if_false, List.any_cons, ih]
theorem putL_find_ne {k name : Str} {hsh : Int} {t : Tok} {v : Value} (hn : k ≠ name) : ∀ es : List DictEntry,
    ((putL name hsh (.str name t) v es).find? (fun x => x.key.isStr k)).map (·.val) = (es.find? (fun x => x.key.isStr k)).map (·.val)
  | [] => by
    have : (Value.str name t).isStr k = false := by
      cases hb : (Value.str name t).isStr k with
      | false => rfl
      | true => exact absurd (Value.isStr_inj _ k name hb (by simp [Value.isStr])) hn
    simp [putL, this]
  | e :: r => by
    have ih := putL_find_ne (hsh := hsh) (t := t) (v := v) hn r
    unfold putL
    cases h : e.key.isStr name with
    | true =>
      have : e.key.isStr k = false := by
        cases hb : e.key.isStr k with
        | false => rfl
        | true => exact absurd (Value.isStr_inj _ k name hb h) hn
      simp only [if_true, List.find?_cons, this]
    | false =>
      simp only [Bool.false_eq_true, if_false, List.find?_cons]
      cases e.key.isStr k with
      | true => rfl
      | false => exact ih
theorem getL_put_ne {k name : Str} {hsh : Int} {t : Tok} {v : Value} (hn : k ≠ name) (es : List DictEntry) : getL k (putL name hsh (.str name t) v es) = getL k es := by
  have h1 := putL_find_ne (hsh := hsh) (t := t) (v := v) hn es
  have h2 := putL_any (name := name) (hsh := hsh) (t := t) (v := v) es
  unfold getL
  revert h1
  cases (putL name hsh (.str name t) v es).find? (fun x => x.key.isStr k) with
  | some e1 =>
    cases es.find? (fun x => x.key.isStr k) with
    | some e2 => intro h; simp only [Option.map_some, Option.some.injEq] at h; simp only [h]
    | none => intro h; cases h
  | none =>
    cases es.find? (fun x => x.key.isStr k) with
    | some e2 => intro h; cases h
    | none => intro _; simp only [h2]
theorem putL_len {name : Str} {hsh : Int} {k v : Value} : ∀ es : List DictEntry, (putL name hsh k v es).length ≤ es.length + 1
  | [] => Nat.le_refl _
  | e :: r => by
    have ih := putL_len (name := name) (hsh := hsh) (k := k) (v := v) r
    unfold putL
    split <;> simp only [List.length_cons] <;> omega
section
variable {prog : Program} {w : World} {A : Around} {E : Value → Shared → Prop} {s : Shared} {h₀ h : Heap} {L : Addr} {m : Str → Option Value} {news : Led}
/-- the ledger without what lies at d -/
def Led.off (news : Led) (d : Addr) : Led := news.filter fun p => p.1 != d
theorem Led.off_ne {news : Led} {d : Addr} : ∀ p ∈ Led.off news d, p.1 ≠ d := fun p hp => by
  have := (List.mem_filter.mp hp).2
  exact bne_iff_ne.mp this
theorem Led.off_keeps {news : Led} {d : Addr} : Keeps d news (Led.off news d) := fun p hp hn => List.mem_filter.mpr ⟨hp, bne_iff_ne.mpr hn⟩
theorem News.off {d : Addr} {o : Obj} (N : News h₀ L h news) (hd : (d, o) ∈ news) : News h₀ L h ((d, o) :: Led.off news d) := fun p hp => by
  rcases List.mem_cons.mp hp with rfl | hp
  · exact N _ hd
  · exact N _ (List.mem_filter.mp hp).1
theorem set_inst {K : Frag} {x d C : Addr} {es : List DictEntry} {n : Nat} {name : Str} {v : Value} {Q : Unit → Shared → Prop} (F : Fr h₀ L s.heap m) (X₀ : K.In h₀) (N : News h₀ L s.heap news)
    (hx : (x, instObj C d) ∈ news) (hd : (d, dictOf es n) ∈ news)
    (hs : findIn K (.ref C) "__setattr__" = some (some (.builtin "object.__setattr__"))) (hp : plainOver K C = true) (ht : takerIn K C name = some none) (hh : hasDictIn K C = true) (hl : (getL name es).isSome = true) (hz : es.length + 1 ≤ 1000)
    (h : ∀ h' es' n', Fr h₀ L h' m → News h₀ L h' ((d, dictOf es' n') :: Led.off news d) → es'.length ≤ es.length + 1 → getL name es' = some (some v) → (∀ k, k ≠ name → getL k es' = getL k es) → Q () { s with heap := h', toks := s.toks + 2 }) :
    wpAny (model prog w) A (setAttr (.ref x) name v) Q E s :=
  set_dict F X₀ (News.off N hd) (InstAt.of_news N hx hd) rfl hs hp ht hh hl rfl (.head Led.off_ne) (Nat.le_trans (putL_len es) hz) fun h' F' N' => h h' _ _ F' N' (putL_len es) (getL_put_same es) fun k hk => getL_put_ne hk es
theorem set_item_off {d : Addr} {o : Obj} {kvs : List (Str × Value)} {x : Str} {t : Tok} {v : Value} {Q : Unit → Shared → Prop} (F : Fr h₀ L s.heap m) (N : News h₀ L s.heap news) (hm : (d, o) ∈ news) (hd : o.IsDictOf (strKind prog w) kvs)
    (q : ∀ h' o', Fr h₀ L h' m → News h₀ L h' ((d, o') :: Led.off news d) → o'.IsDictOf (strKind prog w) (stored kvs x v) → Q () { s with heap := h', toks := s.toks + 1 })
    (hsz : kvs.length ≤ sizeLine) : wpAny (model prog w) A (setItem (.ref d) (.str x t) v) Q E s := by
  refine wpAny_setItem_pairs (hsz := hsz) (strKind_is _ _ _ _) (dict_of N hm hd) fun h' hmm hs => ?_
  obtain ⟨o', ho', hd'⟩ := Heap.dictOf_iff.mp hmm
  have z := N _ hm
  refine q h' o' (F.change hs z.2.1 z.2.2) ?_ hd'
  exact (News.off N hm).setHead Led.off_ne hs ho'
theorem append_off {D : Addr} {vs : List Value} {n : Nat} {x : Value} {Q : Value → Shared → Prop} (F : Fr h₀ L s.heap m) (N : News h₀ L s.heap news) (hm : (D, ({ cls := .type "list", data := .seq vs.toArray n } : Obj)) ∈ news) (hsz : vs.length ≤ sizeLine)
    (h : ∀ h', Fr h₀ L h' m → News h₀ L h' ((D, ({ cls := .type "list", data := .seq (vs ++ [x]).toArray (n + 1) } : Obj)) :: Led.off news D) → Q .none { s with heap := h' }) : wpAny (model prog w) A (call (.builtin "list.append") [.ref D, x]) Q E s := by
  refine append_K F (News.off N hm) (.head Led.off_ne) (fun h' F' N' => h h' F' ?_) (by rw [List.size_toArray]; exact hsz)
  have e : (vs.toArray.push x) = (vs ++ [x]).toArray := by simp
  rw [e] at N'
  exact N'
end
/-! ## the host and its classes while they are made -/
/-- a Klass object that does not lie at C -/
def KlassOff (news : Led) (C : Addr) (a : Addr) (key : Str) (pv : Value) (ifs : List Value) : Prop :=
  ∃ d es n l ln t, (a, instObj 580 d) ∈ news ∧ (d, dictOf es n) ∈ news ∧ getL "key" es = some (some (.str key t)) ∧ getL "parent" es = some (some pv) ∧ getL "interfaces" es = some (some (.ref l)) ∧
    (l, ({ cls := .type "list", data := .seq ifs.toArray ln } : Obj)) ∈ news ∧ a ≠ C ∧ d ≠ C ∧ l ≠ C
theorem KlassOff.keep {news news' : Led} {C a : Addr} {key : Str} {pv : Value} {ifs : List Value} (h : KlassOff news C a key pv ifs) (hs : Keeps C news news') : KlassOff news' C a key pv ifs := by
  obtain ⟨d, es, n, l, ln, t, h1, h2, h3, h4, h5, h6, h7, h8, h9⟩ := h
  exact ⟨d, es, n, l, ln, t, hs _ h1 h7, hs _ h2 h8, h3, h4, h5, hs _ h6 h9, h7, h8, h9⟩
theorem KlassOff.at {news : Led} {C a : Addr} {key : Str} {pv : Value} {ifs : List Value} (h : KlassOff news C a key pv ifs) : KlassAt news a key pv ifs := by
  obtain ⟨d, es, n, l, ln, t, h1, h2, h3, h4, h5, h6, h7, h8, h9⟩ := h
  exact ⟨d, es, n, l, ln, t, h1, h2, h3, h4, h5, h6⟩
/-- the host while its classes come to stand -/
def HostB (prog : Program) (w : World) (news : Led) (H T C : Addr) (kvs : List (Str × Value)) : Prop :=
  ∃ d es n oT oC, (H, instObj 559 d) ∈ news ∧ (d, dictOf es n) ∈ news ∧ getL "tools" es = some (some (.ref T)) ∧ getL "classes" es = some (some (.ref C)) ∧ getL "tool" es = some none ∧
    (T, oT) ∈ news ∧ oT.IsDictOf (strKind prog w) toolKvs ∧ (T == sysModules) = false ∧ (C, oC) ∈ news ∧ oC.IsDictOf (strKind prog w) kvs ∧ (C == sysModules) = false ∧ H ≠ C ∧ d ≠ C ∧ T ≠ C
theorem HostB.turn {prog : Program} {w : World} {news news' : Led} {H T C : Addr} {kvs kvs' : List (Str × Value)} (h : HostB prog w news H T C kvs) (hs : Keeps C news news') {oC : Obj} (hm : (C, oC) ∈ news') (hd : oC.IsDictOf (strKind prog w) kvs') : HostB prog w news' H T C kvs' := by
  obtain ⟨d, es, n, oT, oC', h1, h2, h3, h4, h5, h6, h7, h8, h9, h10, h11, h12, h13, h14⟩ := h
  exact ⟨d, es, n, oT, oC, hs _ h1 h12, hs _ h2 h13, h3, h4, h5, hs _ h6 h14, h7, h8, hm, hd, h11, h12, h13, h14⟩
theorem HostB.mono {prog : Program} {w : World} {news news' : Led} {H T C : Addr} {kvs : List (Str × Value)} (h : HostB prog w news H T C kvs) (hs : ∀ p ∈ news, p ∈ news') : HostB prog w news' H T C kvs := by
  obtain ⟨d, es, n, oT, oC', h1, h2, h3, h4, h5, h6, h7, h8, h9, h10, h11, h12, h13, h14⟩ := h
  exact ⟨d, es, n, oT, oC', hs _ h1, hs _ h2, h3, h4, h5, hs _ h6, h7, h8, hs _ h9, h10, h11, h12, h13, h14⟩
theorem HostB.at {prog : Program} {w : World} {news : Led} {H T C : Addr} {ad : Cls → Addr} (h : HostB prog w news H T C (clsKvs ad)) : HostAt prog w news ad H := by
  obtain ⟨d, es, n, oT, oC', h1, h2, h3, h4, h5, h6, h7, h8, h9, h10, h11, h12, h13, h14⟩ := h
  exact ⟨d, es, n, T, oT, C, oC', h1, h2, h3, h4, h5, h6, h7, h8, h9, h10, h11⟩
/-- the ledger's tail lies below d -/
structure TailLt (news : Led) (d : Addr) : Prop where
  lt : ∀ p ∈ news, p.1 < d
theorem TailLt.ne {news : Led} {d e : Addr} (h : TailLt news d) (he : @LE.le Nat _ d e) : ∀ p ∈ news, p.1 ≠ e := fun p hp => Nat.ne_of_lt (Nat.lt_of_lt_of_le (h.lt p hp) he)
structure TailNe (news : Led) (d : Addr) : Prop where
  ne : ∀ p ∈ news, p.1 ≠ d
theorem TailLt.tailNe {news : Led} {d : Addr} (h : TailLt news d) : TailNe news d := ⟨h.ne (Nat.le_refl _)⟩
/-- a store into an object at the ledger's front; what was made for it is forgotten -/
theorem set_front {prog : Program} {w : World} {A : Around} {E : Value → Shared → Prop} {s : Shared} {h₀ : Heap} {L : Addr} {m : Str → Option Value} {news news1 : Led} {K : Frag} {x d C : Addr} {es es' : List DictEntry} {n n' : Nat} {name : Str} {v : Value} {Q : Unit → Shared → Prop}
    (F : Fr h₀ L s.heap m) (X₀ : K.In h₀) (N : News h₀ L s.heap news1) (hx : (x, instObj C d) ∈ news1) (hd : (d, dictOf es n) ∈ news1) (T : TailNe news d) (hsub : ∀ p ∈ news, p ∈ news1) (hxd : x ≠ d)
    (hs : findIn K (.ref C) "__setattr__" = some (some (.builtin "object.__setattr__"))) (hp : plainOver K C = true) (ht : takerIn K C name = some none) (hh : hasDictIn K C = true) (hl : (getL name es).isSome = true)
    (e : (putL name (PyData.keyHash w.params name) (.str name (s.toks + 1)) v es, putN name es n) = (es', n')) (hz : es'.length ≤ 1000)
    (h : ∀ h', Fr h₀ L h' m → News h₀ L h' ((x, instObj C d) :: (d, dictOf es' n') :: news) → Q () { s with heap := h', toks := s.toks + 2 }) :
    wpAny (model prog w) A (setAttr (.ref x) name v) Q E s :=
  set_dict F X₀ (News.off N hd) (InstAt.of_news N hx hd) rfl hs hp ht hh hl e (.head Led.off_ne) hz fun h' F' N' => h h' F' fun p hp => by
    rcases List.mem_cons.mp hp with rfl | hp
    · exact N' _ (.tail _ (Led.off_keeps _ hx hxd))
    · rcases List.mem_cons.mp hp with rfl | hp
      · exact N' _ (.head _)
      · exact N' _ (.tail _ (Led.off_keeps _ (hsub _ hp) (T.ne _ hp)))
/-- the same, and what is stored is kept -/
theorem set_keep {prog : Program} {w : World} {A : Around} {E : Value → Shared → Prop} {s : Shared} {h₀ : Heap} {L : Addr} {m : Str → Option Value} {news news1 : Led} {K : Frag} {x d C : Addr} {es es' : List DictEntry} {n n' : Nat} {name : Str} {t : Addr} {ot : Obj} {Q : Unit → Shared → Prop}
    (F : Fr h₀ L s.heap m) (X₀ : K.In h₀) (N : News h₀ L s.heap news1) (hx : (x, instObj C d) ∈ news1) (hd : (d, dictOf es n) ∈ news1) (T : TailNe news d) (htm : (t, ot) ∈ news1) (htd : t ≠ d) (hsub : ∀ p ∈ news, p ∈ news1) (hxd : x ≠ d)
    (hs : findIn K (.ref C) "__setattr__" = some (some (.builtin "object.__setattr__"))) (hp : plainOver K C = true) (ht : takerIn K C name = some none) (hh : hasDictIn K C = true) (hl : (getL name es).isSome = true)
    (e : (putL name (PyData.keyHash w.params name) (.str name (s.toks + 1)) (.ref t) es, putN name es n) = (es', n')) (hz : es'.length ≤ 1000)
    (h : ∀ h', Fr h₀ L h' m → News h₀ L h' ((x, instObj C d) :: (d, dictOf es' n') :: (t, ot) :: news) → TailNe ((t, ot) :: news) d → Q () { s with heap := h', toks := s.toks + 2 }) :
    wpAny (model prog w) A (setAttr (.ref x) name (.ref t)) Q E s :=
  set_dict F X₀ (News.off N hd) (InstAt.of_news N hx hd) rfl hs hp ht hh hl e (.head Led.off_ne) hz fun h' F' N' => h h' F' (fun p hp => by
    rcases List.mem_cons.mp hp with rfl | hp
    · exact N' _ (.tail _ (Led.off_keeps _ hx hxd))
    · rcases List.mem_cons.mp hp with rfl | hp
      · exact N' _ (.head _)
      · rcases List.mem_cons.mp hp with rfl | hp
        · exact N' _ (.tail _ (Led.off_keeps _ htm htd))
        · exact N' _ (.tail _ (Led.off_keeps _ (hsub _ hp) (T.ne _ hp)))) ⟨fun p hp => by
    rcases List.mem_cons.mp hp with rfl | hp
    · exact htd
    · exact T.ne _ hp⟩
theorem set_front2 {prog : Program} {w : World} {A : Around} {E : Value → Shared → Prop} {s : Shared} {h₀ : Heap} {L : Addr} {m : Str → Option Value} {news news1 : Led} {K : Frag} {x d C : Addr} {es : List DictEntry} {n : Nat} {name : Str} {v : Value} {Q : Unit → Shared → Prop}
    (F : Fr h₀ L s.heap m) (X₀ : K.In h₀) (N : News h₀ L s.heap news1) (hx : (x, instObj C d) ∈ news1) (hd : (d, dictOf es n) ∈ news1) (T : TailNe news d) (hsub : ∀ p ∈ news, p ∈ news1) (hxd : x ≠ d)
    (hs : findIn K (.ref C) "__setattr__" = some (some (.builtin "object.__setattr__"))) (hp : plainOver K C = true) (ht : takerIn K C name = some none) (hh : hasDictIn K C = true) (hl : (getL name es).isSome = true)
    (hz : es.length + 1 ≤ 1000)
    (h : ∀ h' es' n', Fr h₀ L h' m → News h₀ L h' ((x, instObj C d) :: (d, dictOf es' n') :: news) → es'.length ≤ es.length + 1 → getL name es' = some (some v) → (∀ k, k ≠ name → getL k es' = getL k es) → Q () { s with heap := h', toks := s.toks + 2 }) :
    wpAny (model prog w) A (setAttr (.ref x) name v) Q E s :=
  set_front F X₀ N hx hd T hsub hxd hs hp ht hh hl rfl (Nat.le_trans (putL_len es) hz) fun h' F' N' => h h' _ _ F' N' (putL_len es) (getL_put_same es) fun k hk => getL_put_ne hk es
theorem set_keep2 {prog : Program} {w : World} {A : Around} {E : Value → Shared → Prop} {s : Shared} {h₀ : Heap} {L : Addr} {m : Str → Option Value} {news news1 : Led} {K : Frag} {x d C t : Addr} {ot : Obj} {es : List DictEntry} {n : Nat} {name : Str} {Q : Unit → Shared → Prop}
    (F : Fr h₀ L s.heap m) (X₀ : K.In h₀) (N : News h₀ L s.heap news1) (hx : (x, instObj C d) ∈ news1) (hd : (d, dictOf es n) ∈ news1) (T : TailNe news d) (htm : (t, ot) ∈ news1) (htd : t ≠ d) (hsub : ∀ p ∈ news, p ∈ news1) (hxd : x ≠ d)
    (hs : findIn K (.ref C) "__setattr__" = some (some (.builtin "object.__setattr__"))) (hp : plainOver K C = true) (ht : takerIn K C name = some none) (hh : hasDictIn K C = true) (hl : (getL name es).isSome = true)
    (hz : es.length + 1 ≤ 1000)
    (h : ∀ h' es' n', Fr h₀ L h' m → News h₀ L h' ((x, instObj C d) :: (d, dictOf es' n') :: (t, ot) :: news) → es'.length ≤ es.length + 1 → getL name es' = some (some (.ref t)) → (∀ k, k ≠ name → getL k es' = getL k es) → Q () { s with heap := h', toks := s.toks + 2 }) :
    wpAny (model prog w) A (setAttr (.ref x) name (.ref t)) Q E s :=
  set_keep F X₀ N hx hd T htm htd hsub hxd hs hp ht hh hl rfl (Nat.le_trans (putL_len es) hz) fun h' F' N' _ => h h' _ _ F' N' (putL_len es) (getL_put_same es) fun k hk => getL_put_ne hk es
theorem add_lists2 {prog : Program} {w : World} {A : Around} {E : Value → Shared → Prop} {s : Shared} {h₀ : Heap} {L : Addr} {m : Str → Option Value} {news : Led} {l b : Addr} {vs ws : List Value} {n1 n2 : Nat} {Q : Value → Shared → Prop}
    (F : Fr h₀ L s.heap m) (N : News h₀ L s.heap news) (hl : (l, listOf vs.toArray n1) ∈ news) (hb : (b, listOf ws.toArray n2) ∈ news) (hsz : vs.length + ws.length ≤ sizeLine)
    (h : ∀ D k h', Fr h₀ L h' m → News h₀ L h' ((D, listOf (vs ++ ws).toArray k) :: news) → (∀ p ∈ news, p.1 ≠ D) → Q (.ref D) { s with heap := h' }) : wpAny (model prog w) A (binaryOp .Add (.ref l) (.ref b)) Q E s :=
  add_lists (hsz := hsz) F N (News.isList N hl) (News.isList N hb) fun h' F' N' => h _ _ h' F' N' fun p hp => Nat.ne_of_lt (Heap.lt_size (N p hp).1)
end
section
local macro_rules | `(tactic| ktr_enter) => enterLine roomS bindS
local macro_rules | `(tactic| k_all) => `(tactic| exact TailLt.ne (by assumption) (by omega))
local macro_rules | `(tactic| ktr_units) => `(tactic| ((have hcL9 := cLine_is); (try simp only [units_in1, units_deeper, units_under_make, Around.mark_units, units_caller] at *); (try dsimp only [ktrTop] at *); omega))
local macro_rules | `(tactic| walk_at "setAttr ref") => frontLine
inductive KlassRel (news : Led) : List Value → (Led → Value → Prop) → Prop where
  | mk (name : Str) (t : Tok) (sort : Str) (t' : Tok) : name.cps.size ≤ 1000 → (∀ k ∈ name.cps.toList, k < 1000) → KlassRel news [.str name t, .str sort t'] (fun tl r => ∃ x d es n t2, r = .ref x ∧ tl = [(x, instObj 580 d), (d, dictOf es n)] ∧ getL "key" es = some (some (.str (lowerS name) t2)) ∧ (getL "parent" es).isSome = true ∧ (getL "interfaces" es).isSome = true ∧ es.length ≤ 100 ∧ (∀ p ∈ news, p.1 ≠ x ∧ p.1 ≠ d) ∧ x ≠ d)
theorem klass_ct (prog : Program) (w : World) : Ct prog w 580 3 KlassRel := by
  (have hx : fillK PySem.Challenge.rw_pq0853_01 hd.heap_1 = fillK PySem.Challenge.rw_pq0853_01 hd.heap_1 := by k_fill; rfl)
  clear hx
  refine Ct.of fun news vs Post hR => ?_
  obtain ⟨name, t, sort, t', hnl, hnk⟩ := hR
  unfold CtB
  intro p loose mean mg mb dp un gd cn cs a ccd cl outer A₀ base h₀ L m s Q E B F X N T hk hd hu hret
  (refine' call_cls ?k1 ?k2 ?k3 ?k4 ?k5 ?k6 ?_; (case k1 => k_asm); (case k2 => k_asm); (case k3 => k_asm); (case k4 => k_is); (case k5 => k_is); (case k6 => k_is); k_whole; intro x' d' h' F' N' l1 l2)
  have hxd : x' ≠ d' := Nat.ne_of_gt l2
  have TL : TailNe news d' := (TailLt.mk l1).tailNe
  k_dflt ktr_enter
  k_steps
  refine' hret _ [(x', instObj 580 d'), (d', dictOf _ _)] _ _ ?a ?b ?c
  case a => assumption
  case b => assumption
  exact ⟨x', d', _, _, _, rfl, rfl, by k_get, by k_get, by k_get, Nat.le_of_ble_eq_true rfl, fun p hp => ⟨Nat.ne_of_lt (Nat.lt_trans (l1 p hp) l2), Nat.ne_of_lt (l1 p hp)⟩, hxd⟩
end
section
local macro_rules | `(tactic| ktr_enter) => do let bK ← `(tactic| exact binds_K (by k_in) rfl (by k_is) rfl rfl rfl); enterLine roomS (firstS [bindS, bK])
local macro_rules | `(tactic| k_all) => `(tactic| exact TailLt.ne (by assumption) (by omega))
local macro_rules | `(tactic| ktr_units) => `(tactic| ((have hcL9 := cLine_is); (try simp only [units_in1, units_deeper, units_under_make, Around.mark_units, units_caller] at *); (try dsimp only [ktrTop] at *); omega))
local macro_rules | `(tactic| walk_at "setAttr ref") => frontLine
local macro_rules | `(tactic| walk_at "setAttr ref") => keepLine "tools"
local macro_rules | `(tactic| walk_at "setAttr ref") => keepLine "classes"
inductive FrameRel (news : Led) : List Value → (Led → Value → Prop) → Prop where
  | mk : FrameRel news [] (fun tl r => tl = [] ∧ ∃ x, r = .ref x)
theorem frame_ct (prog : Program) (w : World) : Ct prog w 460 2 FrameRel := by
  (have hx : fillK PySem.Challenge.rw_pq0853_01 hd.heap_1 = fillK PySem.Challenge.rw_pq0853_01 hd.heap_1 := by k_fill; rfl)
  clear hx
  refine Ct.of fun news vs Post hR => ?_
  obtain ⟨⟩ := hR
  unfold CtB
  intro p loose mean mg mb dp un gd cn cs a ccd cl outer A₀ base h₀ L m s Q E B F X N T hk hd hu hret
  (refine' call_cls ?k1 ?k2 ?k3 ?k4 ?k5 ?k6 ?_; (case k1 => k_asm); (case k2 => k_asm); (case k3 => k_asm); (case k4 => k_is); (case k5 => k_is); (case k6 => k_is); k_whole; intro x' d' h' F' N' l1 l2)
  have hxd : x' ≠ d' := Nat.ne_of_gt l2
  have TL : TailNe news d' := (TailLt.mk l1).tailNe
  k_dflt ktr_enter
  k_steps
  exact hret _ [] _ _ (by assumption) (news_drop2 (by assumption)) ⟨rfl, x', rfl⟩
local macro_rules | `(tactic| walk_at "call ref") => ctLine "460" .T `frame_ct asmS dotMk true
inductive HostRel (prog : Program) (w : World) (news : Led) : List Value → (Led → Value → Prop) → Prop where
  | mk : HostRel prog w news [] (fun tl r => ∃ H d es n T oT C oC, r = .ref H ∧ tl = [(H, instObj 559 d), (d, dictOf es n), (C, oC), (T, oT)] ∧ getL "tools" es = some (some (.ref T)) ∧ getL "classes" es = some (some (.ref C)) ∧ getL "tool" es = some none ∧
      oT.IsDictOf (strKind prog w) [] ∧ (T == sysModules) = false ∧ oC.IsDictOf (strKind prog w) [] ∧ (C == sysModules) = false ∧ H ≠ C ∧ d ≠ C ∧ T ≠ C ∧ H ≠ T ∧ d ≠ T ∧ (∀ p ∈ news, p.1 ≠ T ∧ p.1 ≠ C))
theorem host_ct (prog : Program) (w : World) : Ct prog w 559 4 (HostRel prog w) := by
  (have hx : fillK PySem.Challenge.rw_pq0853_01 hd.heap_1 = fillK PySem.Challenge.rw_pq0853_01 hd.heap_1 := by k_fill; rfl)
  clear hx
  refine Ct.of fun news vs Post hR => ?_
  obtain ⟨⟩ := hR
  unfold CtB
  intro p loose mean mg mb dp un gd cn cs a ccd cl outer A₀ base h₀ L m s Q E B F X N T hk hd hu hret
  (refine' call_cls ?k1 ?k2 ?k3 ?k4 ?k5 ?k6 ?_; (case k1 => k_asm); (case k2 => k_asm); (case k3 => k_asm); (case k4 => k_is); (case k5 => k_is); (case k6 => k_is); k_whole; intro x' d' h' F' N' l1 l2)
  have hxd : x' ≠ d' := Nat.ne_of_gt l2
  have TL : TailNe news d' := (TailLt.mk l1).tailNe
  k_dflt ktr_enter
  k_steps
  refine' hret _ [(x', instObj 559 d'), (d', dictOf _ _), (_, _), (_, _)] _ _ ?a ?b ?c
  case a => assumption
  case b => assumption
  refine ⟨x', d', _, _, _, _, _, _, rfl, rfl, by k_get, by k_get, by k_get, by assumption, by assumption, by assumption, by assumption, ?_, ?_, ?_, ?_, ?_, fun p hp => ⟨Nat.ne_of_lt (Nat.lt_trans (l1 p hp) ?_), Nat.ne_of_lt (Nat.lt_trans (l1 p hp) ?_)⟩⟩
  · k_ne
  · k_ne
  · k_ne
  · k_ne
  · k_ne
  · omega
  · omega
end
local macro_rules | `(tactic| walk_at "no such key 20") => stopOut
local macro_rules | `(tactic| walk_at "no such key 21") => stopOut
section
local macro_rules | `(tactic| ktr_enter) => do let bK ← `(tactic| exact binds_K (by k_in) rfl (by k_is) rfl rfl rfl); enterLine roomS (firstS [bindS, bK])
local macro_rules | `(tactic| k_all) => `(tactic| exact TailLt.ne (by assumption) (by omega))
local macro_rules | `(tactic| ktr_units) => `(tactic| ((have hcL9 := cLine_is); (try simp only [units_in1, units_deeper, units_under_make, Around.mark_units, units_caller] at *); (try dsimp only [ktrTop] at *); omega))
local macro_rules | `(tactic| walk_at "setAttr ref") => frontLine
local macro_rules | `(tactic| walk_at "setAttr ref") => keepLine "tools"
local macro_rules | `(tactic| walk_at "setAttr ref") => keepLine "classes"
inductive ObjRel (news : Led) : List Value → (Led → Value → Prop) → Prop where
  | mk (k : Addr) (n : Int) (t : Tok) : ObjRel news [.ref k, .int n t] (fun tl r => ∃ x d es n, r = .ref x ∧ tl = [(x, instObj 168 d), (d, dictOf es n)] ∧ getL "cls" es = some (some (.ref k)) ∧ (∀ p ∈ news, p.1 ≠ x ∧ p.1 ≠ d))
theorem obj_ct (prog : Program) (w : World) : Ct prog w 168 2 ObjRel := by
  (have hx : fillK PySem.Challenge.rw_pq0853_01 hd.heap_1 = fillK PySem.Challenge.rw_pq0853_01 hd.heap_1 := by k_fill; rfl)
  clear hx
  refine Ct.of fun news vs Post hR => ?_
  obtain ⟨k, n, t⟩ := hR
  unfold CtB
  intro p loose mean mg mb dp un gd cn cs a ccd cl outer A₀ base h₀ L m s Q E B F X N T hk hd hu hret
  (refine' call_cls ?k1 ?k2 ?k3 ?k4 ?k5 ?k6 ?_; (case k1 => k_asm); (case k2 => k_asm); (case k3 => k_asm); (case k4 => k_is); (case k5 => k_is); (case k6 => k_is); k_whole; intro x' d' h' F' N' l1 l2)
  have hxd : x' ≠ d' := Nat.ne_of_gt l2
  have TL : TailNe news d' := (TailLt.mk l1).tailNe
  k_dflt ktr_enter
  k_steps
  refine' hret _ [(x', instObj 168 d'), (d', dictOf _ _)] _ _ ?a ?b ?c
  case a => assumption
  case b => assumption
  exact ⟨x', d', _, _, rfl, rfl, by k_get, fun p hp => ⟨Nat.ne_of_lt (Nat.lt_trans (l1 p hp) l2), Nat.ne_of_lt (l1 p hp)⟩⟩
inductive LeastRel (news : Led) : List Value → (Led → Value → Prop) → Prop where
  | mk : LeastRel news [] (fun tl r => tl = [] ∧ ∃ i t, r = .int i t)
theorem least_ct (prog : Program) (w : World) : Ct prog w 100 1 LeastRel := by
  (have hx : fillK PySem.Challenge.rw_pq0853_01 hd.heap_1 = fillK PySem.Challenge.rw_pq0853_01 hd.heap_1 := by k_fill; rfl)
  clear hx
  refine Ct.of fun news vs Post hR => ?_
  obtain ⟨⟩ := hR
  unfold CtB
  intro p loose mean mg mb dp un gd cn cs a ccd cl outer A₀ base h₀ L m s Q E B F X N T hk hd hu hret
  refine wpAny_call ?_
  k_dflt ktr_enter
  k_steps
  exact hret _ [] _ _ (by assumption) (by assumption) ⟨rfl, _, _, rfl⟩
local macro_rules | `(tactic| walk_at "call ref") => ctLine "100" .T2 `least_ct asmS dotMk true
inductive ArrRel (news : Led) : List Value → (Led → Value → Prop) → Prop where
  | mk : ArrRel news [] (fun tl r => ∃ x d es n, r = .ref x ∧ tl = [(x, instObj 253 d), (d, dictOf es n)] ∧ (∀ p ∈ news, p.1 ≠ x ∧ p.1 ≠ d))
theorem arr_ct (prog : Program) (w : World) : Ct prog w 253 3 ArrRel := by
  (have hx : fillK PySem.Challenge.rw_pq0853_01 hd.heap_1 = fillK PySem.Challenge.rw_pq0853_01 hd.heap_1 := by k_fill; rfl)
  clear hx
  refine Ct.of fun news vs Post hR => ?_
  obtain ⟨⟩ := hR
  unfold CtB
  intro p loose mean mg mb dp un gd cn cs a ccd cl outer A₀ base h₀ L m s Q E B F X N T hk hd hu hret
  (refine' call_cls ?k1 ?k2 ?k3 ?k4 ?k5 ?k6 ?_; (case k1 => k_asm); (case k2 => k_asm); (case k3 => k_asm); (case k4 => k_is); (case k5 => k_is); (case k6 => k_is); k_whole; intro x' d' h' F' N' l1 l2)
  have hxd : x' ≠ d' := Nat.ne_of_gt l2
  have TL : TailNe news d' := (TailLt.mk l1).tailNe
  k_dflt ktr_enter
  k_steps
  refine' hret _ [(x', instObj 253 d'), (d', dictOf _ _)] _ _ ?a ?b ?c
  case a => assumption
  case b => assumption
  exact ⟨x', d', _, _, rfl, rfl, fun p hp => ⟨Nat.ne_of_lt (Nat.lt_trans (l1 p hp) l2), Nat.ne_of_lt (l1 p hp)⟩⟩
end
local macro_rules | `(tactic| walk_at "no such key 22") => stopOut
section
local macro_rules | `(tactic| ktr_units) => `(tactic| ((have hcL9 := cLine_is); (try simp only [units_in1, units_deeper, units_under_make, Around.mark_units, units_caller] at *); (try dsimp only [ktrTop] at *); omega))
local macro_rules | `(tactic| walk_at "setAttr ref") => stopOut
local macro_rules | `(tactic| walk_at "binaryOp Add ref ref") => stopOut
local macro_rules | `(tactic| walk_at "setItem ref str") => stopOut
local macro_rules | `(tactic| walk_at "call ref") => stopCall "580"
/-- a Klass object that was not there -/
def KlassFresh (news news' : Led) (a : Addr) (key : Str) (pv : Value) (ifs : List Value) : Prop :=
  ∃ d es n l ln t, (a, instObj 580 d) ∈ news' ∧ (d, dictOf es n) ∈ news' ∧ getL "key" es = some (some (.str key t)) ∧ getL "parent" es = some (some pv) ∧ getL "interfaces" es = some (some (.ref l)) ∧
    (l, listOf ifs.toArray ln) ∈ news' ∧ ∀ p ∈ news, p.1 ≠ a ∧ p.1 ≠ d ∧ p.1 ≠ l
inductive PutRel (prog : Program) (w : World) (news : Led) : List Value → (Led → Value → Prop) → Prop where
  | none (H T C : Addr) (kvs : List (Str × Value)) (name : Str) (t : Tok) (I : Addr) (its : List Value) (n : Nat) : HostB prog w news H T C kvs → kvs.length ≤ 100 → name.cps.size ≤ 1000 → (∀ k ∈ name.cps.toList, k < 1000) →
      (I, listOf its.toArray n) ∈ news → its.length ≤ 100 →
      PutRel prog w news [.ref H, .str name t, .none, .ref I] (fun news' r => ∃ x oC, r = .ref x ∧ Keeps C news news' ∧ (C, oC) ∈ news' ∧ oC.IsDictOf (strKind prog w) (stored kvs (lowerS name) (.ref x)) ∧ KlassFresh news news' x (lowerS name) .none its)
  | some (H T C : Addr) (kvs : List (Str × Value)) (name : Str) (t : Tok) (I : Addr) (its : List Value) (n : Nat) (a : Addr) (akey : Str) (pv : Value) (aifs : List Value) : HostB prog w news H T C kvs → kvs.length ≤ 100 → name.cps.size ≤ 1000 → (∀ k ∈ name.cps.toList, k < 1000) →
      (I, listOf its.toArray n) ∈ news → its.length ≤ 100 → KlassOff news C a akey pv aifs → aifs.length ≤ 100 →
      PutRel prog w news [.ref H, .str name t, .ref a, .ref I] (fun news' r => ∃ x oC, r = .ref x ∧ Keeps C news news' ∧ (C, oC) ∈ news' ∧ oC.IsDictOf (strKind prog w) (stored kvs (lowerS name) (.ref x)) ∧ KlassFresh news news' x (lowerS name) (.ref a) (aifs ++ its))
theorem law_put_ct (prog : Program) (w : World) : CtM prog w 603 5 (PutRel prog w) := by
  (have hx : fillK PySem.Challenge.rw_pq0853_01 hd.heap_1 = fillK PySem.Challenge.rw_pq0853_01 hd.heap_1 := by k_fill; rfl)
  clear hx
  unfold CtM
  intro p loose mean mg mb dp un gd cn cs a ccd cl outer A₀ base h₀ L m news s vs Post Q E B F X N T hk hR hd hu hret
  cases hR with
  | none H T0 C kvs name t I its n hH hkv hn1 hn2 hI hil =>
    obtain ⟨dH, esH, nH, oT, oC, g1, g2, g3, g4, g5, g6, g7, g8, g9, g10, g11, g12, g13, g14⟩ := id hH
    refine wpAny_call ?_
    k_dflt ktr_enter
    k_steps
    unfold Stop
    refine' Ct.use (klass_ct _ _) ?kB ?kF ?kX ?kN ?kT ?kK ?kR ?kd ?ku ?_
    case kB => k_asm
    case kF => k_asm
    case kX => k_asm
    case kN => k_asm
    case kR => refine KlassRel.mk _ _ _ _ (by assumption) (by assumption)
    case kT => k_asm
    case kK => first | exact rfl | assumption
    case kd => ktr_room
    case ku => ktr_units
    intro r9 tl9 h9 tk9 F9 N9 P9
    obtain ⟨x, d, es, n9, t2, e9, e9', q1, q2, q3, q4, q5, q6⟩ := P9
    subst e9
    subst e9'
    rw [List.cons_append, List.cons_append, List.nil_append] at N9
    have TN : TailNe news d := ⟨fun p hp => (q5 p hp).2⟩
    k_steps
    unfold Stop
    refine' set_front2 ?k1 ?k2 ?k3 ?m1 ?m2 ?m3 ?m4 ?m5 ?k6 ?k7 ?k8 ?k9 ?k10 ?kz ?_
    case k1 => k_asm
    case k2 => k_asm
    case k3 => k_asm
    case m1 => k_mem
    case m2 => k_mem
    case m3 => assumption
    case m4 => exact fun p hp => .tail _ (.tail _ hp)
    case m5 => assumption
    case k6 => k_is
    case k7 => k_is
    case k8 => k_is
    case k9 => k_is
    case k10 => assumption
    case kz => omega
    intro h1 es1 n1 F1 N1 z1 z2 z3
    have q1' : getL "key" es1 = some (some (.str (lowerS name) t2)) := (z3 _ (by decide)).trans q1
    have q3' : (getL "interfaces" es1).isSome = true := by rw [z3 _ (by decide)]; exact q3
    k_steps
    unfold Stop
    refine' add_lists2 ?k1 ?k2 ?k3 ?k4 ?k5 ?_
    case k1 => k_asm
    case k2 => k_asm
    case k3 => first | exact i6 | exact List.Mem.head _
    case k4 => first | exact .tail _ (.tail _ hI) | exact .tail _ (.tail _ (.tail _ hI))
    case k5 => rw [sizeLine_eq]; (try simp only [List.length_nil]); omega
    intro D kD h2 F2 N2 offD
    k_steps
    unfold Stop
    refine' set_keep2 ?k1 ?k2 ?k3 ?m1 ?m2 ?m3 ?t1 ?t2 ?m4 ?m5 ?k6 ?k7 ?k8 ?k9 ?k10 ?kz ?_
    case k1 => k_asm
    case k2 => k_asm
    case k3 => k_asm
    case m1 => k_mem
    case m2 => k_mem
    case m3 => exact TN
    case t1 => k_mem
    case t2 => exact Ne.symm (offD (d, _) (by k_mem))
    case m4 => first | exact fun p hp => .tail _ (.tail _ (.tail _ hp)) | exact fun p hp => .tail _ (.tail _ (.tail _ (.tail _ hp)))
    case m5 => assumption
    case k6 => k_is
    case k7 => k_is
    case k8 => k_is
    case k9 => k_is
    case k10 => assumption
    case kz => omega
    intro h3 es2 n2 F3 N3 y1 y2 y3
    have q1'' : getL "key" es2 = some (some (.str (lowerS name) t2)) := (y3 _ (by decide)).trans q1'
    have z2'' := (y3 "parent" (by decide)).trans z2
    have m1 : ∀ p ∈ news, p ∈ ((x, instObj 580 d) :: (d, dictOf es2 n2) :: (D, listOf (([] : List Value) ++ its).toArray kD) :: news) := fun p hp => .tail _ (.tail _ (.tail _ hp))
    have g1' := m1 _ g1
    have g2' := m1 _ g2
    have g9' := m1 _ g9
    k_steps
    unfold Stop
    refine set_item_off (by k_asm) (by k_asm) g9' g10 ?_ (by rw [sizeLine_eq]; omega)
    intro h4 oC' F4 N4 hd4
    k_steps
    refine hret _ _ _ _ (by k_asm) (by k_asm) ⟨x, oC', rfl, fun p hp hn => .tail _ (Led.off_keeps _ (m1 _ hp) hn), .head _, hd4, ?_⟩
    have cx := (q5 _ g9).1
    have cd := (q5 _ g9).2
    have cD : C ≠ D := offD (C, oC) (by first | exact .tail _ (.tail _ g9) | exact .tail _ (.tail _ (.tail _ g9)))
    exact ⟨d, es2, n2, D, kD, t2, .tail _ (Led.off_keeps _ (by k_mem) (Ne.symm cx)), .tail _ (Led.off_keeps _ (by k_mem) (Ne.symm cd)), q1'', z2'', y2, .tail _ (Led.off_keeps _ (by k_mem) (Ne.symm cD)), fun p hp => ⟨(q5 p hp).1, (q5 p hp).2, offD p (by first | exact .tail _ (.tail _ hp) | exact .tail _ (.tail _ (.tail _ hp)))⟩⟩
  | some H T0 C kvs name t I its n ab akey pv aifs hH hkv hn1 hn2 hI hil hK hal =>
    obtain ⟨dH, esH, nH, oT, oC, g1, g2, g3, g4, g5, g6, g7, g8, g9, g10, g11, g12, g13, g14⟩ := id hH
    obtain ⟨da, ea, na, la, lan, ta, i1, i2, i3, i4, i5, i6, i7, i8, i9⟩ := id hK
    refine wpAny_call ?_
    k_dflt ktr_enter
    k_steps
    unfold Stop
    refine' Ct.use (klass_ct _ _) ?kB ?kF ?kX ?kN ?kT ?kK ?kR ?kd ?ku ?_
    case kB => k_asm
    case kF => k_asm
    case kX => k_asm
    case kN => k_asm
    case kR => refine KlassRel.mk _ _ _ _ (by assumption) (by assumption)
    case kT => k_asm
    case kK => first | exact rfl | assumption
    case kd => ktr_room
    case ku => ktr_units
    intro r9 tl9 h9 tk9 F9 N9 P9
    obtain ⟨x, d, es, n9, t2, e9, e9', q1, q2, q3, q4, q5, q6⟩ := P9
    subst e9
    subst e9'
    rw [List.cons_append, List.cons_append, List.nil_append] at N9
    have TN : TailNe news d := ⟨fun p hp => (q5 p hp).2⟩
    k_steps
    unfold Stop
    refine' set_front2 ?k1 ?k2 ?k3 ?m1 ?m2 ?m3 ?m4 ?m5 ?k6 ?k7 ?k8 ?k9 ?k10 ?kz ?_
    case k1 => k_asm
    case k2 => k_asm
    case k3 => k_asm
    case m1 => k_mem
    case m2 => k_mem
    case m3 => assumption
    case m4 => exact fun p hp => .tail _ (.tail _ hp)
    case m5 => assumption
    case k6 => k_is
    case k7 => k_is
    case k8 => k_is
    case k9 => k_is
    case k10 => assumption
    case kz => omega
    intro h1 es1 n1 F1 N1 z1 z2 z3
    have q1' : getL "key" es1 = some (some (.str (lowerS name) t2)) := (z3 _ (by decide)).trans q1
    have q3' : (getL "interfaces" es1).isSome = true := by rw [z3 _ (by decide)]; exact q3
    k_steps
    unfold Stop
    refine' add_lists2 ?k1 ?k2 ?k3 ?k4 ?k5 ?_
    case k1 => k_asm
    case k2 => k_asm
    case k3 => first | exact .tail _ (.tail _ i6) | exact List.Mem.head _
    case k4 => first | exact .tail _ (.tail _ hI) | exact .tail _ (.tail _ (.tail _ hI))
    case k5 => rw [sizeLine_eq]; (try simp only [List.length_nil]); omega
    intro D kD h2 F2 N2 offD
    k_steps
    unfold Stop
    refine' set_keep2 ?k1 ?k2 ?k3 ?m1 ?m2 ?m3 ?t1 ?t2 ?m4 ?m5 ?k6 ?k7 ?k8 ?k9 ?k10 ?kz ?_
    case k1 => k_asm
    case k2 => k_asm
    case k3 => k_asm
    case m1 => k_mem
    case m2 => k_mem
    case m3 => exact TN
    case t1 => k_mem
    case t2 => exact Ne.symm (offD (d, _) (by k_mem))
    case m4 => first | exact fun p hp => .tail _ (.tail _ (.tail _ hp)) | exact fun p hp => .tail _ (.tail _ (.tail _ (.tail _ hp)))
    case m5 => assumption
    case k6 => k_is
    case k7 => k_is
    case k8 => k_is
    case k9 => k_is
    case k10 => assumption
    case kz => omega
    intro h3 es2 n2 F3 N3 y1 y2 y3
    have q1'' : getL "key" es2 = some (some (.str (lowerS name) t2)) := (y3 _ (by decide)).trans q1'
    have z2'' := (y3 "parent" (by decide)).trans z2
    have m1 : ∀ p ∈ news, p ∈ ((x, instObj 580 d) :: (d, dictOf es2 n2) :: (D, listOf (aifs ++ its).toArray kD) :: news) := fun p hp => .tail _ (.tail _ (.tail _ hp))
    have g1' := m1 _ g1
    have g2' := m1 _ g2
    have g9' := m1 _ g9
    k_steps
    unfold Stop
    refine set_item_off (by k_asm) (by k_asm) g9' g10 ?_ (by rw [sizeLine_eq]; omega)
    intro h4 oC' F4 N4 hd4
    k_steps
    refine hret _ _ _ _ (by k_asm) (by k_asm) ⟨x, oC', rfl, fun p hp hn => .tail _ (Led.off_keeps _ (m1 _ hp) hn), .head _, hd4, ?_⟩
    have cx := (q5 _ g9).1
    have cd := (q5 _ g9).2
    have cD : C ≠ D := offD (C, oC) (by first | exact .tail _ (.tail _ g9) | exact .tail _ (.tail _ (.tail _ g9)))
    exact ⟨d, es2, n2, D, kD, t2, .tail _ (Led.off_keeps _ (by k_mem) (Ne.symm cx)), .tail _ (Led.off_keeps _ (by k_mem) (Ne.symm cd)), q1'', z2'', y2, .tail _ (Led.off_keeps _ (by k_mem) (Ne.symm cD)), fun p hp => ⟨(q5 p hp).1, (q5 p hp).2, offD p (by first | exact .tail _ (.tail _ hp) | exact .tail _ (.tail _ (.tail _ hp)))⟩⟩
end
local macro_rules | `(tactic| walk_at "no such key 23") => stopOut
local macro_rules | `(tactic| walk_at "no such key 24") => stopOut
local macro_rules | `(tactic| walk_at "no such key 25") => stopOut
local macro_rules | `(tactic| walk_at "no such key 26") => stopOut
local macro_rules | `(tactic| walk_at "no such key 27") => stopOut
section
section
variable {prog : Program} {w : World} {A : Around} {E : Value → Shared → Prop} {s : Shared} {env : Env} {h₀ : Heap} {x : Str} {body : List Stmt} {Q : Flow → Shared → Prop}
abbrev rangeOf (a b c : Int) (t u v : Tok) : Obj := { cls := .type "range", dict := none, data := .fields #[.int a t, .int b u, .int c v], slots := #[] }
theorem each_range {r : Addr} {n : Nat} {a1 b1 c1 : Tok} {m₀ : Str → Option Value} {news : Led} (hh : A.handled = none) (F : Fr h₀ env.locals s.heap m₀) (N : News h₀ env.locals s.heap news)
    (hm : IsRange s.heap r 0 n 1 a1 b1 c1) (hsm : Builtin.Range.small 0 n 1 = true) (hrs : Builtin.Range.rangeSize 0 n 1 = n)
    (Inv : Nat → (Str → Option Value) → Led → Prop) (h0 : Inv 0 m₀ news)
    (turn : ∀ i t m nx q h tk, i < n → Inv i m nx → (∀ p ∈ nx, p.1 ≠ q.1) → Fr h₀ env.locals h (fun y => if y = x then some (.int (i : Nat) t) else m y) → News h₀ env.locals h (q :: nx) → q.2.cls = .type "range_iterator" →
      wpAny (model prog w) A (execs body env) (TurnPost h₀ env.locals { s with heap := h, toks := tk } q (Inv (i + 1)) Q) E { s with heap := h, toks := tk })
    (done : ∀ m nx h tk, Inv n m nx → Fr h₀ env.locals h m → News h₀ env.locals h nx → Q .next { s with heap := h, toks := tk }) :
    wpAny (model prog w) A (pyIter (.ref r)) (fun it s₂ => LoopAtV prog w A h₀ env x body Q E it s₂) E s := by
  refine wpAny_pyIter_range hm hsm ?_
  rw [hrs]
  have hnew := next_is_new F
  have W := Walks.range (prog := prog) (w := w) (A := A) hh s.heap.objs.size 0 1 n
  let J : Nat → (Str → Option Value) → Led → Prop := fun i m₁ news₁ => Inv i m₁ news₁
  have hit0 : IsRangeIter (s.heap.push { cls := .type "range_iterator", data := .fields #[rawInt 0, rawInt n, rawInt 1] }) s.heap.objs.size (0 + ((0 : Nat) : Int) * 1) ((n : Int) - ((0 : Nat) : Int)) 1 := by
    have e1 : (0 : Int) + ((0 : Nat) : Int) * 1 = 0 := by simp
    have e2 : (n : Int) - ((0 : Nat) : Int) = n := by simp
    rw [e1, e2]; exact Heap.get?_push_size _ rfl
  refine ⟨_, _, _, n, _, _, m₀, news, J, rfl, W, ?_, ?_, ?_, hit0, F.push _, (fun p hp => ⟨Heap.get?_push_of_some _ (N p hp).1, (N p hp).2⟩), h0, ?_, ?_⟩
  · intro hmm
    exact absurd F.ns.lt ((List.mem_singleton.mp hmm) ▸ Nat.lt_irrefl _)
  · intro b hb
    rw [List.mem_singleton.mp hb]
    exact hnew
  · intro p hp hI
    exact absurd (Heap.lt_size (N p hp).1) ((List.mem_singleton.mp hI) ▸ Nat.lt_irrefl _)
  · rintro i v m₁ news₁ s₁ own ⟨hh', tk', rfl⟩ hin hPi hJ hoff hown hget hall hst F₁ N₁
    have hmemI := hall s.heap.objs.size (List.mem_cons_self ..) hnew _ hst
    obtain ⟨t, hv⟩ := hPi
    have hv' : v = .int (i : Nat) t := by rw [hv]; simp
    subst hv'
    generalize hq : (⟨.type "range_iterator", none, .fields #[rawInt (0 + ((i + 1 : Nat) : Int) * 1), rawInt ((n : Int) - ((i + 1 : Nat) : Int)), rawInt 1], #[]⟩ : Obj) = it at hmemI
    have hst' : hh'.get? s.heap.objs.size = some it := by rw [← hq]; exact hst
    have N₂ : News h₀ env.locals hh' ((s.heap.objs.size, it) :: news₁) := fun p hp => by
      rcases List.mem_cons.mp hp with rfl | hp
      · exact N₁ _ (List.mem_append_left _ hmemI)
      · exact N₁ _ (List.mem_append_right _ hp)
    have off₁ : ∀ p ∈ news₁, p.1 ≠ s.heap.objs.size := fun p hp e => hoff p hp (List.mem_singleton.mpr e)
    refine wpAny_mono (turn i t m₁ news₁ (s.heap.objs.size, it) hh' tk' hin hJ off₁ F₁ N₂ (by rw [← hq])) (fun f s₂ p => ?_) fun _ _ e => e
    have fin : TurnEnd h₀ env.locals { s with heap := hh', toks := tk' } (s.heap.objs.size, it) (Inv (i + 1)) s₂ →
        LoopStepU h₀ env.locals [s.heap.objs.size] own (J (i + 1)) { s with heap := hh', toks := tk' } .next s₂ := by
      rintro ⟨h', tk, m', news', e, F', N', ho, r⟩
      refine ⟨rfl, h', tk, m', news', e, F', fun p hp => ?_, fun p hp hI => ho p hp (List.mem_singleton.mp hI), r⟩
      · rcases List.mem_append.mp hp with hp | hp
        · have h2 : hh'.get? p.1 = some p.2 := hget p hp
          have h1 := List.mem_singleton.mp (hown p hp)
          have h3 : p = (s.heap.objs.size, it) := by
            rw [h1, hst'] at h2
            exact Prod.ext h1 (Option.some.inj h2).symm
          rw [h3]; exact N' _ (List.mem_cons_self ..)
        · exact N' _ (List.mem_cons_of_mem _ hp)
    cases f with
    | ret v => exact .ret p
    | brk => exact .brk p
    | next => exact .next (fin p)
    | cont => exact .cont (fin p)
  · rintro h' tk m' news' F' N' _ hJ
    exact done m' news' h' tk hJ F' N'
theorem each_rangeS {r : Addr} {n : Nat} {a1 b1 c1 : Tok} {m₀ : Str → Option Value} {news : Led} (stored : List Str) (P : Nat → Led → Prop) (hh : A.handled = none) (F : Fr h₀ env.locals s.heap m₀) (N : News h₀ env.locals s.heap news)
    (hm : IsRange s.heap r 0 n 1 a1 b1 c1) (hsm : Builtin.Range.small 0 n 1 = true) (hrs : Builtin.Range.rangeSize 0 n 1 = n) (h0 : P 0 news)
    (turn : ∀ i t (u : Str → Option Value) nx q h tk, i < n → P i nx → (∀ p ∈ nx, p.1 ≠ q.1) → Fr h₀ env.locals h (fun y => if y = x then some (.int (i : Nat) t) else if stored.contains y then u y else m₀ y) → News h₀ env.locals h (q :: nx) →
      wpAny (model prog w) A (execs body env) (TurnPost h₀ env.locals { s with heap := h, toks := tk } q (fun m' n' => (∀ y, y ≠ x → stored.contains y = false → m' y = m₀ y) ∧ P (i + 1) n') Q) E { s with heap := h, toks := tk })
    (done : ∀ (u : Str → Option Value) nx h tk, P n nx → Fr h₀ env.locals h (fun y => if y = x then u y else if stored.contains y then u y else m₀ y) → News h₀ env.locals h nx → Q .next { s with heap := h, toks := tk }) :
    wpAny (model prog w) A (pyIter (.ref r)) (fun it s₂ => LoopAtV prog w A h₀ env x body Q E it s₂) E s := by
  refine each_range hh F N hm hsm hrs (fun i m nx => (∀ y, y ≠ x → stored.contains y = false → m y = m₀ y) ∧ P i nx) ⟨fun _ _ _ => rfl, h0⟩ ?_ ?_
  · rintro i t m nx q h tk hi ⟨hmm, hP⟩ off F₁ N₁ _
    rw [pure_map hmm] at F₁
    exact turn i t m nx q h tk hi hP off F₁ N₁
  · rintro m nx h tk ⟨hmm, hP⟩ F₁ N₁
    rw [pure_map2 hmm] at F₁
    exact done m nx h tk hP F₁ N₁
theorem each_rangeQ {r : Addr} {n : Nat} {a1 b1 c1 : Tok} {m₀ : Str → Option Value} {news : Led} (stored : List Str) (P : Nat → Led → Prop) (hh : A.handled = none) (F : Fr h₀ env.locals s.heap m₀) (N : News h₀ env.locals s.heap news)
    (hm : IsRange s.heap r 0 n 1 a1 b1 c1) (hsm : Builtin.Range.small 0 n 1 = true) (hrs : Builtin.Range.rangeSize 0 n 1 = n) (h0 : P 0 news)
    (turn : ∀ i t (u : Str → Option Value) nx q h tk, i < n → P i nx → (∀ p ∈ nx, p.1 ≠ q.1) → Fr h₀ env.locals h (fun y => if y = x then some (.int (i : Nat) t) else if stored.contains y then u y else m₀ y) → News h₀ env.locals h (q :: nx) → q.2.cls = .type "range_iterator" →
      wpAny (model prog w) A (execs body env) (TurnPost h₀ env.locals { s with heap := h, toks := tk } q (fun m' n' => (∀ y, y ≠ x → stored.contains y = false → m' y = m₀ y) ∧ P (i + 1) n') Q) E { s with heap := h, toks := tk })
    (done : ∀ (u : Str → Option Value) nx h tk, P n nx → Fr h₀ env.locals h (fun y => if y = x then u y else if stored.contains y then u y else m₀ y) → News h₀ env.locals h nx → Q .next { s with heap := h, toks := tk }) :
    wpAny (model prog w) A (pyIter (.ref r)) (fun it s₂ => LoopAtV prog w A h₀ env x body Q E it s₂) E s := by
  refine each_range hh F N hm hsm hrs (fun i m nx => (∀ y, y ≠ x → stored.contains y = false → m y = m₀ y) ∧ P i nx) ⟨fun _ _ _ => rfl, h0⟩ ?_ ?_
  · rintro i t m nx q h tk hi ⟨hmm, hP⟩ off F₁ N₁ hqc
    rw [pure_map hmm] at F₁
    exact turn i t m nx q h tk hi hP off F₁ N₁ hqc
  · rintro m nx h tk ⟨hmm, hP⟩ F₁ N₁
    rw [pure_map2 hmm] at F₁
    exact done m nx h tk hP F₁ N₁
theorem eq_empty {l b : Addr} {vs : List Value} {n1 n2 : Nat} {L : Addr} {news : Led} {Q : Value → Shared → Prop} (N : News h₀ L s.heap news) (hl : (l, listOf vs.toArray n1) ∈ news) (hb : (b, listOf #[] n2) ∈ news) (hu : A.units < cLine)
    (h : Q (.bool vs.isEmpty) s) : wpAny (model prog w) A (compareOp .Eq (.ref l) (.ref b)) Q E s := by
  cases vs with
  | nil => exact SeqAt.eq_listAt (e := fun _ => true) (News.isList N hl) (News.isList N hb) rfl hu (fun j h1 => absurd h1 (by simp)) h
  | cons v vs => exact SeqAt.eq_list_lengthsAt (News.isList N hl) (News.isList N hb) (by simp) hu h
theorem ne_empty {l b : Addr} {vs : List Value} {n1 n2 : Nat} {L : Addr} {news : Led} {Q : Value → Shared → Prop} (N : News h₀ L s.heap news) (hl : (l, listOf vs.toArray n1) ∈ news) (hb : (b, listOf #[] n2) ∈ news) (hu : A.units < cLine)
    (h : Q (.bool (!vs.isEmpty)) s) : wpAny (model prog w) A (compareOp .NotEq (.ref l) (.ref b)) Q E s := by
  cases vs with
  | nil => exact SeqAt.RcNeAt.lists (e := fun _ => true) (News.isList N hl) (News.isList N hb) rfl hu (fun j h1 => absurd h1 (by simp)) prog w E Q h
  | cons v vs => exact SeqAt.RcNeAt.lists_lengths (News.isList N hl) (News.isList N hb) (by simp) hu prog w E Q h
end
/-! ## what stands while the classes are made -/
structure Bs (news base : Led) (C Ln : Addr) : Prop where
  ok : ∀ p ∈ base, p ∈ news ∧ p.1 ≠ C ∧ p.1 ≠ Ln
theorem Bs.up {news news' base : Led} {C Ln : Addr} (h : Bs news base C Ln) (hs : ∀ p ∈ news, p ∈ news') : Bs news' base C Ln := ⟨fun p hp => ⟨hs _ (h.ok p hp).1, (h.ok p hp).2⟩⟩
theorem Bs.turn {news news' base : Led} {C Ln : Addr} (h : Bs news base C Ln) (hs : Keeps C news news') : Bs news' base C Ln := ⟨fun p hp => ⟨hs _ (h.ok p hp).1 (h.ok p hp).2.1, (h.ok p hp).2⟩⟩
theorem Bs.turnL {news news' base : Led} {C Ln : Addr} (h : Bs news base C Ln) (hs : Keeps Ln news news') : Bs news' base C Ln := ⟨fun p hp => ⟨hs _ (h.ok p hp).1 (h.ok p hp).2.2, (h.ok p hp).2⟩⟩
theorem Bs.cons {news base : Led} {C Ln : Addr} {q : Addr × Obj} (h : Bs news base C Ln) (hq : q ∈ news) (h1 : q.1 ≠ C) (h2 : q.1 ≠ Ln) : Bs news (q :: base) C Ln := ⟨fun p hp => by
  rcases List.mem_cons.mp hp with rfl | hp
  · exact ⟨hq, h1, h2⟩
  · exact h.ok p hp⟩
theorem Bs.line {news base : Led} {C Ln : Addr} (h : Bs news base C C) (hL : ∀ p ∈ news, p.1 ≠ Ln) : Bs news base C Ln := ⟨fun p hp => ⟨(h.ok p hp).1, (h.ok p hp).2.1, hL p (h.ok p hp).1⟩⟩
theorem KlassFresh.add {news news' base : Led} {C Ln x : Addr} {key : Str} {pv : Value} {ifs : List Value} {oC oL : Obj} (kf : KlassFresh news news' x key pv ifs) (hb : Bs news base C Ln) (hK : Keeps C news news') (hC : (C, oC) ∈ news) (hL : (Ln, oL) ∈ news) :
    ∃ base', (∀ p ∈ base, p ∈ base') ∧ KlassAt base' x key pv ifs ∧ Bs news' base' C Ln := by
  obtain ⟨d, es, n, l, ln, t, h1, h2, h3, h4, h5, h6, h7⟩ := kf
  obtain ⟨c1, c2, c3⟩ := h7 _ hC
  obtain ⟨l1, l2, l3⟩ := h7 _ hL
  refine ⟨(x, instObj 580 d) :: (d, dictOf es n) :: (l, listOf ifs.toArray ln) :: base, fun p hp => .tail _ (.tail _ (.tail _ hp)), ⟨d, es, n, l, ln, t, .head _, .tail _ (.head _), h3, h4, h5, .tail _ (.tail _ (.head _))⟩, ?_⟩
  exact ((((hb.turn hK).cons h6 (Ne.symm c3) (Ne.symm l3)).cons h2 (Ne.symm c2) (Ne.symm l2)).cons h1 (Ne.symm c1) (Ne.symm l1))
def HostP (prog : Program) (w : World) (base : Led) (H T C : Addr) : Prop :=
  ∃ d es n oT, (H, instObj 559 d) ∈ base ∧ (d, dictOf es n) ∈ base ∧ getL "tools" es = some (some (.ref T)) ∧ getL "classes" es = some (some (.ref C)) ∧ getL "tool" es = some none ∧
    (T, oT) ∈ base ∧ oT.IsDictOf (strKind prog w) toolKvs ∧ (T == sysModules) = false ∧ (C == sysModules) = false
theorem HostP.mono {prog : Program} {w : World} {base base' : Led} {H T C : Addr} (h : HostP prog w base H T C) (hs : ∀ p ∈ base, p ∈ base') : HostP prog w base' H T C := by
  obtain ⟨d, es, n, oT, h1, h2, h3, h4, h5, h6, h7, h8, h9⟩ := h
  exact ⟨d, es, n, oT, hs _ h1, hs _ h2, h3, h4, h5, hs _ h6, h7, h8, h9⟩
theorem HostB.split {prog : Program} {w : World} {news : Led} {H T C : Addr} {kvs : List (Str × Value)} (h : HostB prog w news H T C kvs) : ∃ base oC, Bs news base C C ∧ HostP prog w base H T C ∧ (C, oC) ∈ news ∧ oC.IsDictOf (strKind prog w) kvs := by
  obtain ⟨d, es, n, oT, oC, h1, h2, h3, h4, h5, h6, h7, h8, h9, h10, h11, h12, h13, h14⟩ := h
  refine ⟨[(H, instObj 559 d), (d, dictOf es n), (T, oT)], oC, ?_, ⟨d, es, n, oT, .head _, .tail _ (.head _), h3, h4, h5, .tail _ (.tail _ (.head _)), h7, h8, h11⟩, h9, h10⟩
  exact (((Bs.mk (fun _ hp => absurd hp List.not_mem_nil)).cons h6 h14 h14).cons h2 h13 h13).cons h1 h12 h12
theorem HostP.host {prog : Program} {w : World} {news base : Led} {H T C Ln : Addr} {oC : Obj} {kvs : List (Str × Value)} (h : HostP prog w base H T C) (hb : Bs news base C Ln) (hC : (C, oC) ∈ news) (hd : oC.IsDictOf (strKind prog w) kvs) : HostB prog w news H T C kvs := by
  obtain ⟨d, es, n, oT, h1, h2, h3, h4, h5, h6, h7, h8, h9⟩ := h
  exact ⟨d, es, n, oT, oC, (hb.ok _ h1).1, (hb.ok _ h2).1, h3, h4, h5, (hb.ok _ h6).1, h7, h8, hC, hd, h9, (hb.ok _ h1).2.1, (hb.ok _ h2).2.1, (hb.ok _ h6).2.1⟩
theorem KlassAt.off {news base : Led} {C Ln a : Addr} {key : Str} {pv : Value} {ifs : List Value} (h : KlassAt base a key pv ifs) (hb : Bs news base C Ln) : KlassOff news C a key pv ifs := by
  obtain ⟨d, es, n, l, ln, t, h1, h2, h3, h4, h5, h6⟩ := h
  exact ⟨d, es, n, l, ln, t, (hb.ok _ h1).1, (hb.ok _ h2).1, h3, h4, h5, (hb.ok _ h6).1, (hb.ok _ h1).2.1, (hb.ok _ h2).2.1, (hb.ok _ h6).2.1⟩
structure Mark (n : Nat) : Prop where
def KV5 (x1 x2 x3 x4 x5 : Addr) : List (Str × Value) := [(Cls.trav.key, .ref x1), (Cls.iter.key, .ref x2), (Cls.clo.key, .ref x3), (Cls.walk.key, .ref x4), (Cls.oth.key, .ref x5)]
def wif (x1 x2 : Addr) (c : Bool) : List Value := if c then [.ref x2, .ref x1] else []
theorem Bs.fresh {h₀ h : Heap} {L C : Addr} {news base : Led} {q : Addr × Obj} {oC : Obj} (hb : Bs news base C C) (_N : News h₀ L h (q :: news)) (hl : ∀ p ∈ news, p.1 < q.1) (hC : (C, oC) ∈ news) : Bs (q :: news) (q :: base) C C :=
  (hb.up fun _ hp => .tail _ hp).cons (.head _) (Nat.ne_of_gt (hl _ hC)) (Nat.ne_of_gt (hl _ hC))
theorem walks_on {prog : Program} {w : World} {h₀ h : Heap} {L C W H T x1 x2 : Addr} {news nx base : Led} {oC : Obj} {n : Nat} {its : List Value} (_N : News h₀ L h ((W, listOf its.toArray n) :: nx)) (hb : Bs nx base C C) (hl : ∀ p ∈ nx, p.1 < W) (hC : (C, oC) ∈ nx) (hK : Keeps C news nx)
    (hP : HostP prog w base H T C) (k1 : KlassAt base x1 Cls.trav.key .none []) (k2 : KlassAt base x2 Cls.iter.key .none [.ref x1]) :
    ∃ base', Bs ((W, listOf its.toArray n) :: nx) base' C C ∧ (C, oC) ∈ ((W, listOf its.toArray n) :: nx) ∧ Keeps C news ((W, listOf its.toArray n) :: nx) ∧ HostP prog w base' H T C ∧ KlassAt base' x1 Cls.trav.key .none [] ∧ KlassAt base' x2 Cls.iter.key .none [.ref x1] ∧ (W, listOf its.toArray n) ∈ base' :=
  ⟨_ :: base, hb.fresh _N hl hC, .tail _ hC, hK.trans (Keeps.of fun _ hp => .tail _ hp), hP.mono fun _ hp => .tail _ hp, k1.mono fun _ hp => .tail _ hp, k2.mono fun _ hp => .tail _ hp, .head _⟩
theorem line_on {h₀ h : Heap} {L C Ln : Addr} {nx base : Led} {oC o : Obj} (_N : News h₀ L h ((Ln, o) :: nx)) (hb : Bs nx base C C) (hl : ∀ p ∈ nx, p.1 < Ln) (hC : (C, oC) ∈ nx) :
    Bs ((Ln, o) :: nx) base C Ln ∧ C ≠ Ln ∧ ∀ p ∈ nx, p.1 ≠ Ln :=
  ⟨(hb.line fun p hp => Nat.ne_of_lt (hl p hp)).up fun _ hp => .tail _ hp, Nat.ne_of_lt (hl _ hC), fun p hp => Nat.ne_of_lt (hl p hp)⟩
inductive PsOk (base : Led) (b : Nat → Bool) (x1 x2 : Addr) : Nat → List Addr → Prop
  | zero : PsOk base b x1 x2 0 []
  | one (p0 : Addr) : KlassAt base p0 Cls.p0.key .none (wif x1 x2 (b 0)) → PsOk base b x1 x2 1 [p0]
  | two (p0 p1 : Addr) : KlassAt base p0 Cls.p0.key .none (wif x1 x2 (b 0)) → KlassAt base p1 Cls.p1.key (.ref p0) (wif x1 x2 (b 0 || b 1)) → PsOk base b x1 x2 2 [p0, p1]
  | three (p0 p1 p2 : Addr) : KlassAt base p0 Cls.p0.key .none (wif x1 x2 (b 0)) → KlassAt base p1 Cls.p1.key (.ref p0) (wif x1 x2 (b 0 || b 1)) → KlassAt base p2 Cls.p2.key (.ref p1) (wif x1 x2 (b 0 || b 1 || b 2)) → PsOk base b x1 x2 3 [p0, p1, p2]
def psKvs : List Addr → List (Str × Value)
  | [] => []
  | [a] => [(Cls.p0.key, .ref a)]
  | [a, b] => [(Cls.p0.key, .ref a), (Cls.p1.key, .ref b)]
  | a :: b :: c :: _ => [(Cls.p0.key, .ref a), (Cls.p1.key, .ref b), (Cls.p2.key, .ref c)]
def LoopSt (prog : Program) (w : World) (news base0 : Led) (C Ln x1 x2 x3 x4 x5 : Addr) (b : Nat → Bool) (i : Nat) (nx : Led) : Prop :=
  ∃ base ps oC nL, Bs nx base C Ln ∧ (∀ p ∈ base0, p ∈ base) ∧ (C, oC) ∈ nx ∧ oC.IsDictOf (strKind prog w) (KV5 x1 x2 x3 x4 x5 ++ psKvs ps) ∧ (Ln, listOf (ps.map Value.ref).toArray nL) ∈ nx ∧ PsOk base b x1 x2 i ps ∧ Keeps C news nx
def lineB (bits : Int) (k : Nat) : Bool := decide ((bits.fdiv (2 ^ ((k : Nat) : Int).toNat)).fmod 2 = 1)
section
variable {prog : Program} {w : World} {A : Around} {E : Value → Shared → Prop} {s : Shared} {h₀ : Heap} {L : Addr} {m : Str → Option Value} {news : Led}
def PickEnd (h₀ : Heap) (L : Addr) (m : Str → Option Value) (news : Led) (s : Shared) (its : List Value) (v : Value) (s' : Shared) : Prop := ∃ I n h tk, v = .ref I ∧ s' = { s with heap := h, toks := tk } ∧ Fr h₀ L h m ∧ News h₀ L h ((I, listOf its.toArray n) :: news)
theorem PickEnd.old {its : List Value} {I : Addr} {n : Nat} {h : Heap} {tk : Nat} (F : Fr h₀ L h m) (N : News h₀ L h news) (hI : (I, listOf its.toArray n) ∈ news) : PickEnd h₀ L m news s its (.ref I) { s with heap := h, toks := tk } :=
  ⟨I, n, h, tk, rfl, rfl, F, fun p hp => by rcases List.mem_cons.mp hp with rfl | hp; exact N _ hI; exact N _ hp⟩
theorem PickEnd.new {its : List Value} {I : Addr} {n : Nat} {h : Heap} {tk : Nat} (F : Fr h₀ L h m) (N : News h₀ L h ((I, listOf its.toArray n) :: news)) : PickEnd h₀ L m news s its (.ref I) { s with heap := h, toks := tk } := ⟨I, n, h, tk, rfl, rfl, F, N⟩
theorem pick_any {t : Sem Value} {Q : Value → Shared → Prop} (its : List Value) (_F : Fr h₀ L s.heap m) (_N : News h₀ L s.heap news)
    (h : CutMark → wpAny (model prog w) A t (PickEnd h₀ L m news s its) E s)
    (k : ∀ I n h tk, Fr h₀ L h m → News h₀ L h ((I, listOf its.toArray n) :: news) → Q (.ref I) { s with heap := h, toks := tk }) : wpAny (model prog w) A t Q E s :=
  wpAny_mono (h ⟨⟩) (fun b s' z => by obtain ⟨I, n, h', tk, e, e', F, N⟩ := z; rw [e, e']; exact k I n h' tk F N) fun _ _ e => e
end
theorem wif_app (x1 x2 : Addr) (a b : Bool) : wif x1 x2 a ++ wif x1 x2 (b && (wif x1 x2 a).isEmpty) = wif x1 x2 (a || b) := by cases a <;> cases b <;> rfl
theorem wif_len (x1 x2 : Addr) (a : Bool) : (wif x1 x2 a).length ≤ 100 := by cases a <;> exact Nat.le_of_ble_eq_true rfl
theorem Bs.iter {nx base : Led} {C Ln : Addr} {q : Addr × Obj} (hb : Bs nx base C Ln) (off : ∀ p ∈ nx, p.1 ≠ q.1) : Bs (q :: nx) base C q.1 := ⟨fun p hp => ⟨.tail _ (hb.ok p hp).1, (hb.ok p hp).2.1, off p (hb.ok p hp).1⟩⟩
theorem KlassFresh.add2 {news news' base : Led} {C Ln Z x : Addr} {key : Str} {pv : Value} {ifs : List Value} {oC oL oZ : Obj} (kf : KlassFresh news news' x key pv ifs) (hb : Bs news base C Ln) (hz : Bs news base C Z) (hK : Keeps C news news') (hC : (C, oC) ∈ news) (hL : (Ln, oL) ∈ news) (hZ : (Z, oZ) ∈ news) :
    ∃ base', (∀ p ∈ base, p ∈ base') ∧ KlassAt base' x key pv ifs ∧ Bs news' base' C Ln ∧ Bs news' base' C Z := by
  obtain ⟨d, es, n, l, ln, t, h1, h2, h3, h4, h5, h6, h7⟩ := kf
  obtain ⟨c1, c2, c3⟩ := h7 _ hC
  obtain ⟨l1, l2, l3⟩ := h7 _ hL
  obtain ⟨z1, z2, z3⟩ := h7 _ hZ
  refine ⟨(x, instObj 580 d) :: (d, dictOf es n) :: (l, listOf ifs.toArray ln) :: base, fun p hp => .tail _ (.tail _ (.tail _ hp)), ⟨d, es, n, l, ln, t, .head _, .tail _ (.head _), h3, h4, h5, .tail _ (.tail _ (.head _))⟩, ?_, ?_⟩
  · exact ((((hb.turn hK).cons h6 (Ne.symm c3) (Ne.symm l3)).cons h2 (Ne.symm c2) (Ne.symm l2)).cons h1 (Ne.symm c1) (Ne.symm l1))
  · exact ((((hz.turn hK).cons h6 (Ne.symm c3) (Ne.symm z3)).cons h2 (Ne.symm c2) (Ne.symm z2)).cons h1 (Ne.symm c1) (Ne.symm z1))
theorem line_end {prog : Program} {w : World} {h₀ h : Heap} {L C Ln x1 x2 x3 x4 x5 : Addr} {m' m₀ : Str → Option Value} {q : Addr × Obj} {news b5 base' nx nx' : Led} {oC' : Obj} {b : Nat → Bool} {i nL : Nat} {ps : List Addr} {x : Str} {st : List Str} {s₁ : Shared} {tk : Nat}
    (F : Fr h₀ L h m') (N : News h₀ L h ((Ln, listOf (ps.map Value.ref).toArray nL) :: Led.off nx' Ln)) (off : ∀ p ∈ nx, p.1 ≠ q.1) (hK : Keeps C (q :: nx) nx') (hb : Bs nx' base' C Ln) (hq : Bs nx' base' C q.1) (hsub : ∀ p ∈ b5, p ∈ base')
    (hC : (C, oC') ∈ nx') (hCL : C ≠ Ln) (hCq : C ≠ q.1) (hLq : Ln ≠ q.1) (hd : oC'.IsDictOf (strKind prog w) (KV5 x1 x2 x3 x4 x5 ++ psKvs ps)) (hps : PsOk base' b x1 x2 i ps) (hKK : Keeps C news nx) (hnL : ∀ p ∈ news, p.1 ≠ Ln)
    (hm : ∀ y, y ≠ x → st.contains y = false → m' y = m₀ y) :
    TurnEnd h₀ L s₁ q (fun m' n' => (∀ y, y ≠ x → st.contains y = false → m' y = m₀ y) ∧ LoopSt prog w news b5 C Ln x1 x2 x3 x4 x5 b i n') { s₁ with heap := h, toks := tk } := by
  have hqA : q ∈ ((Ln, listOf (ps.map Value.ref).toArray nL) :: Led.off nx' Ln) := .tail _ (Led.off_keeps _ (hK _ (.head _) (Ne.symm hCq)) (Ne.symm hLq))
  refine ⟨h, tk, m', Led.off _ q.1, rfl, F, News.off N hqA, Led.off_ne, hm, base', ps, oC', nL, ⟨fun p hp => ⟨?_, (hb.ok p hp).2⟩⟩, hsub, ?_, hd, ?_, hps, ?_⟩
  · exact Led.off_keeps _ (.tail _ (Led.off_keeps _ (hb.ok p hp).1 (hb.ok p hp).2.2)) (hq.ok p hp).2.2
  · exact Led.off_keeps _ (.tail _ (Led.off_keeps _ hC hCL)) hCq
  · exact Led.off_keeps _ (.head _) hLq
  · intro p hp hn
    have h1 := hKK p hp hn
    exact Led.off_keeps _ (.tail _ (Led.off_keeps _ (hK _ (.tail _ h1) hn) (hnL p hp))) (off p h1)
def lineWk (b : Nat → Bool) : Nat := if b 0 then 0 else if b 1 then 1 else if b 2 then 2 else 3
theorem lineWk_le (b : Nat → Bool) : lineWk b ≤ 3 := by unfold lineWk; repeat (first | decide | split)
def adOf (x1 x2 x3 x4 x5 p0 p1 p2 : Addr) : Cls → Addr
  | .trav => x1 | .iter => x2 | .clo => x3 | .walk => x4 | .oth => x5 | .p0 => p0 | .p1 => p1 | .p2 => p2
theorem wif_ifs (b : Nat → Bool) (x1 x2 x3 x4 x5 p0 p1 p2 : Addr) :
    wif x1 x2 (b 0) = (Cls.p0.ifs (lineWk b)).map (fun c => Value.ref (adOf x1 x2 x3 x4 x5 p0 p1 p2 c)) ∧ wif x1 x2 (b 0 || b 1) = (Cls.p1.ifs (lineWk b)).map (fun c => Value.ref (adOf x1 x2 x3 x4 x5 p0 p1 p2 c)) ∧
    wif x1 x2 (b 0 || b 1 || b 2) = (Cls.p2.ifs (lineWk b)).map (fun c => Value.ref (adOf x1 x2 x3 x4 x5 p0 p1 p2 c)) := by
  unfold lineWk
  cases b 0 <;> cases b 1 <;> cases b 2 <;> exact ⟨rfl, rfl, rfl⟩
theorem wld_of {prog : Program} {w : World} {nx base : Led} {H T C Ln x1 x2 x3 x4 x5 p0 p1 p2 : Addr} {oC : Obj} {b : Nat → Bool} (hP : HostP prog w base H T C) (hb : Bs nx base C Ln) (hC : (C, oC) ∈ nx) (hd : oC.IsDictOf (strKind prog w) (KV5 x1 x2 x3 x4 x5 ++ psKvs [p0, p1, p2]))
    (k1 : KlassAt base x1 Cls.trav.key .none []) (k2 : KlassAt base x2 Cls.iter.key .none [.ref x1]) (k3 : KlassAt base x3 Cls.clo.key .none []) (k4 : KlassAt base x4 Cls.walk.key .none [.ref x2, .ref x1]) (k5 : KlassAt base x5 Cls.oth.key .none [])
    (k6 : KlassAt base p0 Cls.p0.key .none (wif x1 x2 (b 0))) (k7 : KlassAt base p1 Cls.p1.key (.ref p0) (wif x1 x2 (b 0 || b 1))) (k8 : KlassAt base p2 Cls.p2.key (.ref p1) (wif x1 x2 (b 0 || b 1 || b 2))) :
    Wld prog w nx (lineWk b) (adOf x1 x2 x3 x4 x5 p0 p1 p2) H := by
  obtain ⟨e1, e2, e3⟩ := wif_ifs b x1 x2 x3 x4 x5 p0 p1 p2
  rw [e1] at k6
  rw [e2] at k7
  rw [e3] at k8
  refine ⟨⟨fun c => ?_⟩, ?_⟩
  · have m : ∀ p ∈ base, p ∈ nx := fun p hp => (hb.ok p hp).1
    cases c with
    | trav => exact k1.mono m
    | iter => exact k2.mono m
    | clo => exact k3.mono m
    | walk => exact k4.mono m
    | oth => exact k5.mono m
    | p0 => exact k6.mono m
    | p1 => exact k7.mono m
    | p2 => exact k8.mono m
  · exact HostB.at (hP.host hb hC (show oC.IsDictOf (strKind prog w) (clsKvs (adOf x1 x2 x3 x4 x5 p0 p1 p2)) from hd))
theorem LoopSt.elim {prog : Program} {w : World} {news base0 : Led} {C Ln x1 x2 x3 x4 x5 : Addr} {b : Nat → Bool} {i : Nat} {nx : Led} {G : Prop} (h : LoopSt prog w news base0 C Ln x1 x2 x3 x4 x5 b i nx)
    (k : ∀ base ps oC nL, Bs nx base C Ln → (∀ p ∈ base0, p ∈ base) → (C, oC) ∈ nx → oC.IsDictOf (strKind prog w) (KV5 x1 x2 x3 x4 x5 ++ psKvs ps) → (Ln, listOf (ps.map Value.ref).toArray nL) ∈ nx → PsOk base b x1 x2 i ps → Keeps C news nx → G) : G := by
  obtain ⟨base, ps, oC, nL, hb, hsub, hC, hd, hL, hps, hKK⟩ := h
  exact k base ps oC nL hb hsub hC hd hL hps hKK
section
variable {prog : Program} {w : World} {p : Program} {loose : List Str} {mean : ExcName → Option Value} {mg mb : Str → Option Value} {dp un : Nat} {gd : Option (List Code)} {cn : Str} {cs : Scope} {a : Addr} {ccd : Value} {cl : List (Str × Addr)} {outer : List Env} {A₀ : Around} {base₀ h₀ : Heap} {L : Addr} {m : Str → Option Value} {news : Led} {s : Shared} {Q E : Value → Shared → Prop}
/-- _law_put's call, flat: a class without a parent -/
theorem put_none (key : Str) {name : Str} {t : Tok} (hkey : lowerS name = key) {H T0 C I Ln Z : Addr} {oC oL oZ : Obj} {kvs : List (Str × Value)} {its : List Value} {n : Nat} {base : Led}
    (B : Below A₀ base₀ outer h₀) (F : Fr h₀ L s.heap m) (X : (hd.heap_1 w.params).In h₀) (N : News h₀ L s.heap news) (T : Top p loose mean mg mb h₀) (hk : cs.kind = .function) (hd : dp + 5 < recursionLimit) (hu : un + 8 * 5 < cLine)
    (hP : HostP prog w base H T0 C) (hb : Bs news base C Ln) (hz : Bs news base C Z) (hC : (C, oC) ∈ news) (hdd : oC.IsDictOf (strKind prog w) kvs) (hL : (Ln, oL) ∈ news) (hZ : (Z, oZ) ∈ news) (hkv : kvs.length ≤ 100) (hn1 : name.cps.size ≤ 1000) (hn2 : ∀ k ∈ name.cps.toList, k < 1000)
    (hI : (I, listOf its.toArray n) ∈ news) (hil : its.length ≤ 100)
    (ret : ∀ x oC' base' news' h' tk', Fr h₀ L h' m → News h₀ L h' news' → Keeps C news news' → (C, oC') ∈ news' → oC'.IsDictOf (strKind prog w) (stored kvs key (.ref x)) → (∀ p ∈ base, p ∈ base') → KlassAt base' x key .none its → Bs news' base' C Ln → Bs news' base' C Z → HostP prog w base' H T0 C →
      Q (.ref x) { s with heap := h', toks := tk' }) :
    wpAny (model prog w) (ktrTop dp un gd cn cs L a ccd cl outer) (call (.ref 603) [.ref H, .str name t, .none, .ref I]) Q E s := by
  subst hkey
  refine (law_put_ct prog w).use B F X N T hk (.none H T0 C kvs name t I its n (hP.host hb hC hdd) hkv hn1 hn2 hI hil) hd hu fun r news' h' tk' F' N' P => ?_
  obtain ⟨x, oC', rfl, hK, hC', hd', kf⟩ := P
  obtain ⟨base', sub, ka, hb', hz'⟩ := kf.add2 hb hz hK hC hL hZ
  exact ret x oC' base' news' h' tk' F' N' hK hC' hd' sub ka hb' hz' (hP.mono sub)
/-- a class with a parent -/
theorem put_some (key : Str) {name : Str} {t : Tok} (hkey : lowerS name = key) (ifs : List Value) {H T0 C I Ln Z pa : Addr} {oC oL oZ : Obj} {kvs : List (Str × Value)} {its : List Value} {n : Nat} {base : Led} {akey : Str} {pv : Value} {aifs : List Value}
    (B : Below A₀ base₀ outer h₀) (F : Fr h₀ L s.heap m) (X : (hd.heap_1 w.params).In h₀) (N : News h₀ L s.heap news) (T : Top p loose mean mg mb h₀) (hk : cs.kind = .function) (hd : dp + 5 < recursionLimit) (hu : un + 8 * 5 < cLine)
    (hP : HostP prog w base H T0 C) (hb : Bs news base C Ln) (hz : Bs news base C Z) (hC : (C, oC) ∈ news) (hdd : oC.IsDictOf (strKind prog w) kvs) (hL : (Ln, oL) ∈ news) (hZ : (Z, oZ) ∈ news) (hkv : kvs.length ≤ 100) (hn1 : name.cps.size ≤ 1000) (hn2 : ∀ k ∈ name.cps.toList, k < 1000)
    (hI : (I, listOf its.toArray n) ∈ news) (hil : its.length ≤ 100) (ha : KlassAt base pa akey pv aifs) (hal : aifs.length ≤ 100) (hifs : aifs ++ its = ifs)
    (ret : ∀ x oC' base' news' h' tk', Fr h₀ L h' m → News h₀ L h' news' → Keeps C news news' → (C, oC') ∈ news' → oC'.IsDictOf (strKind prog w) (stored kvs key (.ref x)) → (∀ p ∈ base, p ∈ base') → KlassAt base' x key (.ref pa) ifs → Bs news' base' C Ln → Bs news' base' C Z → HostP prog w base' H T0 C →
      Q (.ref x) { s with heap := h', toks := tk' }) :
    wpAny (model prog w) (ktrTop dp un gd cn cs L a ccd cl outer) (call (.ref 603) [.ref H, .str name t, .ref pa, .ref I]) Q E s := by
  subst hkey
  subst hifs
  refine (law_put_ct prog w).use B F X N T hk (.some H T0 C kvs name t I its n pa akey pv aifs (hP.host hb hC hdd) hkv hn1 hn2 hI hil (ha.off hb) hal) hd hu fun r news' h' tk' F' N' P => ?_
  obtain ⟨x, oC', rfl, hK, hC', hd', kf⟩ := P
  obtain ⟨base', sub, ka, hb', hz'⟩ := kf.add2 hb hz hK hC hL hZ
  exact ret x oC' base' news' h' tk' F' N' hK hC' hd' sub ka hb' hz' (hP.mono sub)
end
theorem walks_onK {prog : Program} {w : World} {h₀ h : Heap} {L C W H T x1 x2 : Addr} {news nx base : Led} {oC : Obj} {n : Nat} {its : List Value} {G : Prop} (_N : News h₀ L h ((W, listOf its.toArray n) :: nx)) (hb : Bs nx base C C) (hl : ∀ p ∈ nx, p.1 < W) (hC : (C, oC) ∈ nx) (hK : Keeps C news nx)
    (hP : HostP prog w base H T C) (k1 : KlassAt base x1 Cls.trav.key .none []) (k2 : KlassAt base x2 Cls.iter.key .none [.ref x1])
    (k : ∀ base', Bs ((W, listOf its.toArray n) :: nx) base' C C → (C, oC) ∈ ((W, listOf its.toArray n) :: nx) → Keeps C news ((W, listOf its.toArray n) :: nx) → HostP prog w base' H T C → KlassAt base' x1 Cls.trav.key .none [] → KlassAt base' x2 Cls.iter.key .none [.ref x1] → (W, listOf its.toArray n) ∈ base' → G) : G := by
  obtain ⟨b, h1, h2, h3, h4, h5, h6, h7⟩ := walks_on _N hb hl hC hK hP k1 k2
  exact k b h1 h2 h3 h4 h5 h6 h7
end
section
local macro_rules | `(tactic| ktr_units) => `(tactic| ((have hcL9 := cLine_is); (try simp only [units_in1, units_deeper, units_under_make, Around.mark_units, units_caller] at *); (try dsimp only [ktrTop] at *); omega))
local macro_rules | `(tactic| walk_at "call ref") => stopCall "603"
local macro_rules | `(tactic| walk_at "compareOp Eq ref ref") => stopOut
local macro_rules | `(tactic| walk_at "compareOp NotEq ref ref") => stopOut
local macro_rules | `(tactic| walk_at "exec For Name Call cons nil") => forLine
local macro_rules | `(tactic| walk_at "storeName") => stopStore "walks" "1"
local macro_rules | `(tactic| walk_at "storeName") => stopStore "line" "2"
local macro_rules | `(tactic| walk_at "eval BoolOp") => stopUncut
local macro_rules | `(tactic| walk_at "eval IfExp") => do stopUncut [← marked "3"]
inductive LineRel (prog : Program) (w : World) (news : Led) : List Value → (Led → Value → Prop) → Prop where
  | mk (H T C : Addr) (bits : Int) (t : Tok) : HostB prog w news H T C [] → LineRel prog w news [.ref H, .int bits t] (fun news' r => ∃ wk ad l n, r = .ref l ∧ wk ≤ 3 ∧ Keeps C news news' ∧ Wld prog w news' wk ad H ∧ (l, listOf [.ref (ad .p0), .ref (ad .p1), .ref (ad .p2)].toArray n) ∈ news')
theorem law_line_ct (prog : Program) (w : World) : CtM prog w 610 7 (LineRel prog w) := by
  (have hx : fillK PySem.Challenge.rw_pq0853_01 hd.heap_1 = fillK PySem.Challenge.rw_pq0853_01 hd.heap_1 := by k_fill; rfl)
  clear hx
  refine CtM.of fun news vs Post hR => ?_
  obtain ⟨H, T0, C, bits, tb, hH⟩ := hR
  obtain ⟨b0, oC0, hb0, hP0, hC0, hd0⟩ := hH.split
  have hKK0 : Keeps C news news := Keeps.of fun _ h => h
  unfold CtMB
  intro p loose mean mg mb dp un gd cn cs a ccd cl outer A₀ base h₀ L m s Q E B F X N T hk hd hu hret
  refine wpAny_call ?_
  k_dflt ktr_enter
  k_steps
  unfold Stop
  with_reducible rename News _ _ _ _ => Na1
  refine' put_none Cls.trav.key ?qk (its := []) ?kB ?kF ?kX Na1 ?kT ?kK ?kd ?ku hP0 (hb0.up (fun p hp => by repeat (first | exact hp | apply List.mem_cons_of_mem))) (hb0.up (fun p hp => by repeat (first | exact hp | apply List.mem_cons_of_mem))) (by k_mem) hd0 (by k_mem) (by k_mem) (Nat.le_of_ble_eq_true rfl) (by decide) (by decide) (by k_mem) (Nat.le_of_ble_eq_true rfl) ?_
  case qk => rfl
  case kB => k_asm
  case kF => k_asm
  case kX => k_asm
  case kT => k_asm
  case kK => first | exact rfl | assumption
  case kd => ktr_room
  case ku => ktr_units
  intro x1 oC1 b1 nx1 h9 tk9 F9 N9 hK1 hC1 hd1' sub1 ka1 hb1 _ hP1
  (try dsimp only)
  have hd1 : oC1.IsDictOf (strKind prog w) [(Cls.trav.key, .ref x1)] := hd1'
  clear hd1'
  have hKK1 := hKK0.trans ((Keeps.of (fun p hp => by repeat (first | exact hp | apply List.mem_cons_of_mem))).trans hK1)
  k_steps
  unfold Stop
  with_reducible rename News _ _ _ _ => Na2
  refine' put_none Cls.iter.key ?qk (its := [.ref x1]) ?kB ?kF ?kX Na2 ?kT ?kK ?kd ?ku hP1 (hb1.up (fun p hp => by repeat (first | exact hp | apply List.mem_cons_of_mem))) (hb1.up (fun p hp => by repeat (first | exact hp | apply List.mem_cons_of_mem))) (by k_mem) hd1 (by k_mem) (by k_mem) (Nat.le_of_ble_eq_true rfl) (by decide) (by decide) (by k_mem) (Nat.le_of_ble_eq_true rfl) ?_
  case qk => rfl
  case kB => k_asm
  case kF => k_asm
  case kX => k_asm
  case kT => k_asm
  case kK => first | exact rfl | assumption
  case kd => ktr_room
  case ku => ktr_units
  intro x2 oC2 b2 nx2 h9 tk9 F9 N9 hK2 hC2 hd2' sub2 ka2 hb2 _ hP2
  (try dsimp only)
  have hd2 : oC2.IsDictOf (strKind prog w) [(Cls.trav.key, .ref x1), (Cls.iter.key, .ref x2)] := hd2'
  clear hd2'
  have hKK2 := hKK1.trans ((Keeps.of (fun p hp => by repeat (first | exact hp | apply List.mem_cons_of_mem))).trans hK2)
  replace ka1 := ka1.mono sub2
  k_steps
  unfold Stop
  with_reducible rename News _ _ _ _ => NW
  rename ∀ p ∈ (nx2 : Led), p.1 < _ => lW
  have mk1 : Mark 1 := ⟨⟩
  refine walks_onK (its := [.ref x2, .ref x1]) NW hb2 lW hC2 hKK2 hP2 ka1 ka2 ?_
  clear hb2 hC2 hKK2 hP2 ka1 ka2
  intro b2' hb2 hC2 hKK2 hP2 ka1 ka2 hW
  k_steps
  unfold Stop
  with_reducible rename News _ _ _ _ => Na3
  refine' put_none Cls.clo.key ?qk (its := []) ?kB ?kF ?kX Na3 ?kT ?kK ?kd ?ku hP2 (hb2.up (fun p hp => by repeat (first | exact hp | apply List.mem_cons_of_mem))) (hb2.up (fun p hp => by repeat (first | exact hp | apply List.mem_cons_of_mem))) (by k_mem) hd2 (by k_mem) (by k_mem) (Nat.le_of_ble_eq_true rfl) (by decide) (by decide) (by k_mem) (Nat.le_of_ble_eq_true rfl) ?_
  case qk => rfl
  case kB => k_asm
  case kF => k_asm
  case kX => k_asm
  case kT => k_asm
  case kK => first | exact rfl | assumption
  case kd => ktr_room
  case ku => ktr_units
  intro x3 oC3 b3 nx3 h9 tk9 F9 N9 hK3 hC3 hd3' sub3 ka3 hb3 _ hP3
  (try dsimp only)
  have hd3 : oC3.IsDictOf (strKind prog w) [(Cls.trav.key, .ref x1), (Cls.iter.key, .ref x2), (Cls.clo.key, .ref x3)] := hd3'
  clear hd3'
  have hKK3 := hKK2.trans ((Keeps.of (fun p hp => by repeat (first | exact hp | apply List.mem_cons_of_mem))).trans hK3)
  replace ka1 := ka1.mono sub3
  replace ka2 := ka2.mono sub3
  replace hW := sub3 _ hW
  k_steps
  unfold Stop
  with_reducible rename News _ _ _ _ => Na4
  refine' put_none Cls.walk.key ?qk (its := [.ref x2, .ref x1]) ?kB ?kF ?kX Na4 ?kT ?kK ?kd ?ku hP3 (hb3.up (fun p hp => by repeat (first | exact hp | apply List.mem_cons_of_mem))) (hb3.up (fun p hp => by repeat (first | exact hp | apply List.mem_cons_of_mem))) (by k_mem) hd3 (by k_mem) (by k_mem) (Nat.le_of_ble_eq_true rfl) (by decide) (by decide) (hb3.ok _ hW).1 (Nat.le_of_ble_eq_true rfl) ?_
  case qk => rfl
  case kB => k_asm
  case kF => k_asm
  case kX => k_asm
  case kT => k_asm
  case kK => first | exact rfl | assumption
  case kd => ktr_room
  case ku => ktr_units
  intro x4 oC4 b4 nx4 h9 tk9 F9 N9 hK4 hC4 hd4' sub4 ka4 hb4 _ hP4
  (try dsimp only)
  have hd4 : oC4.IsDictOf (strKind prog w) [(Cls.trav.key, .ref x1), (Cls.iter.key, .ref x2), (Cls.clo.key, .ref x3), (Cls.walk.key, .ref x4)] := hd4'
  clear hd4'
  have hKK4 := hKK3.trans ((Keeps.of (fun p hp => by repeat (first | exact hp | apply List.mem_cons_of_mem))).trans hK4)
  replace ka1 := ka1.mono sub4
  replace ka2 := ka2.mono sub4
  replace ka3 := ka3.mono sub4
  replace hW := sub4 _ hW
  k_steps
  unfold Stop
  with_reducible rename News _ _ _ _ => Na5
  refine' put_none Cls.oth.key ?qk (its := []) ?kB ?kF ?kX Na5 ?kT ?kK ?kd ?ku hP4 (hb4.up (fun p hp => by repeat (first | exact hp | apply List.mem_cons_of_mem))) (hb4.up (fun p hp => by repeat (first | exact hp | apply List.mem_cons_of_mem))) (by k_mem) hd4 (by k_mem) (by k_mem) (Nat.le_of_ble_eq_true rfl) (by decide) (by decide) (by k_mem) (Nat.le_of_ble_eq_true rfl) ?_
  case qk => rfl
  case kB => k_asm
  case kF => k_asm
  case kX => k_asm
  case kT => k_asm
  case kK => first | exact rfl | assumption
  case kd => ktr_room
  case ku => ktr_units
  intro x5 oC5 b5 nx5 h9 tk9 F9 N9 hK5 hC5 hd5' sub5 ka5 hb5 _ hP5
  (try dsimp only)
  have hd5 : oC5.IsDictOf (strKind prog w) [(Cls.trav.key, .ref x1), (Cls.iter.key, .ref x2), (Cls.clo.key, .ref x3), (Cls.walk.key, .ref x4), (Cls.oth.key, .ref x5)] := hd5'
  clear hd5'
  have hKK5 := hKK4.trans ((Keeps.of (fun p hp => by repeat (first | exact hp | apply List.mem_cons_of_mem))).trans hK5)
  replace ka1 := ka1.mono sub5
  replace ka2 := ka2.mono sub5
  replace ka3 := ka3.mono sub5
  replace ka4 := ka4.mono sub5
  replace hW := sub5 _ hW
  k_steps
  unfold Stop
  with_reducible rename News _ _ _ _ => NL
  rename ∀ p ∈ (nx5 : Led), p.1 < _ => lL
  have mk2 : Mark 2 := ⟨⟩
  obtain ⟨hbL, hCL, offL⟩ := line_on NL hb5 lL hC5
  have hnL : ∀ p ∈ news, p.1 ≠ _ := fun p hp => Classical.byCases (fun e : p.1 = C => e ▸ hCL) fun e => offL p (hKK5 p hp e)
  k_steps
  unfold Stop
  with_reducible rename Fr _ _ _ _ => FL
  with_reducible rename News _ _ _ _ => NL2
  refine each_rangeS (n := 3) [("above" : Str), "is_walk"] (LoopSt prog w news b5 C _ x1 x2 x3 x4 x5 (lineB bits)) (by rfl) FL NL2 (by assumption) (by decide) (by decide) ⟨b5, [], oC5, _, hbL, fun _ h => h, by k_mem, hd5, by k_mem, .zero, hKK5.trans (Keeps.of (fun p hp => List.mem_cons_of_mem _ hp))⟩ ?_ ?_
  · intro i t u nx q h tk hi hLS
    refine hLS.elim ?_
    intro base ps oC nL hb hsub hC hd hL hps hKK off F1 N1
    have hCq : C ≠ q.1 := off _ hC
    have hLq := off _ hL
    have hCLn := hL
    cases hps with
    | zero =>
      k_steps
      unfold Stop
      with_reducible rename News _ _ _ _ => N2
      refine ne_empty (vs := []) N2 (.tail _ (.tail _ hL)) (.head _) (by ktr_units) ?_
      dsimp only [List.isEmpty, Bool.not_true, Bool.not_false]
      k_steps
      unfold Stop
      refine cut_any (news := q :: nx) (.bool (lineB bits 0)) (by assumption) (by first | assumption | exact news_drop1 (by assumption)) ?_ ?_
      · intro cm
        k_steps
        · rename _ = 1 => hb1
          exact CutEnd.mk (congrArg Value.bool (decide_eq_true hb1).symm) (by assumption) (by first | assumption | exact news_drop1 (by assumption) | exact news_drop2 (by assumption))
        · rename _ ≠ 1 => hb1
          exact CutEnd.mk rfl (by assumption) (by first | assumption | exact news_drop1 (by assumption) | exact news_drop2 (by assumption))
      · intro h9 tk9 F9 N9
        have mk3 : Mark 3 := ⟨⟩
        k_steps
        unfold Stop
        refine pick_any (news := q :: nx) (wif x1 x2 (lineB bits 0)) (by assumption) (by assumption) ?_ ?_
        · intro cm
          k_steps
          · with_reducible rename _ = true => hb1
            rw [show wif x1 x2 (lineB bits 0) = [.ref x2, .ref x1] from by rw [wif, hb1]; rfl]
            exact PickEnd.old (by assumption) (by assumption) (.tail _ (hb.ok _ (hsub _ hW)).1)
          · with_reducible rename _ = false => hb1
            rw [show wif x1 x2 (lineB bits 0) = [] from by rw [wif, hb1]; rfl]
            exact PickEnd.new (by assumption) (by assumption)
        · intro I9 n9 h9 tk9 F9 N9
          k_steps
          unfold Stop
          with_reducible rename News _ _ _ _ => Na9
          refine' put_none Cls.p0.key ?qk (its := (wif x1 x2 (lineB bits 0))) ?kB ?kF ?kX Na9 ?kT ?kK ?kd ?ku (hP5.mono hsub) (hb.up fun p hp => .tail _ (.tail _ hp)) ((hb.iter off).up fun p hp => .tail _ hp) (.tail _ (.tail _ hC)) hd (.tail _ (.tail _ hL)) (.tail _ (.head _)) (Nat.le_of_ble_eq_true rfl) (by decide) (by decide) (.head _) (wif_len _ _ _) ?_
          case qk => rfl
          case kB => k_asm
          case kF => k_asm
          case kX => k_asm
          case kT => k_asm
          case kK => first | exact rfl | assumption
          case kd => ktr_room
          case ku => ktr_units
          intro x6 oC6 base' nx9 h9 tk9 F9 N9 hK9' hC9 hd9 sub9 hk9 hb9 hq9 _
          (try dsimp only)
          have hK9 : Keeps C (q :: nx) nx9 := fun p hp hn => hK9' p (.tail _ hp) hn
          k_steps
          unfold Stop
          refine append_off (by k_asm) (by k_asm) (hK9 _ (.tail _ hL) (Ne.symm hCL)) (by rw [sizeLine_eq]; exact Nat.le_of_ble_eq_true rfl) ?_
          intro h8 F8 N8
          k_steps
          unfold Stop
          refine line_end (ps := [x6]) (by k_asm) (by k_asm) off hK9 hb9 hq9 (fun p hp => sub9 _ (hsub p hp)) hC9 hCL hCq hLq hd9 (PsOk.one x6 hk9) hKK hnL ?_
          intro y h1 h2
          have h3 := h2
          simp only [List.contains_cons, List.contains_nil, Bool.or_false, Bool.or_eq_false_iff, beq_eq_false_iff_ne] at h3
          simp only [h1, h2, h3.1, h3.2, if_false, Bool.false_eq_true]
    | one p0 hk0 =>
      k_steps
      unfold Stop
      with_reducible rename News _ _ _ _ => N2
      refine ne_empty (vs := [.ref p0]) N2 (.tail _ (.tail _ hL)) (.head _) (by ktr_units) ?_
      dsimp only [List.isEmpty, Bool.not_true, Bool.not_false]
      refine hk0.elim ?_
      intro dp' ep' np' lp' lnp' tp' g1 g2 g3 g4 g5 g6
      replace g1 := List.mem_cons_of_mem q (hb.ok _ g1).1
      replace g2 := List.mem_cons_of_mem q (hb.ok _ g2).1
      replace g6 := List.mem_cons_of_mem q (hb.ok _ g6).1
      k_steps
      with_reducible rename News _ _ _ _ => N3
      refine kde_neg (vs := [.ref p0]) (News.isList N3 (.tail _ (.tail _ hL))) (by decide) (by decide) (by rfl) (by rfl) ?_
      k_steps
      unfold Stop
      refine cut_any (news := q :: nx) (.bool (lineB bits 1 && (wif x1 x2 (lineB bits 0)).isEmpty)) (by assumption) (by first | assumption | exact news_drop1 (by assumption)) ?_ ?_
      · intro cm
        k_steps
        · rename _ = 1 => hb1
          unfold Stop
          with_reducible rename News _ _ _ _ => N3
          refine eq_empty (vs := wif x1 x2 (lineB bits 0)) N3 (by k_mem) (by k_mem) (by ktr_units) ?_
          k_steps
          exact CutEnd.mk (congrArg Value.bool (by rw [show lineB bits 1 = true from decide_eq_true hb1, Bool.true_and])) (by assumption) (by first | assumption | exact news_drop1 (by assumption) | exact news_drop2 (by assumption))
        · rename _ ≠ 1 => hb1
          exact CutEnd.mk (congrArg Value.bool (by rw [show lineB bits 1 = false from decide_eq_false hb1, Bool.false_and]; exact decide_eq_false hb1)) (by assumption) (by first | assumption | exact news_drop1 (by assumption) | exact news_drop2 (by assumption))
      · intro h9 tk9 F9 N9
        have mk3 : Mark 3 := ⟨⟩
        k_steps
        unfold Stop
        refine pick_any (news := q :: nx) (wif x1 x2 (lineB bits 1 && (wif x1 x2 (lineB bits 0)).isEmpty)) (by assumption) (by assumption) ?_ ?_
        · intro cm
          k_steps
          · with_reducible rename _ = true => hb1
            rw [show wif x1 x2 (lineB bits 1 && (wif x1 x2 (lineB bits 0)).isEmpty) = [.ref x2, .ref x1] from by rw [wif, hb1]; rfl]
            exact PickEnd.old (by assumption) (by assumption) (.tail _ (hb.ok _ (hsub _ hW)).1)
          · with_reducible rename _ = false => hb1
            rw [show wif x1 x2 (lineB bits 1 && (wif x1 x2 (lineB bits 0)).isEmpty) = [] from by rw [wif, hb1]; rfl]
            exact PickEnd.new (by assumption) (by assumption)
        · intro I9 n9 h9 tk9 F9 N9
          k_steps
          unfold Stop
          with_reducible rename News _ _ _ _ => Na9
          refine' put_some Cls.p1.key ?qk (wif x1 x2 (lineB bits 0 || lineB bits 1)) (its := (wif x1 x2 (lineB bits 1 && (wif x1 x2 (lineB bits 0)).isEmpty))) ?kB ?kF ?kX Na9 ?kT ?kK ?kd ?ku (hP5.mono hsub) (hb.up fun p hp => .tail _ (.tail _ hp)) ((hb.iter off).up fun p hp => .tail _ hp) (.tail _ (.tail _ hC)) hd (.tail _ (.tail _ hL)) (.tail _ (.head _)) (Nat.le_of_ble_eq_true rfl) (by decide) (by decide) (.head _) (wif_len _ _ _) hk0 (wif_len _ _ _) (wif_app _ _ _ _) ?_
          case qk => rfl
          case kB => k_asm
          case kF => k_asm
          case kX => k_asm
          case kT => k_asm
          case kK => first | exact rfl | assumption
          case kd => ktr_room
          case ku => ktr_units
          intro x6 oC6 base' nx9 h9 tk9 F9 N9 hK9' hC9 hd9 sub9 hk9 hb9 hq9 _
          (try dsimp only)
          have hK9 : Keeps C (q :: nx) nx9 := fun p hp hn => hK9' p (.tail _ hp) hn
          k_steps
          unfold Stop
          refine append_off (by k_asm) (by k_asm) (hK9 _ (.tail _ hL) (Ne.symm hCL)) (by rw [sizeLine_eq]; exact Nat.le_of_ble_eq_true rfl) ?_
          intro h8 F8 N8
          k_steps
          unfold Stop
          refine line_end (ps := [p0, x6]) (by k_asm) (by k_asm) off hK9 hb9 hq9 (fun p hp => sub9 _ (hsub p hp)) hC9 hCL hCq hLq hd9 (PsOk.two p0 x6 (hk0.mono sub9) hk9) hKK hnL ?_
          intro y h1 h2
          have h3 := h2
          simp only [List.contains_cons, List.contains_nil, Bool.or_false, Bool.or_eq_false_iff, beq_eq_false_iff_ne] at h3
          simp only [h1, h2, h3.1, h3.2, if_false, Bool.false_eq_true]
    | two p0 p1 hk0 hk1 =>
      k_steps
      unfold Stop
      with_reducible rename News _ _ _ _ => N2
      refine ne_empty (vs := [.ref p0, .ref p1]) N2 (.tail _ (.tail _ hL)) (.head _) (by ktr_units) ?_
      dsimp only [List.isEmpty, Bool.not_true, Bool.not_false]
      refine hk1.elim ?_
      intro dp' ep' np' lp' lnp' tp' g1 g2 g3 g4 g5 g6
      replace g1 := List.mem_cons_of_mem q (hb.ok _ g1).1
      replace g2 := List.mem_cons_of_mem q (hb.ok _ g2).1
      replace g6 := List.mem_cons_of_mem q (hb.ok _ g6).1
      k_steps
      with_reducible rename News _ _ _ _ => N3
      refine kde_neg (vs := [.ref p0, .ref p1]) (News.isList N3 (.tail _ (.tail _ hL))) (by decide) (by decide) (by rfl) (by rfl) ?_
      k_steps
      unfold Stop
      refine cut_any (news := q :: nx) (.bool (lineB bits 2 && (wif x1 x2 (lineB bits 0 || lineB bits 1)).isEmpty)) (by assumption) (by first | assumption | exact news_drop1 (by assumption)) ?_ ?_
      · intro cm
        k_steps
        · rename _ = 1 => hb1
          unfold Stop
          with_reducible rename News _ _ _ _ => N3
          refine eq_empty (vs := wif x1 x2 (lineB bits 0 || lineB bits 1)) N3 (by k_mem) (by k_mem) (by ktr_units) ?_
          k_steps
          exact CutEnd.mk (congrArg Value.bool (by rw [show lineB bits 2 = true from decide_eq_true hb1, Bool.true_and])) (by assumption) (by first | assumption | exact news_drop1 (by assumption) | exact news_drop2 (by assumption))
        · rename _ ≠ 1 => hb1
          exact CutEnd.mk (congrArg Value.bool (by rw [show lineB bits 2 = false from decide_eq_false hb1, Bool.false_and]; exact decide_eq_false hb1)) (by assumption) (by first | assumption | exact news_drop1 (by assumption) | exact news_drop2 (by assumption))
      · intro h9 tk9 F9 N9
        have mk3 : Mark 3 := ⟨⟩
        k_steps
        unfold Stop
        refine pick_any (news := q :: nx) (wif x1 x2 (lineB bits 2 && (wif x1 x2 (lineB bits 0 || lineB bits 1)).isEmpty)) (by assumption) (by assumption) ?_ ?_
        · intro cm
          k_steps
          · with_reducible rename _ = true => hb1
            rw [show wif x1 x2 (lineB bits 2 && (wif x1 x2 (lineB bits 0 || lineB bits 1)).isEmpty) = [.ref x2, .ref x1] from by rw [wif, hb1]; rfl]
            exact PickEnd.old (by assumption) (by assumption) (.tail _ (hb.ok _ (hsub _ hW)).1)
          · with_reducible rename _ = false => hb1
            rw [show wif x1 x2 (lineB bits 2 && (wif x1 x2 (lineB bits 0 || lineB bits 1)).isEmpty) = [] from by rw [wif, hb1]; rfl]
            exact PickEnd.new (by assumption) (by assumption)
        · intro I9 n9 h9 tk9 F9 N9
          k_steps
          unfold Stop
          with_reducible rename News _ _ _ _ => Na9
          refine' put_some Cls.p2.key ?qk (wif x1 x2 (lineB bits 0 || lineB bits 1 || lineB bits 2)) (its := (wif x1 x2 (lineB bits 2 && (wif x1 x2 (lineB bits 0 || lineB bits 1)).isEmpty))) ?kB ?kF ?kX Na9 ?kT ?kK ?kd ?ku (hP5.mono hsub) (hb.up fun p hp => .tail _ (.tail _ hp)) ((hb.iter off).up fun p hp => .tail _ hp) (.tail _ (.tail _ hC)) hd (.tail _ (.tail _ hL)) (.tail _ (.head _)) (Nat.le_of_ble_eq_true rfl) (by decide) (by decide) (.head _) (wif_len _ _ _) hk1 (wif_len _ _ _) (wif_app _ _ _ _) ?_
          case qk => rfl
          case kB => k_asm
          case kF => k_asm
          case kX => k_asm
          case kT => k_asm
          case kK => first | exact rfl | assumption
          case kd => ktr_room
          case ku => ktr_units
          intro x6 oC6 base' nx9 h9 tk9 F9 N9 hK9' hC9 hd9 sub9 hk9 hb9 hq9 _
          (try dsimp only)
          have hK9 : Keeps C (q :: nx) nx9 := fun p hp hn => hK9' p (.tail _ hp) hn
          k_steps
          unfold Stop
          refine append_off (by k_asm) (by k_asm) (hK9 _ (.tail _ hL) (Ne.symm hCL)) (by rw [sizeLine_eq]; exact Nat.le_of_ble_eq_true rfl) ?_
          intro h8 F8 N8
          k_steps
          unfold Stop
          refine line_end (ps := [p0, p1, x6]) (by k_asm) (by k_asm) off hK9 hb9 hq9 (fun p hp => sub9 _ (hsub p hp)) hC9 hCL hCq hLq hd9 (PsOk.three p0 p1 x6 (hk0.mono sub9) (hk1.mono sub9) hk9) hKK hnL ?_
          intro y h1 h2
          have h3 := h2
          simp only [List.contains_cons, List.contains_nil, Bool.or_false, Bool.or_eq_false_iff, beq_eq_false_iff_ne] at h3
          simp only [h1, h2, h3.1, h3.2, if_false, Bool.false_eq_true]
    | three p0 p1 p2 _ _ _ => exact absurd hi (by decide)
  · intro u nx h tk hLS
    refine hLS.elim ?_
    intro base ps oC nL hb hsub hC hd hL hps hKK F1 N1
    cases hps with
    | three p0 p1 p2 hk0 hk1 hk2 =>
      k_steps
      exact hret _ _ _ _ (by assumption) (by assumption) ⟨lineWk (lineB bits), adOf x1 x2 x3 x4 x5 p0 p1 p2, _, _, rfl, lineWk_le _, hKK, wld_of (hP5.mono hsub) hb hC hd (ka1.mono hsub) (ka2.mono hsub) (ka3.mono hsub) (ka4.mono hsub) (ka5.mono hsub) hk0 hk1 hk2, hL⟩
end
local macro_rules | `(tactic| walk_at "no such key 28") => stopOut
local macro_rules | `(tactic| walk_at "no such key 29") => stopOut
local macro_rules | `(tactic| walk_at "no such key 30") => stopOut
local macro_rules | `(tactic| walk_at "no such key 31") => stopOut
local macro_rules | `(tactic| walk_at "no such key 32") => stopOut
local macro_rules | `(tactic| walk_at "no such key 33") => stopOut
local macro_rules | `(tactic| walk_at "no such key 34") => stopOut
local macro_rules | `(tactic| walk_at "no such key 35") => stopOut
local macro_rules | `(tactic| walk_at "no such key 36") => stopOut
section
section
variable {prog : Program} {w : World} {A : Around} {E : Value → Shared → Prop} {s : Shared} {h₀ : Heap} {L : Addr} {m : Str → Option Value} {news : Led}
theorem seqIndex_in {k : Int} {n : Nat} (h0 : 0 ≤ k) (h1 : k < n) : seqIndex? k n = some k.toNat := by
  unfold seqIndex?
  rw [if_neg (by omega : ¬ k < 0)]
  simp [h0, h1]
theorem item_in {value slice : Expr} {t : Addr} {l : List Value} {k : Int} {u : Tok} {Q : Value → Shared → Prop} (ht : IsTup s.heap t l.toArray) (h0 : 0 ≤ k) (h1 : k < l.length) (hl : l.length ≤ 1000)
    (h : ∀ x, l[k.toNat]? = some x → Q x s) (hs : subscripted slice false (.ref t) (.int k u) = operate [.ref t, .int k u] (getItem (.ref t) (.int k u)) := by with_unfolding_all rfl) :
    wpAny (model prog w) A (subscriptTail value slice (.ref t) (.int k u)) Q E s := by
  have hk : k.toNat < l.length := by omega
  exact item_tupleT ht (by omega) (by omega) (seqIndex_in h0 h1) (List.getElem?_eq_getElem hk) (h _ (List.getElem?_eq_getElem hk)) hs
theorem item_list_in {value slice : Expr} {t : Addr} {l : List Value} {k : Int} {u : Tok} {Q : Value → Shared → Prop} (ht : s.heap.IsList t l.toArray) (h0 : 0 ≤ k) (h1 : k < l.length) (hl : l.length ≤ 1000)
    (h : ∀ x, l[k.toNat]? = some x → Q x s) (hs : subscripted slice false (.ref t) (.int k u) = operate [.ref t, .int k u] (getItem (.ref t) (.int k u)) := by with_unfolding_all rfl) :
    wpAny (model prog w) A (subscriptTail value slice (.ref t) (.int k u)) Q E s := by
  have hk : k.toNat < l.length := by omega
  have hx : l[k.toNat]? = some l[k.toNat] := List.getElem?_eq_getElem hk
  exact tail_any ht.typeIs slot_list_getitem.lookup (wpAny_getItem_list ht h0 (by omega) (by simpa using hx) (h _ hx)) hs
end
theorem ty_ret {h₀ h : Heap} {L : Addr} {news led : Led} {a : Addr} {vs : List Value} {n : Nat} {names : List Str} (N : News h₀ L h led) (sub : ∀ p ∈ news, p ∈ led) (hm : (a, ({ cls := .type "tuple", data := .seq vs.toArray n } : Obj)) ∈ led) (S : StrsAre vs names) (ok : NamesOk names) (me : Menu (some names)) :
    ∃ tl, News h₀ L h (tl ++ news) ∧ ∃ ty, Menu ty ∧ TyIs (tl ++ news) (.ref a) ty :=
  ⟨[(a, { cls := .type "tuple", data := .seq vs.toArray n })], fun p hp => by
    rcases List.mem_cons.mp hp with rfl | hp
    · exact N _ hm
    · exact N _ (sub _ hp), some names, me, .some a names ⟨vs, n, .head _, S⟩ ok⟩
theorem menu_ok {names : List Str} (me : Menu (some names)) : NamesOk names := by
  have h1 : ∀ n ∈ words23, (n.cps.size ≤ 1000 ∧ ∀ k ∈ n.cps.toList, k < 1000) ∧ (n == ("float" : Str)) = false := by decide +kernel
  exact ⟨fun n hn => ⟨(h1 n (me.in23 n hn)).1.1, (h1 n (me.in23 n hn)).1.2⟩, fun n hn => (h1 n (me.in23 n hn)).2⟩
theorem words_all {vs : List Value} (S : StrsAre vs words20) {k : Int} {x : Value} (hx : vs[k.toNat]? = some x) : ∃ n t, n ∈ words20 ∧ x = .str n t := by
  obtain ⟨n, t, h1, h2⟩ := strs_get S hx
  exact ⟨n, t, List.mem_of_getElem? h1, h2⟩
theorem words_at {t0 t1 t2 t3 t4 t5 t6 t7 t8 t9 t10 t11 t12 t13 t14 t15 t16 t17 t18 t19 : Tok} {k : Int} {x : Value} (hx : ([.str "iterable" t0, .str "object" t1, .str "P0" t2, .str "self" t3, .str "callable" t4, .str "CLOSURE" t5, .str "bool" t6, .str "true" t7, .str "static" t8, .str "array" t9, .str "TRAVERSABLE" t10, .str "parent" t11, .str "p1" t12, .str "ITERATOR" t13, .str "false" t14, .str "null" t15, .str "int" t16, .str "P2" t17, .str "string" t18, .str "Zed" t19] : List Value)[k.toNat]? = some x) : ∃ n t, n ∈ words20 ∧ x = .str n t :=
  words_all (show StrsAre _ words20 from .cons _ _ (.cons _ _ (.cons _ _ (.cons _ _ (.cons _ _ (.cons _ _ (.cons _ _ (.cons _ _ (.cons _ _ (.cons _ _ (.cons _ _ (.cons _ _ (.cons _ _ (.cons _ _ (.cons _ _ (.cons _ _ (.cons _ _ (.cons _ _ (.cons _ _ (.cons _ _ .nil)))))))))))))))))))) hx
theorem item_words {prog : Program} {w : World} {A : Around} {E : Value → Shared → Prop} {s : Shared} {value slice : Expr} {t : Addr} {t0 t1 t2 t3 t4 t5 t6 t7 t8 t9 t10 t11 t12 t13 t14 t15 t16 t17 t18 t19 : Tok} {k : Int} {u : Tok} {Q : Value → Shared → Prop} (ht : IsTup s.heap t ([.str "iterable" t0, .str "object" t1, .str "P0" t2, .str "self" t3, .str "callable" t4, .str "CLOSURE" t5, .str "bool" t6, .str "true" t7, .str "static" t8, .str "array" t9, .str "TRAVERSABLE" t10, .str "parent" t11, .str "p1" t12, .str "ITERATOR" t13, .str "false" t14, .str "null" t15, .str "int" t16, .str "P2" t17, .str "string" t18, .str "Zed" t19] : List Value).toArray)
    (h : ∀ n t, n ∈ words20 → Q (.str n t) s) (hs : subscripted slice false (.ref t) (.int (k.fmod 20) u) = operate [.ref t, .int (k.fmod 20) u] (getItem (.ref t) (.int (k.fmod 20) u))) :
    wpAny (model prog w) A (subscriptTail value slice (.ref t) (.int (k.fmod 20) u)) Q E s :=
  item_in ht (Int.fmod_nonneg_of_pos _ (by decide)) (Int.fmod_lt_of_pos _ (by decide)) (Nat.le_of_ble_eq_true rfl) (fun x hx => by obtain ⟨n, t, hn, rfl⟩ := words_at hx; exact h n t hn) hs
theorem three_of {k : Int} (h0 : 0 ≤ k) (h1 : k < 3) : ∃ n : Nat, 1 + k = n ∧ 1 ≤ n ∧ n ≤ 3 ∧ Builtin.Range.small 0 (1 + k) 1 = true ∧ Builtin.Range.rangeSize 0 (1 + k) 1 = ((n : Nat) : Int) := by
  have : k = 0 ∨ k = 1 ∨ k = 2 := by omega
  rcases this with rfl | rfl | rfl
  · exact ⟨1, by decide, by decide, by decide, by decide, by decide⟩
  · exact ⟨2, by decide, by decide, by decide, by decide, by decide⟩
  · exact ⟨3, by decide, by decide, by decide, by decide, by decide⟩
theorem names_of : ∀ {ys : List Value}, (∀ (i : Nat) (y : Value), ys[i]? = some y → ∃ n t, n ∈ words20 ∧ y = .str n t) → ∃ ns, StrsAre ys ns ∧ ns.length = ys.length ∧ ∀ n ∈ ns, n ∈ words20
  | [], _ => ⟨[], .nil, rfl, fun _ h => absurd h List.not_mem_nil⟩
  | y :: ys, h => by
    obtain ⟨ns, h1, h2, h3⟩ := names_of (ys := ys) fun i y' e => h (i + 1) y' (by simpa using e)
    obtain ⟨n, t, hn, rfl⟩ := h 0 y rfl
    refine ⟨n :: ns, .cons n t h1, by simp [h2], fun n' hn' => ?_⟩
    rcases List.mem_cons.mp hn' with rfl | hn'
    · exact hn
    · exact h3 n' hn'
theorem menu_names {ns : List Str} {n : Nat} (h1 : ns.length = n) (h2 : 1 ≤ n) (h3 : n ≤ 3) (h : ∀ n ∈ ns, n ∈ words20) : Menu (some ns) := .names ns (fun e => by rw [e] at h1; simp at h1; omega) (by omega) h
end
section
local macro_rules | `(tactic| ktr_step) => do let a ← `(tactic| decide +kernel); let n ← scp "N'"; let y ← scp "Y'"; let ni : Lean.Ident := ⟨n⟩; let yi : Lean.Ident := ⟨y⟩; let c ← `(tactic| k_cells $yi:ident); let d ← `(tactic| try simp only [List.cons_append, List.nil_append] at $ni:ident); let l ← leafS `code_defC [assS, assS, assS, assS, assS, erflS, erflS, assS, isS, isS, room1, bindS, erflS, a, goS, erflS, erflS, erflS] [5, 6, 7, 0, 1, 2, 3, 4, 8, 9, 10, 11, 12, 13, 15, 16, 17]; return parS (l ++ [wholeS, ← introN ["g'", "L'", "h'", "tk'", "cells'", "FG'", "F'", "N'", "Y'", "B'", "X'", "T'", "l1"], c, d, dsimpS, foldS])
local macro_rules | `(tactic| walk_at "eval IfExp") => stopUncut
local macro_rules | `(tactic| walk_at "call builtin:any") => stopOut
local macro_rules | `(tactic| walk_at "call builtin:all") => stopOut
local macro_rules | `(tactic| tb_start) => `(tactic| first | assumption | exact news_drop1 (by assumption) | exact news_drop2 (by assumption) | exact news_drop3 (by assumption) | exact news_drop4 (by assumption) | exact news_drop5 (by assumption) | exact news_drop6 (by assumption) | exact news_drop7 (by assumption))
local macro_rules | `(tactic| walk_at "subscriptTail") => stopOut
local macro_rules | `(tactic| walk_at "call type:tuple") => stopOut
inductive LawNamesRel (news : Led) : List Value → (Led → Value → Prop) → Prop where
  | mk (d : Int) (t : Tok) : LawNamesRel news [.int d t] (fun tl r => (tl = [] ∧ r = .none) ∨ ∃ a names vs n, tl = [(a, ({ cls := .type "tuple", data := .seq vs.toArray n } : Obj))] ∧ r = .ref a ∧ Menu (some names) ∧ StrsAre vs names ∧ ∀ p ∈ news, p.1 ≠ a)
theorem law_names_ct (prog : Program) (w : World) : Ct prog w 589 1 LawNamesRel := by
  (have hx : fillK PySem.Challenge.rw_pq0853_01 hd.heap_1 = fillK PySem.Challenge.rw_pq0853_01 hd.heap_1 := by k_fill; rfl)
  clear hx
  refine Ct.of fun news vs Post hR => ?_
  obtain ⟨d, t⟩ := hR
  unfold CtB
  intro p loose mean mg mb dp un gd cn cs a ccd cl outer A₀ base h₀ L m s Q E B F X N T hk hd hu hret
  refine wpAny_call ?_
  k_dflt ktr_step
  have cm : CutMark := ⟨⟩
  k_steps
  · unfold Stop
    with_reducible rename News _ _ _ _ => N9
    refine' item_in (News.isTup N9 (.head _)) ?b ?c ?d ?_ ?e
    case b => exact Int.fmod_nonneg_of_pos _ (by decide)
    case c => exact Int.fmod_lt_of_pos _ (by decide)
    case d => exact Nat.le_of_ble_eq_true rfl
    case e => with_unfolding_all rfl
    intro x hx
    have h0 := Int.fmod_nonneg_of_pos (d.fdiv 7) (b := 4) (by decide)
    have h1 := Int.fmod_lt_of_pos (d.fdiv 7) (b := 4) (by decide)
    have h4 : ((d.fdiv 7).fmod 4).toNat = 0 ∨ ((d.fdiv 7).fmod 4).toNat = 1 ∨ ((d.fdiv 7).fmod 4).toNat = 2 ∨ ((d.fdiv 7).fmod 4).toNat = 3 := by omega
    rcases h4 with e | e | e | e
    · rw [e] at hx
      obtain rfl := Option.some.inj hx
      k_steps
      with_reducible rename News _ _ _ _ => N8
      exact hret _ [] _ _ (by assumption) (fun p hp => N8 p (by repeat (first | exact hp | apply List.mem_cons_of_mem))) (Or.inl ⟨rfl, rfl⟩)
    · rw [e] at hx
      obtain rfl := Option.some.inj hx
      k_steps
      with_reducible rename News _ _ _ _ => N8
      rename ∀ p ∈ news, p.1 < _ => hlt
      refine' hret _ [(_, ({ cls := .type "tuple", data := .seq [_].toArray _ } : Obj))] _ _ ?f1 ?f2 (Or.inr ⟨_, ["void"], [_], _, rfl, rfl, .void, .cons _ _ .nil, ?f3⟩)
      case f1 => assumption
      case f2 => exact fun p hp => N8 p (by
        rcases List.mem_cons.mp hp with rfl | hp
        · k_mem
        · repeat (first | exact hp | apply List.mem_cons_of_mem))
      case f3 => exact fun p hp => Nat.ne_of_lt (Nat.lt_trans (hlt p hp) (by omega))
    · rw [e] at hx
      obtain rfl := Option.some.inj hx
      k_steps
      with_reducible rename News _ _ _ _ => N8
      rename ∀ p ∈ news, p.1 < _ => hlt
      refine' hret _ [(_, ({ cls := .type "tuple", data := .seq [_].toArray _ } : Obj))] _ _ ?f1 ?f2 (Or.inr ⟨_, ["never"], [_], _, rfl, rfl, .never, .cons _ _ .nil, ?f3⟩)
      case f1 => assumption
      case f2 => exact fun p hp => N8 p (by
        rcases List.mem_cons.mp hp with rfl | hp
        · k_mem
        · repeat (first | exact hp | apply List.mem_cons_of_mem))
      case f3 => exact fun p hp => Nat.ne_of_lt (Nat.lt_trans (hlt p hp) (by omega))
    · rw [e] at hx
      obtain rfl := Option.some.inj hx
      k_steps
      with_reducible rename News _ _ _ _ => N8
      rename ∀ p ∈ news, p.1 < _ => hlt
      refine' hret _ [(_, ({ cls := .type "tuple", data := .seq [_].toArray _ } : Obj))] _ _ ?f1 ?f2 (Or.inr ⟨_, ["mixed"], [_], _, rfl, rfl, .mixed, .cons _ _ .nil, ?f3⟩)
      case f1 => assumption
      case f2 => exact fun p hp => N8 p (by
        rcases List.mem_cons.mp hp with rfl | hp
        · k_mem
        · repeat (first | exact hp | apply List.mem_cons_of_mem))
      case f3 => exact fun p hp => Nat.ne_of_lt (Nat.lt_trans (hlt p hp) (by omega))
  · (try unfold Stop)
    rename ∀ p ∈ news, p.1 < _ => hlt
    refine' storeX_C ?kF ?kN ?kc ?kU ?kd ?_
    case kF => assumption
    case kN => assumption
    case kc => rfl
    case kU =>
      rename _ < _ ∧ _ < _ ∧ AllLt _ _ => l1
      refine .tail ?_ (.head fun p hp => ?_)
      · exact Nat.ne_of_gt l1.1
      · rcases List.mem_cons.mp hp with rfl | hp
        · k_ne
        · exact Nat.ne_of_lt (Nat.lt_trans (hlt p hp) (by omega))
    case kd => assumption
    intro hh1 o3 F3 N3 d3'
    k_steps
    unfold Stop
    obtain ⟨n, hn, n1, n3, hsm, hrs⟩ := three_of (k := (d.fmod 7).fmod 3) (Int.fmod_nonneg_of_pos _ (by decide)) (Int.fmod_lt_of_pos _ (by decide))
    with_reducible rename IsRange _ _ _ _ _ _ _ _ => hR
    with_reducible rename Fr _ _ _ _ => FR
    with_reducible rename News _ _ _ _ => NR
    refine LCg.CompSrc.range (by rfl) FR NR hR hsm hrs (by rw [sizeLine_eq]; omega) ?_
    intro g
    refine comp_gen (fun i y => ∃ nm t, nm ∈ words20 ∧ y = Value.str nm t) trivial ?_ ?_
    · intro i v q1 C oC q3 m₂ h tk E' hi hP hC hx F4 N4
      obtain ⟨tv, rfl⟩ := hP
      have hi3 : i = 0 ∨ i = 1 ∨ i = 2 := by omega
      rcases hi3 with rfl | rfl | rfl
      · k_steps
        unfold Stop
        with_reducible rename News _ _ _ _ => N8
        refine' item_words (News.isTup N8 (by k_mem)) ?_ ?e
        case e => with_unfolding_all rfl
        intro nm tt hnm
        k_steps
        exact .mk (by assumption) (by assumption) ⟨nm, tt, hnm, rfl⟩
      · k_steps
        unfold Stop
        with_reducible rename News _ _ _ _ => N8
        refine' item_words (News.isTup N8 (by k_mem)) ?_ ?e
        case e => with_unfolding_all rfl
        intro nm tt hnm
        k_steps
        exact .mk (by assumption) (by assumption) ⟨nm, tt, hnm, rfl⟩
      · k_steps
        unfold Stop
        with_reducible rename News _ _ _ _ => N8
        refine' item_words (News.isTup N8 (by k_mem)) ?_ ?e
        case e => with_unfolding_all rfl
        intro nm tt hnm
        k_steps
        exact .mk (by assumption) (by assumption) ⟨nm, tt, hnm, rfl⟩
    · intro ys hl hO
      obtain ⟨ns, S, hln, hns⟩ := names_of (ys := ys) (fun i y e => hO i y e)
      have me := menu_names (hln.trans hl) n1 n3 hns
      unfold LCg.FinE
      intro D2 hh3 tk3 F5 N5 off5
      k_steps
      unfold Stop
      with_reducible rename News _ _ _ _ => N9
      with_reducible rename Fr _ _ _ _ => F9
      refine kde_tupleOf (items := ys.toArray) (zs := ys) F9 N9 (News.isList N9 (by k_mem)) (by rw [List.size_toArray]; omega) (by simp) ?_
      intro D9 h9 F8 N8 lD
      k_steps
      with_reducible rename News _ _ _ _ => N7
      refine hret _ [(D9, ({ cls := .type "tuple", data := .seq ys.toArray } : Obj))] _ _ (by assumption) (fun p hp => N7 p (by
        rcases List.mem_cons.mp hp with rfl | hp
        · exact .head _
        · repeat (first | exact hp | apply List.mem_cons_of_mem))) (Or.inr ⟨D9, ns, ys, _, rfl, rfl, me, S, fun p hp => Nat.ne_of_lt (lD p (by repeat (first | exact hp | apply List.mem_cons_of_mem)))⟩)
end
local macro_rules | `(tactic| walk_at "no such key 37") => stopOut
local macro_rules | `(tactic| walk_at "no such key 38") => stopOut
local macro_rules | `(tactic| walk_at "no such key 39") => stopOut
local macro_rules | `(tactic| walk_at "no such key 40") => stopOut
local macro_rules | `(tactic| walk_at "no such key 41") => stopOut
local macro_rules | `(tactic| walk_at "no such key 42") => stopOut
section
section
variable {prog : Program} {w : World} {A : Around} {E : Value → Shared → Prop} {s : Shared} {h₀ : Heap} {L : Addr} {m : Str → Option Value} {news : Led}
def AllInts (l : List Value) : Prop := ∀ x ∈ l, ∃ v t, x = Value.int v t
theorem ints_all : ∀ {vs : List Value} {ns : List Int}, IntsAre vs ns → AllInts vs
  | _, _, .nil => fun _ h => absurd h List.not_mem_nil
  | _, _, .cons n t h => fun x hx => by
    rcases List.mem_cons.mp hx with rfl | hx
    · exact ⟨_, _, rfl⟩
    · exact ints_all h x hx
theorem ints_lit : AllInts [] := fun _ h => absurd h List.not_mem_nil
theorem ints_cons {v : Int} {t : Tok} {l : List Value} (h : AllInts l) : AllInts (.int v t :: l) := fun x hx => by
  rcases List.mem_cons.mp hx with rfl | hx
  · exact ⟨_, _, rfl⟩
  · exact h x hx
theorem item_ints {value slice : Expr} {t : Addr} {l : List Value} {k : Int} {u : Tok} {Q : Value → Shared → Prop} (ht : s.heap.IsList t l.toArray) (hi : AllInts l) (h0 : 0 ≤ k) (h1 : k < l.length) (hl : l.length ≤ 1000)
    (h : ∀ v t', Q (.int v t') s) (hs : subscripted slice false (.ref t) (.int k u) = operate [.ref t, .int k u] (getItem (.ref t) (.int k u))) :
    wpAny (model prog w) A (subscriptTail value slice (.ref t) (.int k u)) Q E s :=
  item_list_in ht h0 h1 hl (fun x hx => by obtain ⟨v, t', rfl⟩ := hi x (List.mem_of_getElem? hx); exact h v t') hs
end
theorem eight_ints {ys : List Value} (hl : ys.length = 8) (hO : ∀ (i : Nat) (y : Value), ys[i]? = some y → ∃ v t, y = Value.int v t) :
    ∃ v0 t0 v1 t1 v2 t2 v3 t3 v4 t4 v5 t5 v6 t6 v7 t7, ys = [Value.int v0 t0, .int v1 t1, .int v2 t2, .int v3 t3, .int v4 t4, .int v5 t5, .int v6 t6, .int v7 t7] := by
  match ys, hl with
  | [a, b, c, d, e, f, g, h], _ =>
    obtain ⟨v0, t0, rfl⟩ := hO 0 a rfl
    obtain ⟨v1, t1, rfl⟩ := hO 1 b rfl
    obtain ⟨v2, t2, rfl⟩ := hO 2 c rfl
    obtain ⟨v3, t3, rfl⟩ := hO 3 d rfl
    obtain ⟨v4, t4, rfl⟩ := hO 4 e rfl
    obtain ⟨v5, t5, rfl⟩ := hO 5 f rfl
    obtain ⟨v6, t6, rfl⟩ := hO 6 g rfl
    obtain ⟨v7, t7, rfl⟩ := hO 7 h rfl
    exact ⟨_, _, _, _, _, _, _, _, _, _, _, _, _, _, _, _, rfl⟩
theorem comp_ints8 {prog : Program} {w : World} {A : Around} {h₀ : Heap} {L : Addr} {m : Str → Option Value} {env : Env} {elt : Expr} {x : Str} {scope : Scope} {cl : List (Str × Addr)} {s : Shared} {S : Led → Prop} {P : Nat → Value → Prop} {Fin : List Value → Led → Prop} {news : Led} (hS : S news)
    (turn : ∀ i v q1 C oC q3 m₂ h tk (E' : Value → Shared → Prop), i < 8 → P i v → LCg.NsObj oC m₂ → m₂ x = some v → Fr h₀ L h m → News h₀ L h (q1 :: (C, oC) :: q3 :: news) →
      wpAny (model prog w) A (eval elt (compEnvC scope cl C env)) (ElEnd h₀ L m (q1 :: (C, oC) :: q3 :: news) { s with heap := h, toks := tk } (fun y => ∃ v t, y = Value.int v t)) E' { s with heap := h, toks := tk })
    (fin : ∀ v0 t0 v1 t1 v2 t2 v3 t3 v4 t4 v5 t5 v6 t6 v7 t7, Fin [Value.int v0 t0, .int v1 t1, .int v2 t2, .int v3 t3, .int v4 t4, .int v5 t5, .int v6 t6, .int v7 t7] news) :
    LCg.CompRest prog w A h₀ L m env elt x scope cl s S P Fin 8 0 [] news :=
  comp_gen (fun _ y => ∃ v t, y = Value.int v t) hS turn fun ys hl hO => by
    obtain ⟨v0, t0, v1, t1, v2, t2, v3, t3, v4, t4, v5, t5, v6, t6, v7, t7, e⟩ := eight_ints hl hO
    rw [e]
    exact fin _ _ _ _ _ _ _ _ _ _ _ _ _ _ _ _
theorem off_mono {h₀ h : Heap} {L d : Addr} {led led' : Led} {q : Addr × Obj} (N : News h₀ L h (q :: Led.off led d)) (sub : ∀ p ∈ led', p ∈ led ∧ p.1 ≠ d) : News h₀ L h (q :: led') := fun p hp => by
  rcases List.mem_cons.mp hp with rfl | hp
  · exact N _ (.head _)
  · exact N _ (.tail _ (Led.off_keeps _ (sub p hp).1 (sub p hp).2))
theorem dict_data {prog : Program} {w : World} {o : Obj} {kvs : List (Str × Value)} (h : o.IsDictOf (strKind prog w) kvs) : ∃ es ep, o.data = .dict es ep := by
  obtain ⟨es, ep, _, h, _⟩ := h
  exact ⟨es, ep, h⟩
/-- a ledger's part that is no cell stands when a cell is stored -/
theorem Wld.offCell {prog : Program} {w : World} {h₀ h : Heap} {L ca : Addr} {nx : Led} {o : Obj} {v : Option Value} {wk : Nat} {ad : Cls → Addr} {H : Addr} (W : Wld prog w nx wk ad H) (N : News h₀ L h nx) (hc : (ca, o) ∈ nx) (hd : o.data = .cell v) : Wld prog w (Led.off nx ca) wk ad H := by
  have k : ∀ {a : Addr} {o' : Obj}, (a, o') ∈ nx → o'.data ≠ .cell v → (a, o') ∈ Led.off nx ca := fun hm hn => Led.off_keeps _ hm (news_ne N hm hc (by rw [hd]; exact hn))
  refine ⟨⟨fun c => ?_⟩, ?_⟩
  · obtain ⟨d, es, n, l, ln, t, h1, h2, h3, h4, h5, h6⟩ := W.kls.kl c
    exact ⟨d, es, n, l, ln, t, k h1 (fun e => by cases e), k h2 (fun e => by cases e), h3, h4, h5, k h6 (fun e => by cases e)⟩
  · obtain ⟨d, es, n, T, oT, C, oC, h1, h2, h3, h4, h5, h6, h7, h8, h9, h10, h11⟩ := W.host
    refine ⟨d, es, n, T, oT, C, oC, k h1 (fun e => by cases e), k h2 (fun e => by cases e), h3, h4, h5, k h6 ?_, h7, h8, k h9 ?_, h10, h11⟩
    · obtain ⟨_, _, e⟩ := dict_data h7
      rw [e]; exact fun e => by cases e
    · obtain ⟨_, _, e⟩ := dict_data h10
      rw [e]; exact fun e => by cases e
theorem host_set {h₀ h : Heap} {L H dH C T : Addr} {a b c o o' : Obj} {news : Led} (N : News h₀ L h ((T, o') :: Led.off ((H, a) :: (dH, b) :: (C, c) :: (T, o) :: news) T)) (off : ∀ p ∈ news, p.1 ≠ T ∧ p.1 ≠ C) (n1 : T ≠ C) (n2 : H ≠ T) (n3 : dH ≠ T) :
    News h₀ L h ((T, o') :: (H, a) :: (dH, b) :: (C, c) :: news) :=
  off_mono N fun p hp => by
    rcases List.mem_cons.mp hp with rfl | hp
    · exact ⟨.head _, n2⟩
    · rcases List.mem_cons.mp hp with rfl | hp
      · exact ⟨.tail _ (.head _), n3⟩
      · rcases List.mem_cons.mp hp with rfl | hp
        · exact ⟨.tail _ (.tail _ (.head _)), Ne.symm n1⟩
        · exact ⟨.tail _ (.tail _ (.tail _ (.tail _ hp))), (off p hp).1⟩
section
variable {prog : Program} {w : World} {A : Around} {E : Value → Shared → Prop} {s : Shared} {h₀ : Heap} {L : Addr} {m : Str → Option Value} {cs : Scope} {a : Addr} {ccd : Value} {cn : Str} {cl : List (Str × Addr)}
theorem store_line {x : Str} {ca ln D2 H : Addr} {o : Obj} {v₀ : Option Value} {v : Value} {its ys : List Value} {n wk : Nat} {ad : Cls → Addr} {nx : Led} {Q : Unit → Shared → Prop} (F : Fr h₀ L s.heap m) (N : News h₀ L s.heap nx) (hc : cl.lookup x = some ca) (hca : (ca, o) ∈ nx) (hd : o.data = .cell v₀)
    (hW : Wld prog w nx wk ad H) (hl : (ln, listOf its.toArray n) ∈ nx) (hD : (D2, LCg.lst ys) ∈ nx)
    (h : ∀ h' o' nz, Fr h₀ L h' m → News h₀ L h' ((ca, o') :: (ln, listOf its.toArray n) :: (D2, LCg.lst ys) :: nz) → Wld prog w nz wk ad H → o'.data = .cell (some v) → Q () { s with heap := h' })
    (hk : cs.kind = .function := by rfl) (hx : (envX cn cs L a ccd cl).kindOf x = some .cell := by rfl) : wpAny (model prog w) A (storeName (envX cn cs L a ccd cl) x v) Q E s := by
  refine storeX_C F (News.off N hca) hc (.head Led.off_ne) hd (fun h' o' F' N' hd' => ?_) hk hx
  refine h h' o' (Led.off nx ca) F' (fun p hp => ?_) (hW.offCell N hca hd) hd'
  rcases List.mem_cons.mp hp with rfl | hp
  · exact N' _ (.head _)
  · rcases List.mem_cons.mp hp with rfl | hp
    · exact N' _ (.tail _ (Led.off_keeps _ hl (news_ne N hl hca (by rw [hd]; exact fun e => by cases e))))
    · rcases List.mem_cons.mp hp with rfl | hp
      · exact N' _ (.tail _ (Led.off_keeps _ hD (news_ne N hD hca (by rw [hd]; exact fun e => by cases e))))
      · exact N' _ (.tail _ hp)
end
end
section
section
variable {prog : Program} {w : World} {A : Around} {h₀ : Heap} {L : Addr} {m : Str → Option Value} {env : Env} {elt : Expr} {x : Str} {scope : Scope} {cl : List (Str × Addr)} {s : Shared} {S : Led → Prop} {P : Nat → Value → Prop} {Fin : List Value → Led → Prop} {news : Led}
def GrowEnd (h₀ : Heap) (L : Addr) (m : Str → Option Value) (led : Led) (s₁ : Shared) (O : Led → Value → Prop) (y : Value) (s₂ : Shared) : Prop :=
  ∃ h' tk tl, s₂ = { s₁ with heap := h', toks := tk } ∧ Fr h₀ L h' m ∧ News h₀ L h' (tl ++ led) ∧ (∀ t ∈ tl, ∀ p ∈ led, p.1 ≠ t.1) ∧ O tl y
theorem GrowEnd.mk {led : Led} {s₁ : Shared} {O : Led → Value → Prop} {y : Value} {h' : Heap} {tk : Nat} (tl : Led) (F : Fr h₀ L h' m) (N : News h₀ L h' (tl ++ led)) (off : ∀ t ∈ tl, ∀ p ∈ led, p.1 ≠ t.1) (o : O tl y) : GrowEnd h₀ L m led s₁ O y { s₁ with heap := h', toks := tk } :=
  ⟨h', tk, tl, rfl, F, N, off, o⟩
theorem comp_grow {n : Nat} (Out : Led → Nat → Value → Prop) (hmono : ∀ led led' i y, (∀ p ∈ led, p ∈ led') → Out led i y → Out led' i y) (hS : ∀ led, (∀ p ∈ news, p ∈ led) → S led)
    (turn : ∀ i v q1 C oC q3 m₂ led h tk (E' : Value → Shared → Prop), i < n → P i v → LCg.NsObj oC m₂ → m₂ x = some v → (∀ p ∈ news, p ∈ led) → Fr h₀ L h m → News h₀ L h (q1 :: (C, oC) :: q3 :: led) →
      wpAny (model prog w) A (eval elt (compEnvC scope cl C env)) (GrowEnd h₀ L m (q1 :: (C, oC) :: q3 :: led) { s with heap := h, toks := tk } (fun tl y => Out (tl ++ led) i y)) E' { s with heap := h, toks := tk })
    (fin : ∀ ys led, ys.length = n → (∀ p ∈ news, p ∈ led) → (∀ i y, ys[i]? = some y → Out led i y) → Fin ys led) :
    LCg.CompRest prog w A h₀ L m env elt x scope cl s S P Fin n 0 [] news := by
  have all : ∀ k i ys led, i + k = n → ys.length = i → (∀ p ∈ news, p ∈ led) → (∀ j y, ys[j]? = some y → Out led j y) → LCg.CompRest prog w A h₀ L m env elt x scope cl s S P Fin k i ys led := by
    intro k
    induction k with
    | zero => intro i ys led e hl hs hO; exact LCg.CompRest.zero (fin ys led (by omega) hs hO)
    | succ k ih =>
      intro i ys led e hl hs hO
      refine LCg.CompRest.succ fun v I oI C oC D m₂ h tk E' hP hC hx F N off ne => ?_
      refine wpAny_mono (turn i v (I, oI) C oC (D, LCg.lst ys) m₂ led h tk E' (by omega) hP hC hx hs F N) (fun y s₂ z => ?_) fun _ _ e => e
      obtain ⟨h', tk', tl, e', F', N', offT, o⟩ := z
      have off3 := off.mem
      refine ⟨h', tk', tl ++ led, e', F', fun p hp => N' p ?_, LCg.Off3.of fun p hp => ?_, hS _ fun p hp => List.mem_append_right _ (hs p hp), ih (i + 1) (ys ++ [y]) _ (by omega) (by simp [hl]) (fun p hp => List.mem_append_right _ (hs p hp)) fun j y' hj => ?_⟩
      · rcases List.mem_cons.mp hp with rfl | hp
        · exact List.mem_append_right _ (.head _)
        · rcases List.mem_cons.mp hp with rfl | hp
          · exact List.mem_append_right _ (.tail _ (.head _))
          · rcases List.mem_cons.mp hp with rfl | hp
            · exact List.mem_append_right _ (.tail _ (.tail _ (.head _)))
            · rcases List.mem_append.mp hp with hp | hp
              · exact List.mem_append_left _ hp
              · exact List.mem_append_right _ (.tail _ (.tail _ (.tail _ hp)))
      · rcases List.mem_append.mp hp with hp | hp
        · exact ⟨Ne.symm (offT p hp (I, oI) (.head _)), Ne.symm (offT p hp (C, oC) (.tail _ (.head _))), Ne.symm (offT p hp (D, LCg.lst ys) (.tail _ (.tail _ (.head _))))⟩
        · exact off3 p hp
      · by_cases hlt : j < ys.length
        · rw [List.getElem?_append_left hlt] at hj
          exact hmono _ _ _ _ (fun p hp => List.mem_append_right _ hp) (hO j y' hj)
        · rw [List.getElem?_append_right (by omega)] at hj
          have hj0 : j - ys.length = 0 := by
            cases hq : j - ys.length with
            | zero => rfl
            | succ q => rw [hq] at hj; simp at hj
          rw [hj0] at hj
          simp only [List.getElem?_cons_zero, Option.some.injEq] at hj
          subst hj
          have : j = i := by omega
          subst this; exact o
  exact all n 0 [] news (by omega) rfl (fun _ h => h) (by intro j y h; simp at h)
end
theorem three_vals {O : Nat → Value → Prop} {ys : List Value} (hl : ys.length = 3) (hO : ∀ (i : Nat) (y : Value), ys[i]? = some y → O i y) : ∃ y0 y1 y2, ys = [y0, y1, y2] ∧ O 0 y0 ∧ O 1 y1 ∧ O 2 y2 := by
  match ys, hl with
  | [a, b, c], _ => exact ⟨a, b, c, rfl, hO 0 a rfl, hO 1 b rfl, hO 2 c rfl⟩
theorem news_front {h₀ h : Heap} {L : Addr} {q a b c : Addr × Obj} {led nt : Led} (N : News h₀ L h (q :: led)) (hs : ∀ p ∈ a :: b :: c :: nt, p ∈ led) : News h₀ L h (q :: a :: b :: c :: led) := fun p hp => by
  rcases List.mem_cons.mp hp with rfl | hp
  · exact N _ (.head _)
  · rcases List.mem_cons.mp hp with rfl | hp
    · exact N _ (.tail _ (hs _ (.head _)))
    · rcases List.mem_cons.mp hp with rfl | hp
      · exact N _ (.tail _ (hs _ (.tail _ (.head _))))
      · rcases List.mem_cons.mp hp with rfl | hp
        · exact N _ (.tail _ (hs _ (.tail _ (.tail _ (.head _)))))
        · exact N _ (.tail _ hp)
theorem low_ok {v4 : Int} : ∃ n : Nat, 2 - v4.fmod 3 = (n : Int) ∧ n ≤ 2 := by
  have h0 := Int.fmod_nonneg_of_pos v4 (b := 3) (by decide)
  have h1 := Int.fmod_lt_of_pos v4 (b := 3) (by decide)
  exact ⟨(2 - v4.fmod 3).toNat, by omega, by omega⟩
theorem down_ok (n : Nat) (hn : n ≤ 2) (v : Int) : ∃ k : Nat, (n : Int) - v.fmod ((n : Int) + 1) = (k : Int) ∧ k ≤ n := by
  have h0 := Int.fmod_nonneg_of_pos v (b := (n : Int) + 1) (by omega)
  have h1 := Int.fmod_lt_of_pos v (b := (n : Int) + 1) (by omega)
  exact ⟨((n : Int) - v.fmod ((n : Int) + 1)).toNat, by omega, by omega⟩
theorem up_ok (n : Nat) (hn : n ≤ 2) (v : Int) : ∃ k : Nat, (n : Int) + v.fmod (3 - (n : Int)) = (k : Int) ∧ n ≤ k ∧ k ≤ 2 := by
  have h0 := Int.fmod_nonneg_of_pos v (b := 3 - (n : Int)) (by omega)
  have h1 := Int.fmod_lt_of_pos v (b := 3 - (n : Int)) (by omega)
  exact ⟨((n : Int) + v.fmod (3 - (n : Int))).toNat, by omega, by omega, by omega⟩
def pk : Nat → Cls
  | 0 => .p0 | 1 => .p1 | _ => .p2
theorem item_line {prog : Program} {w : World} {A : Around} {E : Value → Shared → Prop} {s : Shared} {value slice : Expr} {t : Addr} {u : Tok} {ad : Cls → Addr} {k : Nat} {Q : Value → Shared → Prop} (ht : s.heap.IsList t [Value.ref (ad .p0), .ref (ad .p1), .ref (ad .p2)].toArray) (hk : k ≤ 2)
    (h : Q (.ref (ad (pk k))) s) (hs : subscripted slice false (.ref t) (.int (k : Int) u) = operate [.ref t, .int (k : Int) u] (getItem (.ref t) (.int (k : Int) u))) :
    wpAny (model prog w) A (subscriptTail value slice (.ref t) (.int (k : Int) u)) Q E s := by
  refine item_list_in ht (by omega) (by simp only [List.length_cons, List.length_nil]; omega) (Nat.le_of_ble_eq_true rfl) (fun x hx => ?_) hs
  have hk' : k = 0 ∨ k = 1 ∨ k = 2 := by omega
  rcases hk' with rfl | rfl | rfl
  · obtain rfl := Option.some.inj hx; exact h
  · obtain rfl := Option.some.inj hx; exact h
  · obtain rfl := Option.some.inj hx; exact h
theorem append_front {prog : Program} {w : World} {A : Around} {E : Value → Shared → Prop} {s : Shared} {h₀ : Heap} {L : Addr} {m : Str → Option Value} {D : Addr} {vs : List Value} {n : Nat} {x : Value} {rest : Led} {Q : Value → Shared → Prop} (F : Fr h₀ L s.heap m) (N : News h₀ L s.heap ((D, listOf vs.toArray n) :: rest)) (hl : ∀ p ∈ rest, p.1 ≠ D) (hsz : vs.length ≤ 1000)
    (h : ∀ h', Fr h₀ L h' m → News h₀ L h' ((D, listOf (vs ++ [x]).toArray (n + 1)) :: rest) → Q .none { s with heap := h' }) : wpAny (model prog w) A (call (.builtin "list.append") [.ref D, x]) Q E s :=
  append_off F N (.head _) (by rw [sizeLine_eq]; omega) fun h' F' N' => h h' F' (off_mono N' fun p hp => ⟨.tail _ hp, hl p hp⟩)
theorem three_kl {ad : Cls → Addr} {a b c : Nat} {ys : List Value} (hl : ys.length = 3) (hO : ∀ (i : Nat) (y : Value), ys[i]? = some y → ∃ k, [a, b, c][i]? = some k ∧ y = Value.ref (ad (pk k))) : ys = [Value.ref (ad (pk a)), .ref (ad (pk b)), .ref (ad (pk c))] := by
  obtain ⟨y0, y1, y2, rfl, ⟨k0, e0, rfl⟩, ⟨k1, e1, rfl⟩, ⟨k2, e2, rfl⟩⟩ := three_vals hl hO
  obtain rfl := Option.some.inj e0
  obtain rfl := Option.some.inj e1
  obtain rfl := Option.some.inj e2
  rfl
theorem place_at {n4 k5 k6 : Nat} {t1 t2 t3 : Tok} {i : Nat} {v : Value} (h4 : n4 ≤ 2) (h5 : k5 ≤ n4) (h6 : k6 ≤ k5) (h : ([Value.int (n4 : Int) t1, .int (k5 : Int) t2, .int (k6 : Int) t3] : List Value)[i]? = some v) : ∃ (k : Nat) (t : Tok), v = .int (k : Int) t ∧ k ≤ 2 ∧ [n4, k5, k6][i]? = some k := by
  match i with
  | 0 => obtain rfl := Option.some.inj h; exact ⟨n4, t1, rfl, h4, rfl⟩
  | 1 => obtain rfl := Option.some.inj h; exact ⟨k5, t2, rfl, by omega, rfl⟩
  | 2 => obtain rfl := Option.some.inj h; exact ⟨k6, t3, rfl, by omega, rfl⟩
  | i + 3 => simp at h
theorem pack_news {h₀ h : Heap} {L : Addr} {q l t a b c : Addr × Obj} {led : Led} (N : News h₀ L h (q :: l :: t :: a :: b :: c :: led)) : ∃ led2, News h₀ L h (q :: t :: led2) ∧ ∀ p ∈ led, p ∈ led2 :=
  ⟨led, fun p hp => N p (by
    rcases List.mem_cons.mp hp with rfl | hp
    · exact .head _
    · rcases List.mem_cons.mp hp with rfl | hp
      · exact .tail _ (.tail _ (.head _))
      · exact .tail _ (.tail _ (.tail _ (.tail _ (.tail _ (.tail _ hp)))))), fun _ h => h⟩
end
section
inductive VsAre (base : Led) (ad : Cls → Addr) : List Value → List VD → Prop
  | nil : VsAre base ad [] []
  | cons {v : Value} {d : VD} {vs : List Value} {ds : List VD} : VIs base ad v d → VsAre base ad vs ds → VsAre base ad (v :: vs) (d :: ds)
theorem VsAre.mono {base base' : Led} {ad : Cls → Addr} {vs : List Value} {ds : List VD} (h : VsAre base ad vs ds) (hs : ∀ p ∈ base, p ∈ base') : VsAre base' ad vs ds := by
  induction h with
  | nil => exact .nil
  | cons h _ ih => exact .cons (h.mono hs) ih
theorem VsAre.snoc {base : Led} {ad : Cls → Addr} {vs : List Value} {ds : List VD} {v : Value} {d : VD} (h : VsAre base ad vs ds) (hv : VIs base ad v d) : VsAre base ad (vs ++ [v]) (ds ++ [d]) := by
  induction h with
  | nil => exact .cons hv .nil
  | cons h _ ih => exact .cons h ih
theorem VsAre.len {base : Led} {ad : Cls → Addr} {vs : List Value} {ds : List VD} (h : VsAre base ad vs ds) : vs.length = ds.length := by
  induction h with
  | nil => rfl
  | cons _ _ ih => simp [ih]
theorem VsAre.at {base : Led} {ad : Cls → Addr} {vs : List Value} {ds : List VD} (h : VsAre base ad vs ds) : ∀ {pre : List Value} {v : Value} {r : List Value}, vs = pre ++ v :: r → ∃ d, d ∈ ds ∧ VIs base ad v d := by
  induction h with
  | nil => intro pre v r e; cases pre <;> cases e
  | cons h _ ih =>
    intro pre v r e
    cases pre with
    | nil => cases e; exact ⟨_, .head _, h⟩
    | cons p pre =>
      injection e with _ e
      obtain ⟨d, hd, hv⟩ := ih e
      exact ⟨d, .tail _ hd, hv⟩
def objN : List (Str × Cls) := [("P0", .p0), ("P1", .p1), ("P2", .p2), ("Walk", .walk), ("Closure", .clo), ("Other", .oth)]
section
variable {prog : Program} {w : World} {A : Around} {E : Value → Shared → Prop} {s : Shared} {env : Env} {h₀ : Heap} {x : Str} {body : List Stmt} {Q : Flow → Shared → Prop}
def ObjEnd (h₀ : Heap) (L : Addr) (x : Str) (m₀ : Str → Option Value) (ad : Cls → Addr) (V : Addr) (base : Led) (ws : List Value) (c : Cls) (q : Addr × Obj) (s₁ s₂ : Shared) : Prop :=
  ∃ h' tk m' n' a d es n k, s₂ = { s₁ with heap := h', toks := tk } ∧ Fr h₀ L h' m' ∧ News h₀ L h' (q :: n') ∧ (∀ p ∈ n', p.1 ≠ q.1) ∧ (∀ y, y ≠ x → m' y = m₀ y) ∧ (∀ p ∈ base, p ∈ n') ∧ (V, listOf (ws ++ [Value.ref a]).toArray k) ∈ n' ∧
    (a, instObj 168 d) ∈ n' ∧ (d, dictOf es n) ∈ n' ∧ getL "cls" es = some (some (.ref (ad c))) ∧ a ≠ V ∧ d ≠ V
def ObjPost (h₀ : Heap) (L : Addr) (x : Str) (m₀ : Str → Option Value) (ad : Cls → Addr) (V : Addr) (base : Led) (ws : List Value) (c : Cls) (q : Addr × Obj) (s₁ : Shared) (Q : Flow → Shared → Prop) (f : Flow) (s₂ : Shared) : Prop :=
  match f with
  | .ret v => Q (.ret v) s₂
  | .brk => Q .next s₂
  | _ => ObjEnd h₀ L x m₀ ad V base ws c q s₁ s₂
theorem values_loop {ax V : Addr} {vs ws₀ : List Value} {n k₀ : Nat} {m₀ : Str → Option Value} {news base0 : Led} {ad : Cls → Addr} {ds0 : List VD}
    (hh : A.handled = none) (F : Fr h₀ env.locals s.heap m₀) (N : News h₀ env.locals s.heap news)
    (hax : (ax, ({ cls := .type "tuple", data := .seq vs.toArray n } : Obj)) ∈ base0) (hs : StrsAre vs (objN.map (·.1)))
    (hV : (V, listOf ws₀.toArray k₀) ∈ news) (hb : ∀ p ∈ base0, p ∈ news ∧ p.1 ≠ V) (hv : VsAre base0 ad ws₀ ds0)
    (turn : ∀ (pa : List (Str × Cls)) nm c ra t base ws k nx q h tk, objN = pa ++ (nm, c) :: ra → (∀ p ∈ base0, p ∈ base) → (∀ p ∈ base, p ∈ nx ∧ p.1 ≠ V) → (V, listOf ws.toArray k) ∈ nx → ws.length = ws₀.length + pa.length → (∀ p ∈ nx, p.1 ≠ q.1) →
      Fr h₀ env.locals h (fun y => if y = x then some (.str nm t) else m₀ y) → News h₀ env.locals h (q :: nx) →
      wpAny (model prog w) A (execs body env) (ObjPost h₀ env.locals x m₀ ad V base ws c q { s with heap := h, toks := tk } Q) E { s with heap := h, toks := tk })
    (done : ∀ (u : Str → Option Value) base ws k nx h tk, (∀ p ∈ base0, p ∈ base) → (∀ p ∈ base, p ∈ nx) → (V, listOf ws.toArray k) ∈ nx → VsAre base ad ws (ds0 ++ objN.map fun p => VD.obj p.2) →
      Fr h₀ env.locals h (fun y => if y = x then u y else m₀ y) → News h₀ env.locals h nx → Q .next { s with heap := h, toks := tk }) :
    wpAny (model prog w) A (pyIter (.ref ax)) (fun it s₂ => LoopAtV prog w A h₀ env x body Q E it s₂) E s := by
  refine each_tuple hh F N (hb _ hax).1 rfl rfl (fun pre _ m' n' => (∀ y, y ≠ x → m' y = m₀ y) ∧ ∃ pa ra base ws k, objN = pa ++ ra ∧ StrsAre pre (pa.map (·.1)) ∧ (∀ p ∈ base0, p ∈ base) ∧ (∀ p ∈ base, p ∈ n' ∧ p.1 ≠ V) ∧ (V, listOf ws.toArray k) ∈ n' ∧ ws.length = ws₀.length + pa.length ∧ VsAre base ad ws (ds0 ++ pa.map fun p => VD.obj p.2))
    ⟨fun _ _ => rfl, [], objN, base0, ws₀, k₀, rfl, .nil, fun _ h => h, hb, hV, rfl, by simpa using hv⟩ (fun p r m n h => ?_) ?_ ?_
  · obtain ⟨_, pa, ra, base, ws, k, _, _, h1, h2, _⟩ := h
    exact (h2 _ (h1 _ hax)).1
  · rintro pre v r m n q h tk e ⟨hm, pa, ra, base, ws, k, e1, hp, hb0, hb1, hw, hl, hvs⟩ off F₁ N₁
    obtain ⟨qn, aN, rn, t, c1, c2, c3⟩ := strs_split hs e
    obtain rfl := strs_inj hp c3
    subst c2
    obtain ⟨pb, ⟨nm, c⟩, rb, d1, d2, d3, d4⟩ := map_split c1
    have hlen : pa.length = pb.length := by have := congrArg List.length d2; simpa using this
    have hab : pa = pb := by
      have := congrArg (List.take pa.length) (e1.symm.trans d1)
      rw [List.take_left, hlen, List.take_left] at this
      exact this
    subst hab
    dsimp only at d3
    subst d3
    have em : (fun y => if y = x then some (Value.str aN t) else m y) = fun y => if y = x then some (.str aN t) else m₀ y := by
      funext y
      by_cases z1 : y = x
      · simp [z1]
      · simp [z1, hm y z1]
    rw [em] at F₁
    refine wpAny_mono (turn pa aN c rb t base ws k n q h tk d1 hb0 hb1 hw hl off F₁ N₁) (fun f' s₂ p => ?_) fun _ _ e => e
    have fin : ObjEnd h₀ env.locals x m₀ ad V base ws c q { s with heap := h, toks := tk } s₂ → TurnEnd h₀ env.locals { s with heap := h, toks := tk } q (fun m' n' => (∀ y, y ≠ x → m' y = m₀ y) ∧ ∃ pa' ra base ws k, objN = pa' ++ ra ∧ StrsAre (pre ++ [.str aN t]) (pa'.map (·.1)) ∧ (∀ p ∈ base0, p ∈ base) ∧ (∀ p ∈ base, p ∈ n' ∧ p.1 ≠ V) ∧ (V, listOf ws.toArray k) ∈ n' ∧ ws.length = ws₀.length + pa'.length ∧ VsAre base ad ws (ds0 ++ pa'.map fun p => VD.obj p.2)) s₂ := by
      rintro ⟨h', tk', m', n', a, d, es, nn, kk, e', F', N', o', hm', hbn, hV', ha, hd, hg, haV, hdV⟩
      refine ⟨h', tk', m', n', e', F', N', o', hm', pa ++ [(aN, c)], rb, (a, instObj 168 d) :: (d, dictOf es nn) :: base, ws ++ [.ref a], kk, by rw [d1]; simp, by rw [List.map_append]; exact strs_snoc hp, fun p hp => .tail _ (.tail _ (hb0 p hp)), ?_, hV', by simp [hl]; omega, ?_⟩
      · intro p hp
        rcases List.mem_cons.mp hp with rfl | hp
        · exact ⟨ha, haV⟩
        · rcases List.mem_cons.mp hp with rfl | hp
          · exact ⟨hd, hdV⟩
          · exact ⟨hbn p hp, (hb1 p hp).2⟩
      · have h1 := (hvs.mono (base' := (a, instObj 168 d) :: (d, dictOf es nn) :: base) fun p hp => .tail _ (.tail _ hp)).snoc (.obj a d es nn c (.head _) (.tail _ (.head _)) hg)
        rw [List.map_append, ← List.append_assoc]
        exact h1
    cases f' with
    | ret v => exact p
    | brk => exact p
    | next => exact fin p
    | cont => exact fin p
  · rintro m n h tk ⟨hm, pa, ra, base, ws, k, e1, hp, hb0, hb1, hw, hl, hvs⟩ F₁ N₁
    have h1 := strs_len hp
    have h2 := strs_len hs
    have hlen : pa.length = objN.length := by simpa using h1.symm.trans h2
    have hra : ra = [] := by
      have h3 := congrArg List.length e1
      rw [List.length_append, hlen] at h3
      exact List.length_eq_zero_iff.mp (by omega)
    subst hra
    rw [List.append_nil] at e1
    subst e1
    have em : m = fun y => if y = x then m y else m₀ y := by
      funext y
      by_cases z1 : y = x
      · simp [z1]
      · simp [z1, hm y z1]
    rw [em] at F₁
    exact done m base ws k n h tk hb0 (fun p hp => (hb1 p hp).1) hw hvs F₁ N₁
theorem obj_end {L V a d : Addr} {base nx : Led} {ad : Cls → Addr} {ws : List Value} {c : Cls} {q : Addr × Obj} {m' m₀ : Str → Option Value} {h : Heap} {tk : Nat} {s₁ : Shared} {es : List DictEntry} {n k : Nat}
    (F : Fr h₀ L h m') (N : News h₀ L h ((V, listOf (ws ++ [Value.ref a]).toArray k) :: (a, instObj 168 d) :: (d, dictOf es n) :: Led.off (q :: nx) V)) (off : ∀ p ∈ nx, p.1 ≠ q.1) (hV : V ≠ q.1) (ha : a ≠ q.1) (hd : d ≠ q.1) (haV : a ≠ V) (hdV : d ≠ V) (hb : ∀ p ∈ base, p ∈ nx ∧ p.1 ≠ V)
    (hg : getL "cls" es = some (some (.ref (ad c)))) (hm : ∀ y, y ≠ x → m' y = m₀ y) : ObjEnd h₀ L x m₀ ad V base ws c q s₁ { s₁ with heap := h, toks := tk } := by
  refine ⟨h, tk, m', (V, listOf (ws ++ [Value.ref a]).toArray k) :: (a, instObj 168 d) :: (d, dictOf es n) :: Led.off nx V, a, d, es, n, k, rfl, F, fun p hp => ?_, fun p hp => ?_, hm, fun p hp => .tail _ (.tail _ (.tail _ (Led.off_keeps _ (hb p hp).1 (hb p hp).2))), .head _, .tail _ (.head _), .tail _ (.tail _ (.head _)), hg, haV, hdV⟩
  · rcases List.mem_cons.mp hp with rfl | hp
    · exact N _ (.tail _ (.tail _ (.tail _ (Led.off_keeps _ (.head _) (Ne.symm hV)))))
    · rcases List.mem_cons.mp hp with rfl | hp
      · exact N _ (.head _)
      · rcases List.mem_cons.mp hp with rfl | hp
        · exact N _ (.tail _ (.head _))
        · rcases List.mem_cons.mp hp with rfl | hp
          · exact N _ (.tail _ (.tail _ (.head _)))
          · exact N _ (.tail _ (.tail _ (.tail _ (Led.off_keeps _ (.tail _ (List.mem_filter.mp hp).1) (Led.off_ne _ hp)))))
  · rcases List.mem_cons.mp hp with rfl | hp
    · exact hV
    · rcases List.mem_cons.mp hp with rfl | hp
      · exact ha
      · rcases List.mem_cons.mp hp with rfl | hp
        · exact hd
        · exact off p (List.mem_filter.mp hp).1
end
theorem values_base {h₀ h : Heap} {L Dt V : Addr} {t lv : Obj} {rest : Led} (_N : News h₀ L h ((Dt, t) :: (V, lv) :: rest)) (lV : ∀ p ∈ rest, p.1 < V) (hne : @LT.lt Nat _ V Dt) : ∀ p ∈ (Dt, t) :: rest, p ∈ ((Dt, t) :: (V, lv) :: rest) ∧ p.1 ≠ V := fun p hp => by
  rcases List.mem_cons.mp hp with rfl | hp
  · exact ⟨.head _, Nat.ne_of_gt hne⟩
  · exact ⟨.tail _ (.tail _ hp), Nat.ne_of_lt (lV p hp)⟩
theorem objN_at {pa ra : List (Str × Cls)} {nm : Str} {c : Cls} (e : objN = pa ++ (nm, c) :: ra) (ad : Cls → Addr) : nm.cps.size ≤ 1000 ∧ valueAt (clsKvs ad) (Txt.lower nm) = some (.ref (ad c)) ∧ pa.length ≤ 6 := by
  have hm : (nm, c) ∈ objN := by rw [e]; exact List.mem_append_right _ (.head _)
  have hk : ∀ p ∈ objN, p.1.cps.size ≤ 1000 ∧ Txt.lower p.1 = p.2.key := by decide +kernel
  have h1 := hk _ hm
  have hl : pa.length ≤ 6 := by have := congrArg List.length e; simp only [objN, List.length_append, List.length_cons, List.length_nil] at this; omega
  refine ⟨h1.1, ?_, hl⟩
  rw [h1.2]
  cases c <;> rfl
end
section
open PySem PySem.W PyProof.Rows PySem.Calls PySem.Spec PyProof.V
def sel3 {α : Type} (a b c : α) : Nat → α
  | 0 => a | 1 => b | _ => c
theorem sel3_all {α : Type} {p : α → Prop} {a b c : α} (ha : p a) (hb : p b) (hc : p c) (i : Nat) : p (sel3 a b c i) := by
  match i with
  | 0 => exact ha
  | 1 => exact hb
  | n + 2 => exact hc
theorem sel3_rel {α β : Type} {p : α → β → Prop} {a b c : α} {x y z : β} (ha : p a x) (hb : p b y) (hc : p c z) (i : Nat) : p (sel3 a b c i) (sel3 x y z i) := by
  match i with
  | 0 => exact ha
  | 1 => exact hb
  | n + 2 => exact hc
section
variable {prog : Program} {w : World} {A : Around} {E : Value → Shared → Prop} {s : Shared} {h₀ : Heap} {L : Addr} {m : Str → Option Value} {news : Led}
theorem item_sel {value slice : Expr} {t : Addr} {u : Tok} {a b c : Value} {i : Nat} {Q : Value → Shared → Prop} (ht : s.heap.IsList t [a, b, c].toArray) (hi : i < 3)
    (h : Q (sel3 a b c i) s) (hs : subscripted slice false (.ref t) (.int (i : Int) u) = operate [.ref t, .int (i : Int) u] (getItem (.ref t) (.int (i : Int) u))) :
    wpAny (model prog w) A (subscriptTail value slice (.ref t) (.int (i : Int) u)) Q E s := by
  refine item_list_in ht (by omega) (by simp only [List.length_cons, List.length_nil]; omega) (Nat.le_of_ble_eq_true rfl) (fun x hx => ?_) hs
  have hk' : i = 0 ∨ i = 1 ∨ i = 2 := by omega
  rcases hk' with rfl | rfl | rfl
  · obtain rfl := Option.some.inj hx; exact h
  · obtain rfl := Option.some.inj hx; exact h
  · obtain rfl := Option.some.inj hx; exact h
theorem item_kl {value slice : Expr} {t : Addr} {u : Tok} {ad : Cls → Addr} {a b c : Nat} {i : Nat} {Q : Value → Shared → Prop} (ht : s.heap.IsList t [Value.ref (ad (pk a)), .ref (ad (pk b)), .ref (ad (pk c))].toArray) (hi : i < 3)
    (h : Q (.ref (ad (pk (sel3 a b c i)))) s) (hs : subscripted slice false (.ref t) (.int (i : Int) u) = operate [.ref t, .int (i : Int) u] (getItem (.ref t) (.int (i : Int) u))) :
    wpAny (model prog w) A (subscriptTail value slice (.ref t) (.int (i : Int) u)) Q E s := by
  refine item_sel ht hi ?_ hs
  have e : sel3 (Value.ref (ad (pk a))) (.ref (ad (pk b))) (.ref (ad (pk c))) i = .ref (ad (pk (sel3 a b c i))) := by
    match i with
    | 0 => rfl
    | 1 => rfl
    | n + 2 => rfl
  rw [e]; exact h
/-- what told holds -/
structure Told (prog : Program) (w : World) (nx : Led) (td : Addr) (base : Led) (sub : Nat → Nat → Bool) (dn : Nat → Nat → Prop) (cnt : Nat) : Prop where
  keep : ∀ p ∈ base, p ∈ nx ∧ p.1 ≠ td
  tab : ∃ D, TupTab (intKind prog w) PyData.int nx td D ∧ D.length ≤ cnt ∧ ∀ a b, dn a b → lookup (encTuple PyData.int [(a : Int), (b : Int)]) D = some (.bool (sub a b))
theorem key_made (i j : Int) (t1 t2 : Tok) : TupKeyObj (intKind prog w) [i, j] { cls := .type "tuple", data := .seq [Value.int i t1, .int j t2].toArray } := .made (.cons (intKind_is _ _ _ _) (.cons (intKind_is _ _ _ _) .nil))
theorem told_set {td K : Addr} {i j : Nat} {t1 t2 : Tok} {b : Bool} {base nx : Led} {sub : Nat → Nat → Bool} {dn : Nat → Nat → Prop} {cnt : Nat} {Q : Unit → Shared → Prop} (hu : A.units + 1 < cLine) (F : Fr h₀ L s.heap m)
    (N : News h₀ L s.heap ((K, ({ cls := .type "tuple", data := .seq #[Value.int (i : Int) t1, .int (j : Int) t2] } : Obj)) :: nx)) (T : Told prog w nx td base sub dn cnt) (hc : cnt ≤ 100) (hb : b = sub i j)
    (h : ∀ h' nx', Fr h₀ L h' m → News h₀ L h' nx' → Told prog w nx' td base sub (fun a c => dn a c ∨ (a = i ∧ c = j)) (cnt + 1) → (∀ p ∈ nx, p.1 ≠ td → p ∈ nx') → Q () { s with heap := h', toks := s.toks + 3 }) :
    wpAny (model prog w) A (setItem (.ref td) (.ref K) (.bool b)) Q E s := by
  obtain ⟨D, hT, hl, hD⟩ := T.tab
  refine setItem_tupTab same_int hu (.bool b) F N (hT.cons _) (.head _) (key_made (i : Int) (j : Int) t1 t2) (fun h' nx' F' N' T' hk keep => ?_) (by rw [sizeLine_eq]; omega)
  refine h h' nx' F' N' ⟨fun p hp => ⟨keep p (.tail _ (T.keep p hp).1) (T.keep p hp).2, (T.keep p hp).2⟩, _, T', Nat.le_trans (putD_length_le _ _ _) (by omega), fun a c hac => ?_⟩ fun p hp hn => keep p (.tail _ hp) hn
  have ke : KeyEnc (encTuple PyData.int) := keyEnc_tuple keyEnc_int
  by_cases e : [(a : Int), (c : Int)] = [(i : Int), (j : Int)]
  · have e1 : a = i := by injection e with h1 _; omega
    have e2 : c = j := by injection e with _ h2; injection h2 with h3 _; omega
    subst e1; subst e2
    rw [lookup_putK_same ke, hb]
  · rw [lookup_putK_other ke e]
    rcases hac with h1 | ⟨h1, h2⟩
    · exact hD a c h1
    · exact absurd (by rw [h1, h2]) e
theorem told_get {value slice : Expr} {td K : Addr} {i j : Nat} {t1 t2 : Tok} {base nx led : Led} {sub : Nat → Nat → Bool} {dn : Nat → Nat → Prop} {cnt : Nat} {Q : Value → Shared → Prop} (hu : A.units + 1 < cLine)
    (N : News h₀ L s.heap led) (hK : (K, ({ cls := .type "tuple", data := .seq #[Value.int (i : Int) t1, .int (j : Int) t2] } : Obj)) ∈ led) (N2 : News h₀ L s.heap nx) (T : Told prog w nx td base sub dn cnt) (hd : dn i j)
    (h : Q (.bool (sub i j)) { s with toks := s.toks + 3 }) (hs : subscripted slice false (.ref td) (.ref K) = operate [.ref td, .ref K] (getItem (.ref td) (.ref K))) (hg : ∀ r, letTemporaryGo value (.ref td) r = pure ()) :
    wpAny (model prog w) A (subscriptTail value slice (.ref td) (.ref K)) Q E s := by
  obtain ⟨D, hT, hl, hD⟩ := T.tab
  refine item_tabH (knd := tupleKind (intKind prog w)) (same_encTuple same_int) (tupleKind_room_in1 hu) ((key_made (i : Int) (j : Int) t1 t2).key (N.get hK)) (hT.at N2) (hD i j hd) (fun v hv => ?_) hs hg
  rw [Flat.bool_inv hv]
  exact h
theorem tupTab_offIter {td : Addr} {D : List (PyData × PyData)} {h : Heap} {q : Addr × Obj} (T : TupTab (intKind prog w) PyData.int news td D) (N : News h₀ L h news) (hq : q ∈ news) (hc : q.2.cls = .type "range_iterator") : TupTab (intKind prog w) PyData.int (Led.off news q.1) td D := by
  obtain ⟨lo, o, es, ep, xs, hm, hex, hd, he, hn, hk, hf⟩ := T
  have ne : ∀ {a : Addr} {o' : Obj}, (a, o') ∈ news → o'.cls ≠ .type "range_iterator" → a ≠ q.1 := fun hm' hne e => by
    have h1 := (N _ hm').1
    rw [show (_, _).1 = q.1 from e, (N _ hq).1] at h1
    exact hne ((congrArg Obj.cls (Option.some.inj h1)).symm.trans hc)
  refine ⟨lo, o, es, ep, xs, Led.off_keeps _ hm (ne hm ?_), hex, hd, he, hn, fun x hx => ?_, hf⟩
  · rw [hex.1]; exact fun e => by injection e with e; exact absurd e (by decide)
  · obtain ⟨ok, hok, tk⟩ := hk x hx
    exact ⟨ok, Led.off_keeps _ hok (ne hok (by rw [tk.1]; exact fun e => by injection e with e; exact absurd e (by decide))), tk⟩
theorem Told.offIter {nx base : Led} {td : Addr} {sub : Nat → Nat → Bool} {dn : Nat → Nat → Prop} {cnt : Nat} {h : Heap} {q : Addr × Obj} (T : Told prog w nx td base sub dn cnt) (N : News h₀ L h nx) (hq : q ∈ nx) (hc : q.2.cls = .type "range_iterator") (hb : ∀ p ∈ base, p.1 ≠ q.1) : Told prog w (Led.off nx q.1) td base sub dn cnt := by
  obtain ⟨D, hT, hl, hD⟩ := T.tab
  exact ⟨fun p hp => ⟨Led.off_keeps _ (T.keep p hp).1 (hb p hp), (T.keep p hp).2⟩, D, tupTab_offIter hT N hq hc, hl, hD⟩
end
def subF (wk : Nat) (ty0 ty1 ty2 : Ty) (k4 k5 k6 : Nat) (a b : Nat) : Bool := isSubtype wk (sel3 ty0 ty1 ty2 a) (pk (sel3 k4 k5 k6 a)) (sel3 ty0 ty1 ty2 b) (pk (sel3 k4 k5 k6 b))
theorem pk_ps : ∀ k : Nat, pk k ∈ ps := fun k => by
  match k with
  | 0 => exact .head _
  | 1 => exact .tail _ (.head _)
  | n + 2 => exact .tail _ (.tail _ (.head _))
theorem wk_wks {wk : Nat} (h : wk ≤ 3) : wk ∈ wks := by
  have : wk = 0 ∨ wk = 1 ∨ wk = 2 ∨ wk = 3 := by omega
  rcases this with rfl | rfl | rfl | rfl <;> decide
theorem menu_few {t : Ty} (h : Menu t) : FewN t := by
  cases h with
  | none => exact trivial
  | void => exact Nat.le_of_ble_eq_true rfl
  | never => exact Nat.le_of_ble_eq_true rfl
  | mixed => exact Nat.le_of_ble_eq_true rfl
  | names ns _ h _ => exact Nat.le_trans h (by decide)
section
variable {prog : Program} {w : World} {A : Around} {E : Value → Shared → Prop} {s : Shared} {h₀ h : Heap} {L : Addr}
theorem told_start {td : Addr} {o : Obj} {led : Led} {sub : Nat → Nat → Bool} (_N : News h₀ L h ((td, o) :: led)) (lT : ∀ p ∈ led, p.1 < td) (lo : (td == sysModules) = false) (hI : o.IsDictOf (intKind prog w) []) : Told prog w ((td, o) :: led) td led sub (fun a b => a < 0 ∧ b < 3) 0 :=
  ⟨fun p hp => ⟨.tail _ hp, Nat.ne_of_lt (lT p hp)⟩, [], TupTab.ofEmpty (.head _) lo hI, Nat.le_refl _, fun a b h => absurd h.1 (by omega)⟩
theorem Told.cons {nx base : Led} {td : Addr} {sub : Nat → Nat → Bool} {dn : Nat → Nat → Prop} {cnt : Nat} (T : Told prog w nx td base sub dn cnt) (p : Addr × Obj) : Told prog w (p :: nx) td base sub dn cnt := by
  obtain ⟨D, hT, hl, hD⟩ := T.tab
  exact ⟨fun p hp => ⟨.tail _ (T.keep p hp).1, (T.keep p hp).2⟩, D, hT.cons _, hl, hD⟩
theorem Told.td_in {nx base : Led} {td : Addr} {sub : Nat → Nat → Bool} {dn : Nat → Nat → Prop} {cnt : Nat} (T : Told prog w nx td base sub dn cnt) : ∃ o, (td, o) ∈ nx := by
  obtain ⟨D, ⟨_, o, _, _, _, hm, _⟩, _⟩ := T.tab
  exact ⟨o, hm⟩
theorem Told.inner {nx base : Led} {td : Addr} {sub : Nat → Nat → Bool} {i cnt : Nat} {q : Addr × Obj} (T : Told prog w nx td base sub (fun a b => a < i ∧ b < 3) cnt) (off : ∀ p ∈ nx, p.1 ≠ q.1) : Told prog w (q :: nx) td (q :: base) sub (fun a b => (a < i ∧ b < 3) ∨ (a = i ∧ b < 0)) (cnt + 0) := by
  obtain ⟨o, ho⟩ := T.td_in
  obtain ⟨D, hT, hl, hD⟩ := T.tab
  refine ⟨fun p hp => ?_, D, hT.cons _, hl, fun a b hab => hD a b (by rcases hab with h | h; exact h; omega)⟩
  rcases List.mem_cons.mp hp with rfl | hp
  · exact ⟨.head _, Ne.symm (off _ ho)⟩
  · exact ⟨.tail _ (T.keep p hp).1, (T.keep p hp).2⟩
theorem told_turn {nx base : Led} {td : Addr} {sub : Nat → Nat → Bool} {dn dn' : Nat → Nat → Prop} {cnt cnt' : Nat} {q : Addr × Obj} {m' m₀ : Str → Option Value} {x : Str} {st : List Str} {s₁ : Shared} {tk : Nat} (F : Fr h₀ L h m') (N : News h₀ L h nx) (T : Told prog w nx td base sub dn cnt) (hq : q ∈ nx) (hc : q.2.cls = .type "range_iterator")
    (hb : ∀ p ∈ base, p.1 ≠ q.1) (hd : ∀ a b, dn' a b → dn a b) (hn : cnt ≤ cnt') (hm : ∀ y, y ≠ x → st.contains y = false → m' y = m₀ y) :
    TurnEnd h₀ L s₁ q (fun m' n' => (∀ y, y ≠ x → st.contains y = false → m' y = m₀ y) ∧ Told prog w n' td base sub dn' cnt') { s₁ with heap := h, toks := tk } := by
  obtain ⟨D, hT, hl, hD⟩ := (T.offIter N hq hc hb).tab
  exact ⟨h, tk, m', Led.off nx q.1, rfl, F, News.off N hq, Led.off_ne, hm, (T.offIter N hq hc hb).keep, D, hT, Nat.le_trans hl hn, fun a b h => hD a b (hd a b h)⟩
theorem Told.sub {nx base base' : Led} {td : Addr} {sub : Nat → Nat → Bool} {dn : Nat → Nat → Prop} {cnt : Nat} (T : Told prog w nx td base sub dn cnt) (hs : ∀ p ∈ base', p ∈ base) : Told prog w nx td base' sub dn cnt := ⟨fun p hp => T.keep p (hs p hp), T.tab⟩
theorem ne_same {b : Bool} {Q : Value → Shared → Prop} (hu : A.units + 64 < cLine) (h : Q (.bool false) s) : wpAny (model prog w) A (compareOp .NotEq (.bool b) (.bool b)) Q E s := by
  refine SeqAt.compareNe_shaped (Reads.bool b) (Reads.bool b) rfl rfl hu ?_
  cases b with
  | true => exact h
  | false => exact h
end
end
section
open PySem PySem.W PyProof.Rows PySem.Calls PySem.Spec PyProof.V
theorem below_pk {a b : Nat} (h : b ≤ a) (ha : a ≤ 2) : below (pk a) (pk b) = true := by
  have h1 : a = 0 ∨ a = 1 ∨ a = 2 := by omega
  rcases h1 with rfl | rfl | rfl
  · obtain rfl : b = 0 := by omega
    rfl
  · have h2 : b = 0 ∨ b = 1 := by omega
    rcases h2 with rfl | rfl <;> rfl
  · have h2 : b = 0 ∨ b = 1 ∨ b = 2 := by omega
    rcases h2 with rfl | rfl | rfl <;> rfl
section
variable {wk : Nat} {ty0 ty1 ty2 : Ty} {k4 k5 k6 k7 : Nat}
theorem subF_refl (hwk : wk ≤ 3) (hty : ∀ i, Menu (sel3 ty0 ty1 ty2 i)) (i : Nat) : subF wk ty0 ty1 ty2 k4 k5 k6 i i = true := refl (wk_wks hwk) (pk_ps _) (hty i)
theorem subF_due (hwk : wk ≤ 3) (hty : ∀ i, Menu (sel3 ty0 ty1 ty2 i)) (i j : Nat) : subF wk ty0 ty1 ty2 k4 k5 k6 i j = lawDue wk (sel3 ty0 ty1 ty2 i) (pk (sel3 k4 k5 k6 i)) (sel3 ty0 ty1 ty2 j) (pk (sel3 k4 k5 k6 j)) := sub_due (wk_wks hwk) (pk_ps _) (pk_ps _) (hty i) (hty j)
theorem subF_trans (hwk : wk ≤ 3) (hty : ∀ i, Menu (sel3 ty0 ty1 ty2 i)) (l4 : k4 ≤ 2) (l5 : k5 ≤ k4) (h01 : subF wk ty0 ty1 ty2 k4 k5 k6 0 1 = true) (h12 : subF wk ty0 ty1 ty2 k4 k5 k6 1 2 = true) : subF wk ty0 ty1 ty2 k4 k5 k6 0 2 = true := by
  rw [subF_due hwk hty] at h01 h12 ⊢
  exact trans (wk_wks hwk) (pk_ps _) (pk_ps _) (pk_ps _) (below_pk l5 l4) (hty 0) (hty 1) (hty 2) h01 h12
theorem subF_sound (hwk : wk ≤ 3) (hty : ∀ i, Menu (sel3 ty0 ty1 ty2 i)) (l4 : k4 ≤ 2) (l5 : k5 ≤ k4) (l6 : k6 ≤ k5) (l7 : k4 ≤ k7) (u7 : k7 ≤ 2) {i j : Nat} {d : VD} (hd : d ∈ vds) (h : subF wk ty0 ty1 ty2 k4 k5 k6 i j = true) (ht : takesS wk (sel3 ty0 ty1 ty2 i) d (pk (sel3 k4 k5 k6 i)) (pk k7) = true) :
    takesS wk (sel3 ty0 ty1 ty2 j) d (pk (sel3 k4 k5 k6 j)) (pk k7) = true := by
  rw [subF_due hwk hty] at h
  have hb : below (pk k7) (pk (sel3 k4 k5 k6 i)) = true := below_pk (by match i with
    | 0 => exact l7
    | 1 => exact Nat.le_trans l5 l7
    | n + 2 => exact Nat.le_trans (Nat.le_trans l6 l5) l7) u7
  exact sound (wk_wks hwk) (pk_ps _) (pk_ps _) (pk_ps _) hb (hty i) (hty j) hd h ht
end
section
variable {prog : Program} {w : World} {A : Around} {E : Value → Shared → Prop} {s : Shared} {env : Env} {h₀ : Heap} {target : Expr} {body : List Stmt} {Q : Flow → Shared → Prop}
theorem each_tupleT {ax : Addr} {lo : Obj} {vs : List Value} {nn : Nat} {m₀ : Str → Option Value} {news : Led}
    (hh : A.handled = none) (F : Fr h₀ env.locals s.heap m₀) (N : News h₀ env.locals s.heap news) (hm : (ax, lo) ∈ news) (hc : lo.cls = .type "tuple") (hd : lo.data = .seq vs.toArray nn)
    (Inv : List Value → List Value → (Str → Option Value) → Led → Prop) (h0 : Inv [] vs m₀ news) (hlp : ∀ p r m n, Inv p r m n → (ax, lo) ∈ n)
    (turn : ∀ pre v r m n q h tk, vs = pre ++ v :: r → Inv pre (v :: r) m n → (∀ p ∈ n, p.1 ≠ q.1) → Fr h₀ env.locals h m → News h₀ env.locals h (q :: n) →
      wpAny (model prog w) A (assign target env v) (fun _ s₃ => wpAny (model prog w) A (execs body env) (TurnPost h₀ env.locals { s with heap := h, toks := tk } q (Inv (pre ++ [v]) r) Q) E s₃) E { s with heap := h, toks := tk })
    (done : ∀ m n h tk, Inv vs [] m n → Fr h₀ env.locals h m → News h₀ env.locals h n → Q .next { s with heap := h, toks := tk }) :
    wpAny (model prog w) A (pyIter (.ref ax)) (fun it s₂ => TurnsAt prog w A h₀ env target body Q E it s₂) E s := by
  have hax := N _ hm
  have hl : s.heap.IsTuple ax vs.toArray := ⟨lo, hax.1, hc, nn, hd⟩
  have hlt : ax < s.heap.objs.size := Heap.lt_size hax.1
  have hne : ax ≠ s.heap.objs.size := Nat.ne_of_lt hlt
  refine wpAny_pyIter_tuple hl ?_
  have hneL : ax ≠ env.locals := hax.2.1
  have hnew := next_is_new F
  have W := Walks.tuple (prog := prog) (w := w) (A := A) hh s.heap.objs.size ax hne vs.toArray
  have hlen : vs.toArray.size = vs.length := by simp
  rw [hlen] at W
  have K := KTurns.ofWalks (target := target) W fun i v s Q E st q => letGo_tupleiter st.1 q
  let J : Nat → (Str → Option Value) → Led → Prop := fun i m₁ news₁ => Inv (vs.take i) (vs.drop i) m₁ news₁
  refine ⟨_, _, _, vs.length, _, _, _, m₀, news, J, rfl, K, ?_, ?_, ?_, ⟨⟨_, Heap.get?_push_size _ rfl, rfl, rfl⟩, hl.at fun o e => Heap.get?_push_of_some _ e⟩, F.push _, (fun p hp => ⟨Heap.get?_push_of_some _ (N p hp).1, (N p hp).2⟩), ?_, ?_, ?_⟩
  · intro hmm
    rcases List.mem_cons.mp hmm with e | hmm
    · exact absurd F.ns.lt (e ▸ Nat.lt_irrefl _)
    · exact hneL (List.mem_singleton.mp hmm).symm
  · intro b hb
    rw [List.mem_singleton.mp hb]
    exact hnew
  · intro p hp hI
    exact absurd (Heap.lt_size (N p hp).1) ((List.mem_singleton.mp hI) ▸ Nat.lt_irrefl _)
  · show Inv (vs.take 0) (vs.drop 0) m₀ news
    rw [List.take_zero, List.drop_zero]; exact h0
  · intro i v m₁ news₁ hh' tk' own hin hPi hJ hoff hown hget hall hst F₁ N₁
    obtain ⟨it, hit, _, _⟩ := hst.1
    have hmemI := hall s.heap.objs.size (List.mem_cons_self ..) hnew _ hit
    have hv : vs[i]? = some v := by simpa using hPi
    have hlt : i < vs.length := hin
    have hvi : vs[i] = v := Option.some.inj ((List.getElem?_eq_getElem hlt).symm.trans hv)
    have hdrop : vs.drop i = v :: vs.drop (i + 1) := by rw [List.drop_eq_getElem_cons hlt, hvi]
    have htake : vs.take (i + 1) = vs.take i ++ [v] := by rw [List.take_succ_eq_append_getElem hlt, hvi]
    have hJ' : Inv (vs.take i) (v :: vs.drop (i + 1)) m₁ news₁ := by rw [← hdrop]; exact hJ
    have hmem₁ : (ax, lo) ∈ news₁ := hlp _ _ _ _ hJ'
    have N₂ : News h₀ env.locals hh' ((s.heap.objs.size, it) :: news₁) := fun p hp => by
      rcases List.mem_cons.mp hp with rfl | hp
      · exact N₁ _ (List.mem_append_left _ hmemI)
      · exact N₁ _ (List.mem_append_right _ hp)
    have off₁ : ∀ p ∈ news₁, p.1 ≠ s.heap.objs.size := fun p hp e => hoff p hp (List.mem_singleton.mpr e)
    refine wpAny_mono (turn (vs.take i) v (vs.drop (i + 1)) m₁ news₁ (s.heap.objs.size, it) hh' tk' (by rw [← hdrop, List.take_append_drop]) hJ' off₁ F₁ N₂) (fun _ s₃ p => wpAny_mono p (fun f s₂ p => ?_) fun _ _ e => e) fun _ _ e => e
    have fin : TurnEnd h₀ env.locals { s with heap := hh', toks := tk' } (s.heap.objs.size, it) (Inv (vs.take i ++ [v]) (vs.drop (i + 1))) s₂ →
        LoopStepU h₀ env.locals [s.heap.objs.size] own (J (i + 1)) { s with heap := hh', toks := tk' } .next s₂ := by
      rintro ⟨h', tk, m', news', e, F', N', ho, r⟩
      have hmm : (ax, lo) ∈ news' := hlp _ _ _ _ r
      refine ⟨rfl, h', tk, m', news', e, F', fun p hp => ?_, fun p hp hI => ho p hp (List.mem_singleton.mp hI), ?_⟩
      · rcases List.mem_append.mp hp with hp | hp
        · have h2 : hh'.get? p.1 = some p.2 := hget p hp
          rcases List.mem_cons.mp (hown p hp) with h1 | h1
          · have h3 : p = (s.heap.objs.size, it) := by
              rw [h1, hit] at h2
              exact Prod.ext h1 (Option.some.inj h2).symm
            rw [h3]; exact N' _ (List.mem_cons_self ..)
          · have h1' : p.1 = (ax, lo).1 := List.mem_singleton.mp h1
            have h3 : p = (ax, lo) := by
              rw [h1', (N₂ _ (List.mem_cons_of_mem _ hmem₁)).1] at h2
              exact Prod.ext h1' (Option.some.inj h2).symm
            rw [h3]; exact N' _ (List.mem_cons_of_mem _ hmm)
        · exact N' _ (List.mem_cons_of_mem _ hp)
      · show Inv (vs.take (i + 1)) (vs.drop (i + 1)) m' news'
        rw [htake]; exact r
    cases f with
    | ret v => exact .ret p
    | brk => exact .brk p
    | next => exact .next (fin p)
    | cont => exact .cont (fin p)
  · rintro h' tk m' news' F' N' _ hJ
    have hJ' : Inv (vs.take vs.length) (vs.drop vs.length) m' news' := hJ
    rw [List.take_length, List.drop_length] at hJ'
    exact done m' news' h' tk hJ' F' N'
theorem set_map {stored : List Str} {m₀ m : Str → Option Value} (h : ∀ y, stored.contains y = false → m y = m₀ y) : m = fun y => if stored.contains y then m y else m₀ y := by
  funext y
  cases h2 : stored.contains y
  · simp [h y h2]
  · simp
theorem each_pairs {ax : Addr} {lo : Obj} {vs : List Value} {nn : Nat} {m₀ : Str → Option Value} {news base : Led} (stored : List Str)
    (hh : A.handled = none) (F : Fr h₀ env.locals s.heap m₀) (N : News h₀ env.locals s.heap news) (hm : (ax, lo) ∈ base) (hc : lo.cls = .type "tuple") (hd : lo.data = .seq vs.toArray nn) (hb : ∀ p ∈ base, p ∈ news)
    (hv : ∀ v ∈ vs, ∃ T t1 t2, ∃ i j : Nat, v = Value.ref T ∧ (T, ({ cls := .type "tuple", data := .seq #[Value.int (i : Int) t1, .int (j : Int) t2] } : Obj)) ∈ base ∧ i < 3 ∧ j < 3)
    (turn : ∀ T t1 t2 (i j : Nat) (u : Str → Option Value) nx q h tk, (T, ({ cls := .type "tuple", data := .seq #[Value.int (i : Int) t1, .int (j : Int) t2] } : Obj)) ∈ base → i < 3 → j < 3 → (∀ p ∈ base, p ∈ nx) → (∀ p ∈ nx, p.1 ≠ q.1) → Fr h₀ env.locals h (fun y => if stored.contains y then u y else m₀ y) → News h₀ env.locals h (q :: nx) →
      wpAny (model prog w) A (assign target env (.ref T)) (fun _ s₃ => wpAny (model prog w) A (execs body env) (TurnPost h₀ env.locals { s with heap := h, toks := tk } q (fun m' n' => (∀ y, stored.contains y = false → m' y = m₀ y) ∧ ∀ p ∈ base, p ∈ n') Q) E s₃) E { s with heap := h, toks := tk })
    (done : ∀ (u : Str → Option Value) nx h tk, (∀ p ∈ base, p ∈ nx) → Fr h₀ env.locals h (fun y => if stored.contains y then u y else m₀ y) → News h₀ env.locals h nx → Q .next { s with heap := h, toks := tk }) :
    wpAny (model prog w) A (pyIter (.ref ax)) (fun it s₂ => TurnsAt prog w A h₀ env target body Q E it s₂) E s := by
  refine each_tupleT hh F N (hb _ hm) hc hd (fun _ _ m n => (∀ y, stored.contains y = false → m y = m₀ y) ∧ ∀ p ∈ base, p ∈ n) ⟨fun _ _ => rfl, hb⟩ (fun _ _ _ n h => h.2 _ hm) ?_ ?_
  · rintro pre v r m n q h tk e ⟨hmm, hbn⟩ off F₁ N₁
    obtain ⟨T, t1, t2, i, j, rfl, hT, hi, hj⟩ := hv v (by rw [e]; exact List.mem_append_right _ (.head _))
    rw [set_map hmm] at F₁
    exact turn T t1 t2 i j m n q h tk hT hi hj hbn off F₁ N₁
  · rintro m n h tk ⟨hmm, hbn⟩ F₁ N₁
    rw [set_map hmm] at F₁
    exact done m n h tk hbn F₁ N₁
theorem vals_loop {x : Str} {ax : Addr} {ws : List Value} {ds : List VD} {ad : Cls → Addr} {nn : Nat} {m₀ : Str → Option Value} {news : Led} (stored : List Str)
    (hh : A.handled = none) (F : Fr h₀ env.locals s.heap m₀) (N : News h₀ env.locals s.heap news) (hm : (ax, listOf ws.toArray nn) ∈ news) (hvs : VsAre news ad ws ds)
    (turn : ∀ v d (u : Str → Option Value) q h tk, d ∈ ds → VIs news ad v d → (∀ p ∈ news, p.1 ≠ q.1) → Fr h₀ env.locals h (fun y => if y = x then some v else if stored.contains y then u y else m₀ y) → News h₀ env.locals h (q :: news) →
      wpAny (model prog w) A (execs body env) (TurnPost h₀ env.locals { s with heap := h, toks := tk } q (PureI x stored m₀ news True) Q) E { s with heap := h, toks := tk })
    (done : ∀ (u : Str → Option Value) h tk, Fr h₀ env.locals h (fun y => if y = x then u y else if stored.contains y then u y else m₀ y) → News h₀ env.locals h news → Q .next { s with heap := h, toks := tk }) :
    wpAny (model prog w) A (pyIter (.ref ax)) (fun it s₂ => LoopAtV prog w A h₀ env x body Q E it s₂) E s := by
  refine each_list hh F N hm rfl rfl (fun _ _ m n => PureI x stored m₀ news True m n) ⟨rfl, trivial, fun _ _ _ => rfl⟩ (fun _ _ _ n h => h.1.symm ▸ hm) ?_ ?_
  · rintro pre v r m n q h tk e ⟨rfl, _, hmm⟩ off F₁ N₁
    obtain ⟨d, hd, hv⟩ := hvs.at e
    rw [pure_map hmm] at F₁
    exact turn v d m q h tk hd hv off F₁ N₁
  · rintro m n h tk ⟨rfl, _, hmm⟩ F₁ N₁
    rw [pure_map2 hmm] at F₁
    exact done m h tk F₁ N₁
theorem pairs_ok {T1 T2 T3 : Addr} {a1 b1 a2 b2 a3 b3 : Tok} {base : Led} (h1 : (T1, ({ cls := .type "tuple", data := .seq #[Value.int 0 a1, .int 1 b1] } : Obj)) ∈ base) (h2 : (T2, ({ cls := .type "tuple", data := .seq #[Value.int 1 a2, .int 2 b2] } : Obj)) ∈ base) (h3 : (T3, ({ cls := .type "tuple", data := .seq #[Value.int 0 a3, .int 2 b3] } : Obj)) ∈ base) :
    ∀ v ∈ [Value.ref T1, .ref T2, .ref T3], ∃ T t1 t2, ∃ i j : Nat, v = Value.ref T ∧ (T, ({ cls := .type "tuple", data := .seq #[Value.int (i : Int) t1, .int (j : Int) t2] } : Obj)) ∈ base ∧ i < 3 ∧ j < 3 := by
  intro v hv
  rcases List.mem_cons.mp hv with rfl | hv
  · exact ⟨T1, a1, b1, 0, 1, rfl, h1, by decide, by decide⟩
  · rcases List.mem_cons.mp hv with rfl | hv
    · exact ⟨T2, a2, b2, 1, 2, rfl, h2, by decide, by decide⟩
    · rcases List.mem_cons.mp hv with rfl | hv
      · exact ⟨T3, a3, b3, 0, 2, rfl, h3, by decide, by decide⟩
      · exact absurd hv List.not_mem_nil
end
end
local macro_rules | `(tactic| walk_at "call ref") => ctLine "442" .V `is_subtype_ct tbS (relBy `SubtypeRel.mk 9 3)
local macro_rules | `(tactic| walk_at "call ref") => do ctLine "632" .V `law_due_ct tbS (← relCase `LawDueRel.mk 9 [0, 1, 2, 3, 4])
local macro_rules | `(tactic| walk_at "call ref") => do ctLine "639" .V `law_takes_ct tbS (← relCase `LawTakesRel.mk 9 [0, 1, 2])
section
local macro_rules | `(tactic| ktr_units) => `(tactic| ((have hcL9 := cLine_is); (try simp only [units_in1, units_deeper, units_under_make, Around.mark_units, units_caller] at *); (try dsimp only [ktrTop] at *); omega))
local macro_rules | `(tactic| walk_at "exec For Name Call cons nil") => forLine
local macro_rules | `(tactic| walk_at "setItem ref ref") => stopOut
local macro_rules | `(tactic| walk_at "compareOp NotEq bool bool") => stopOut
local macro_rules | `(tactic| walk_at "subscriptTail") => stopAt [gSub (apN `Value.ref 1) (apN `Value.ref 1)]
local macro_rules | `(tactic| walk_at "subscriptTail Name Name ref int") => `(tactic| (k_here; first
  | (k_dflt (refine' item_kl (News.isList ?N ?m) ?hi ?_ ?hs; (case N => k_asm); (case m => k_mem); (case hi => assumption); (case hs => with_unfolding_all rfl)))
  | (k_dflt (refine' item_sel (News.isList ?N ?m) ?hi ?_ ?hs; (case N => k_asm); (case m => k_mem); (case hi => assumption); (case hs => with_unfolding_all rfl)))))
local macro_rules | `(tactic| tb_start) => `(tactic| first | assumption | exact news_drop1 (by assumption) | exact news_drop2 (by assumption) | exact news_drop3 (by assumption) | exact news_drop4 (by assumption) | exact news_drop5 (by assumption) | exact news_drop6 (by assumption) | exact news_drop7 (by assumption))
theorem rest3_ok (prog : Program) (w : World) (p : Program) (loose : List Str) (mean : ExcName → Option Value) (mg mb : Str → Option Value) (dp un : Nat) (gd : Option (List Code)) (cn : Str) (a : Addr) (ccd : Value) (outer : List Env) (A₀ : Around) (base h₀ : Heap) (L : Addr) (m₂ : Str → Option Value) (s : Shared) (Q : Flow → Shared → Prop) (E : Value → Shared → Prop)
    (oc : Value) (od : Option Addr) (osl : Array (Option Value)) (name qual : Str) (params : Arguments) (body : List Stmt) (scope : Scope) (dV kV doc pm : Value) (an : Option Addr) (cdv ct : Value)
    (ho : (hd.heap_1 w.params).lookup 644 = some ⟨oc, od, .func (fnOf name qual params body scope dV kV doc pm an cdv ct), osl⟩)
    (H DK DT V : Addr) (nV : Nat) (ws : List Value) (u : Str → Option Value) (wk : Nat) (ad : Cls → Addr) (led : Led) (y0 y1 y2 : Value) (ty0 ty1 ty2 : Ty) (k4 k5 k6 k7 : Nat) (oP oL : Option Value)
    (B : Below A₀ base outer h₀) (X : (hd.heap_1 w.params).In h₀) (T : Top p loose mean mg mb h₀) (hdp : dp + 20 < recursionLimit) (hun : un + 200 < cLine) (hwk : wk ≤ 3)
    (m0 : Menu ty0) (m1 : Menu ty1) (m2 : Menu ty2) (w0 : TyIs led y0 ty0) (w1 : TyIs led y1 ty1) (w2 : TyIs led y2 ty2) (l4 : k4 ≤ 2) (l5 : k5 ≤ k4) (l6 : k6 ≤ k5) (l7 : k4 ≤ k7) (u7 : k7 ≤ 2)
    (F : Fr h₀ L s.heap (fun y => if y = "name" then u y else if y = "values" then some (.ref V) else if y = "static" then some (.ref (ad (pk k7))) else if y = "klasses" then some (.ref DK) else if y = "places" then oP else if y = "low" then oL else if y = "types" then some (.ref DT) else if y = "host" then some (.ref H) else m₂ y))
    (N : News h₀ L s.heap led) (hDK : (DK, LCg.lst [.ref (ad (pk k4)), .ref (ad (pk k5)), .ref (ad (pk k6))]) ∈ led) (hDT : (DT, LCg.lst [y0, y1, y2]) ∈ led) (hV : (V, listOf ws.toArray nV) ∈ led) (hvs : VsAre led ad ws vds)
    (W : Wld prog w led wk ad H)
    (hE : PassesOwn (model prog w) (ktrTop dp un gd cn scope L a ccd (cellsFrom (L + 1) scope.names []) outer) (envX cn scope L a ccd (cellsFrom (L + 1) scope.names [])) E)
    (ret : ∀ h' tk' m', Fr h₀ L h' m' → Q (.ret (.bool true)) { s with heap := h', toks := tk' }) :
    wpAny (model prog w) (ktrTop dp un gd cn scope L a ccd (cellsFrom (L + 1) scope.names []) outer) (execs (body.drop 14) (envX cn scope L a ccd (cellsFrom (L + 1) scope.names []))) Q E s := by
  (have hx : fillK PySem.Challenge.rw_pq0853_01 hd.heap_1 = fillK PySem.Challenge.rw_pq0853_01 hd.heap_1 := by k_fill; rfl)
  clear hx
  have e := ho.symm.trans (show (hd.heap_1 w.params).lookup 644 = some _ from by k_is)
  simp only [Option.some.injEq, Obj.mk.injEq, Data.func.injEq, FuncData.mk.injEq, FuncBody.stmts.injEq] at e
  obtain ⟨-, -, ⟨-, -, -, hb, hs, -⟩, -⟩ := e
  subst hb
  subst hs
  simp only [List.drop_succ_cons, List.drop_zero]
  (try k_fold)
  have hty : ∀ i, Menu (sel3 ty0 ty1 ty2 i) := sel3_all m0 m1 m2
  have hyt : ∀ {led' : Led}, (∀ p ∈ led, p ∈ led') → ∀ i, TyIs led' (sel3 y0 y1 y2 i) (sel3 ty0 ty1 ty2 i) := fun hs' i => sel3_rel (w0.mono hs') (w1.mono hs') (w2.mono hs') i
  k_steps
  unfold Stop
  with_reducible rename IsRange _ _ _ _ _ _ _ _ => hR
  with_reducible rename Fr _ _ _ _ => FR
  with_reducible rename News _ _ _ _ => NR
  rename ∀ p ∈ led, p.1 < _ => lT
  with_reducible rename Obj.IsDictOf (intKind prog w) _ [] => hI
  with_reducible rename (_ == sysModules) = false => lo
  refine each_rangeQ (n := 3) ["j"] (fun i nx => Told prog w nx _ led (subF wk ty0 ty1 ty2 k4 k5 k6) (fun a b => a < i ∧ b < 3) (3 * i)) (by rfl) FR NR hR (by decide) (by decide) (told_start NR lT lo hI) ?_ ?_
  · intro i ti u1 nx q h tk hi T1 off F1 N1 hq
    k_steps
    unfold Stop
    with_reducible rename IsRange _ _ _ _ _ _ _ _ => hR2
    with_reducible rename Fr _ _ _ _ => FR2
    with_reducible rename News _ _ _ _ => NR2
    refine each_rangeQ (n := 3) [] (fun j nx' => Told prog w nx' _ (q :: led) (subF wk ty0 ty1 ty2 k4 k5 k6) (fun a b => (a < i ∧ b < 3) ∨ (a = i ∧ b < j)) (3 * i + j)) (by rfl) FR2 NR2 hR2 (by decide) (by decide) (T1.inner off) ?_ ?_
    · intro j tj u2 nx2 q2 h2 tk2 hj T2 off2 F2 N2 hq2
      have sb : ∀ p ∈ led, p ∈ q2 :: nx2 := fun p hp => .tail _ (T2.keep p (.tail _ hp)).1
      have hDK2 := sb _ hDK
      have hDT2 := sb _ hDT
      have Wn := W.mono sb
      have hti := hyt sb i
      have htj := hyt sb j
      have fi := menu_few (hty i)
      have fj := menu_few (hty j)
      have hsd := sub_due (wk_wks hwk) (pk_ps (sel3 k4 k5 k6 i)) (pk_ps (sel3 k4 k5 k6 j)) (hty i) (hty j)
      k_steps
      unfold Stop
      with_reducible rename Fr _ _ _ _ => F3
      with_reducible rename News _ _ _ _ => N3
      refine told_set (by ktr_units) F3 N3 (T2.cons q2) (by omega) rfl ?_
      intro h3 nx3 F4 N4 T3 keep3
      have hq3 : q2 ∈ nx3 := keep3 _ (.head _) (fun e => by obtain ⟨o, ho⟩ := T2.td_in; exact off2 _ ho e.symm)
      have sb3 : ∀ p ∈ led, p ∈ nx3 := fun p hp => (T3.keep p (.tail _ hp)).1
      have hDK3 := sb3 _ hDK
      have hDT3 := sb3 _ hDT
      have Wn3 := W.mono sb3
      have hti3 := hyt sb3 i
      have htj3 := hyt sb3 j
      k_steps
      unfold Stop
      with_reducible rename News _ _ _ _ => N5
      refine told_get (by ktr_units) N5 (.head _) (news_drop1 N5) T3 (Or.inr ⟨rfl, rfl⟩) ?_ (by with_unfolding_all rfl) (by intro _; with_unfolding_all rfl)
      k_steps
      unfold Stop
      rw [← hsd]
      refine ne_same (b := subF wk ty0 ty1 ty2 k4 k5 k6 i j) (by ktr_units) ?_
      k_steps
      unfold Stop
      refine told_turn (by k_asm) (show News _ _ _ nx3 by tb_start) T3 hq3 hq2 (fun p hp => off2 _ (T2.keep p hp).1) (fun a b h => by omega) (Nat.le_refl _) ?_
      intro y h1 h2
      simp only [h1, h2, if_false, Bool.false_eq_true]
    · intro u2 nx2 h2 tk2 T2 F2 N2
      k_steps
      unfold Stop
      refine told_turn (by k_asm) N2 (T2.sub (base' := led) (fun p hp => List.mem_cons_of_mem _ hp)) (T2.keep _ (.head _)).1 hq (fun p hp => off _ (T1.keep p hp).1) (fun a b h => by omega) (by omega) ?_
      intro y h1 h2
      have h3 := h2
      simp only [List.contains_cons, List.contains_nil, Bool.or_false, beq_eq_false_iff_ne] at h3
      simp only [h1, h2, h3, if_false, Bool.false_eq_true, List.contains_nil]
  · intro u1 nx h tk T1 F1 N1
    have sb : ∀ p ∈ led, p ∈ nx := fun p hp => (T1.keep p hp).1
    k_steps
    unfold Stop
    refine cut_any false (by assumption) N1 ?_ ?_
    · intro cm
      k_steps
      unfold Stop
      with_reducible rename News _ _ _ _ => N5
      refine told_get (i := 0) (j := 0) (by ktr_units) N5 (.head _) (show News _ _ _ nx by tb_start) T1 ⟨by decide, by decide⟩ ?_ (by with_unfolding_all rfl) (by intro _; with_unfolding_all rfl)
      rw [subF_refl hwk hty 0]
      k_steps
      unfold Stop
      with_reducible rename News _ _ _ _ => N5
      refine told_get (i := 1) (j := 1) (by ktr_units) N5 (.head _) (show News _ _ _ nx by tb_start) T1 ⟨by decide, by decide⟩ ?_ (by with_unfolding_all rfl) (by intro _; with_unfolding_all rfl)
      rw [subF_refl hwk hty 1]
      k_steps
      unfold Stop
      with_reducible rename News _ _ _ _ => N5
      refine told_get (i := 2) (j := 2) (by ktr_units) N5 (.head _) (show News _ _ _ nx by tb_start) T1 ⟨by decide, by decide⟩ ?_ (by with_unfolding_all rfl) (by intro _; with_unfolding_all rfl)
      rw [subF_refl hwk hty 2]
      k_steps
      unfold Stop
      with_reducible rename News _ _ _ _ => N5
      refine told_get (i := 0) (j := 1) (by ktr_units) N5 (.head _) (show News _ _ _ nx by tb_start) T1 ⟨by decide, by decide⟩ ?_ (by with_unfolding_all rfl) (by intro _; with_unfolding_all rfl)
      by_cases h01 : subF wk ty0 ty1 ty2 k4 k5 k6 0 1 = true
      · rw [h01]
        k_steps
        unfold Stop
        with_reducible rename News _ _ _ _ => N5
        refine told_get (i := 1) (j := 2) (by ktr_units) N5 (.head _) (show News _ _ _ nx by tb_start) T1 ⟨by decide, by decide⟩ ?_ (by with_unfolding_all rfl) (by intro _; with_unfolding_all rfl)
        by_cases h12 : subF wk ty0 ty1 ty2 k4 k5 k6 1 2 = true
        · rw [h12]
          k_steps
          unfold Stop
          with_reducible rename News _ _ _ _ => N5
          refine told_get (i := 0) (j := 2) (by ktr_units) N5 (.head _) (show News _ _ _ nx by tb_start) T1 ⟨by decide, by decide⟩ ?_ (by with_unfolding_all rfl) (by intro _; with_unfolding_all rfl)
          rw [subF_trans hwk hty l4 l5 h01 h12]
          k_steps
          exact CutEnd.mk rfl (by k_asm) (by tb_start)
        · rw [eq_false_of_ne_true h12]
          k_steps
          exact CutEnd.mk rfl (by k_asm) (by tb_start)
      · rw [eq_false_of_ne_true h01]
        k_steps
        exact CutEnd.mk rfl (by k_asm) (by tb_start)
    · intro h9 tk9 F9 N9
      k_steps
      unfold Stop
      with_reducible rename Fr _ _ _ _ => FP
      with_reducible rename News _ _ _ _ => NP
      refine each_pairs ["i", "j", "value", "is_taken"] (by rfl) FP NP (.head _) rfl rfl (fun _ h => h) (pairs_ok (by k_mem) (by k_mem) (by k_mem)) ?_ ?_
      · intro T t1 t2 i j u nx1 q h1 tk1 hT hi hj hb off F1' N1'
        have hT' := List.mem_cons_of_mem q (hb _ hT)
        have sx : ∀ p ∈ nx, p ∈ nx1 := fun p hp => hb p (by repeat (first | exact hp | apply List.mem_cons_of_mem))
        k_steps
        unfold Stop
        with_reducible rename Fr _ _ _ _ => F5
        with_reducible rename News _ _ _ _ => N5
        refine vals_loop ["is_taken"] (by rfl) F5 N5 (List.mem_cons_of_mem _ (sx _ (sb _ hV))) (hvs.mono (fun p hp => List.mem_cons_of_mem _ (sx _ (sb _ hp)))) ?_ ?_
        · intro v d u2 q2 h2 tk2 hd hv off2 F2 N2
          have s2 : ∀ p ∈ led, p ∈ q2 :: q :: nx1 := fun p hp => .tail _ (.tail _ (sx _ (sb _ hp)))
          have hDK2 := s2 _ hDK
          have hDT2 := s2 _ hDT
          have Wn := W.mono s2
          have hti := hyt s2 i
          have htj := hyt s2 j
          have hv2 := hv.mono (news' := q2 :: q :: nx1) (fun p hp => .tail _ hp)
          k_steps
          unfold Stop
          refine cut_any (news := q2 :: q :: nx1) false (by assumption) (by tb_start) ?_ ?_
          · intro cm
            k_steps
            unfold Stop
            with_reducible rename News _ _ _ _ => N6
            refine told_get (by ktr_units) N6 (.head _) (show News _ _ _ nx from fun p hp => N6 p (.tail _ (.tail _ (.tail _ (sx p hp))))) T1 ⟨hi, hj⟩ ?_ (by with_unfolding_all rfl) (by intro _; with_unfolding_all rfl)
            by_cases hij : subF wk ty0 ty1 ty2 k4 k5 k6 i j = true
            · rw [hij]
              k_steps
              all_goals first
                | exact CutEnd.mk rfl (by k_asm) (by tb_start)
                | (rename takesS _ (sel3 ty0 ty1 ty2 j) _ _ _ = false => hf
                   have hs := subF_sound (j := j) hwk hty l4 l5 l6 l7 u7 hd hij (by assumption)
                   rw [hf] at hs
                   cases hs)
            · rw [eq_false_of_ne_true hij]
              k_steps
              exact CutEnd.mk rfl (by k_asm) (by tb_start)
          · intro h9 tk9 F9 N9
            k_steps
            unfold Stop
            refine TurnEnd.pure (by k_asm) (by tb_start) off2 trivial ?_
            intro y h1 h2
            have h3 := h2
            simp only [List.contains_cons, List.contains_nil, Bool.or_false, beq_eq_false_iff_ne] at h3
            simp only [h1, h2, h3, if_false, Bool.false_eq_true]
        · intro u2 h2 tk2 F2 N2
          k_steps
          unfold Stop
          refine ⟨_, _, _, nx1, rfl, by k_asm, N2, off, ?_, hb⟩
          intro y h1
          have h3 := h1
          simp only [List.contains_cons, List.contains_nil, Bool.or_false, Bool.or_eq_false_iff, beq_eq_false_iff_ne] at h3
          have b1 : (y == ("is_taken" : Str)) = false := beq_eq_false_iff_ne.mpr h3.2.2.2
          have b2 : (y == ("j" : Str)) = false := beq_eq_false_iff_ne.mpr h3.2.1
          simp only [h1, h3.1, h3.2.1, h3.2.2.1, b1, b2, if_false, Bool.false_eq_true, List.contains_cons, List.contains_nil, Bool.or_false]
      · intro u nx1 h1 tk1 hb F1' N1'
        k_steps
        exact ret _ _ _ (by k_asm)
end
section
local macro_rules | `(tactic| ktr_units) => `(tactic| ((have hcL9 := cLine_is); (try simp only [units_in1, units_deeper, units_under_make, Around.mark_units, units_caller] at *); (try dsimp only [ktrTop] at *); omega))
local macro_rules | `(tactic| walk_at "call ref") => stopCall "253"
local macro_rules | `(tactic| walk_at "call ref") => stopCall "168"
local macro_rules | `(tactic| walk_at "exec For Name Tuple cons nil") => forLine
local macro_rules | `(tactic| walk_at "ObjPost") => unfoldLine `ObjPost
local macro_rules | `(tactic| walk_at "ObjEnd") => stopOut
local macro_rules | `(tactic| walk_at "call builtin:len") => stopMark "7"
local macro_rules | `(tactic| walk_at "subscriptTail") => stopAt [gSub (apN `Value.ref 1) (apN `Value.str 2)]
local macro_rules | `(tactic| walk_at "execs cons") => stopMark "9"
theorem rest2_ok (prog : Program) (w : World) (p : Program) (loose : List Str) (mean : ExcName → Option Value) (mg mb : Str → Option Value) (dp un : Nat) (gd : Option (List Code)) (cn : Str) (a : Addr) (ccd : Value) (outer : List Env) (A₀ : Around) (base h₀ : Heap) (L : Addr) (m₂ : Str → Option Value) (s : Shared) (Q : Flow → Shared → Prop) (E : Value → Shared → Prop)
    (oc : Value) (od : Option Addr) (osl : Array (Option Value)) (name qual : Str) (params : Arguments) (body : List Stmt) (scope : Scope) (dV kV doc pm : Value) (an : Option Addr) (cdv ct : Value)
    (ho : (hd.heap_1 w.params).lookup 644 = some ⟨oc, od, .func (fnOf name qual params body scope dV kV doc pm an cdv ct), osl⟩)
    (H DK DT : Addr) (wk : Nat) (ad : Cls → Addr) (led : Led) (y0 y1 y2 : Value) (ty0 ty1 ty2 : Ty) (k4 k5 k6 k7 : Nat) (oP oL : Option Value)
    (B : Below A₀ base outer h₀) (X : (hd.heap_1 w.params).In h₀) (T : Top p loose mean mg mb h₀) (hdp : dp + 20 < recursionLimit) (hun : un + 200 < cLine) (hwk : wk ≤ 3)
    (m0 : Menu ty0) (m1 : Menu ty1) (m2 : Menu ty2) (w0 : TyIs led y0 ty0) (w1 : TyIs led y1 ty1) (w2 : TyIs led y2 ty2) (l4 : k4 ≤ 2) (l5 : k5 ≤ k4) (l6 : k6 ≤ k5) (l7 : k4 ≤ k7) (u7 : k7 ≤ 2)
    (F : Fr h₀ L s.heap (fun y => if y = "static" then some (.ref (ad (pk k7))) else if y = "klasses" then some (.ref DK) else if y = "places" then oP else if y = "low" then oL else if y = "types" then some (.ref DT) else if y = "host" then some (.ref H) else m₂ y))
    (N : News h₀ L s.heap ((DK, LCg.lst [.ref (ad (pk k4)), .ref (ad (pk k5)), .ref (ad (pk k6))]) :: (DT, LCg.lst [y0, y1, y2]) :: led))
    (W : Wld prog w led wk ad H)
    (hE : PassesOwn (model prog w) (ktrTop dp un gd cn scope L a ccd (cellsFrom (L + 1) scope.names []) outer) (envX cn scope L a ccd (cellsFrom (L + 1) scope.names [])) E)
    (ret : ∀ h' tk' m', Fr h₀ L h' m' → Q (.ret (.bool true)) { s with heap := h', toks := tk' }) :
    wpAny (model prog w) (ktrTop dp un gd cn scope L a ccd (cellsFrom (L + 1) scope.names []) outer) (execs (body.drop 12) (envX cn scope L a ccd (cellsFrom (L + 1) scope.names []))) Q E s := by
  (have hx : fillK PySem.Challenge.rw_pq0853_01 hd.heap_1 = fillK PySem.Challenge.rw_pq0853_01 hd.heap_1 := by k_fill; rfl)
  clear hx
  have e := ho.symm.trans (show (hd.heap_1 w.params).lookup 644 = some _ from by k_is)
  simp only [Option.some.injEq, Obj.mk.injEq, Data.func.injEq, FuncData.mk.injEq, FuncBody.stmts.injEq] at e
  obtain ⟨-, -, ⟨-, -, -, hb, hs, -⟩, -⟩ := e
  subst hb
  subst hs
  simp only [List.drop_succ_cons, List.drop_zero]
  (try k_fold)
  k_steps
  unfold Stop
  with_reducible rename News _ _ _ _ => NA
  refine' Ct.use (arr_ct _ _) ?kB ?kF ?kX ?kN ?kT ?kK ?kR ?kd ?ku ?_
  case kB => k_asm
  case kF => k_asm
  case kX => k_asm
  case kN => exact NA
  case kT => k_asm
  case kK => first | exact rfl | assumption
  case kR => exact .mk
  case kd => ktr_room
  case ku => ktr_units
  intro r9 tl9 h9 tk9 F9 N9 P9
  obtain ⟨xa, xd, xes, xn, rfl, rfl, offA⟩ := P9
  simp only [List.cons_append, List.nil_append] at N9
  k_steps
  unfold Stop
  with_reducible rename Fr _ _ _ _ => FV
  with_reducible rename News _ _ _ _ => NV
  rename ∀ p ∈ ((xa, _) :: _ : Led), p.1 < _ => lV
  refine values_loop (ad := ad) (by rfl) FV NV (.head _) (show StrsAre _ [("P0" : Str), "P1", "P2", "Walk", "Closure", "Other"] from .cons _ _ (.cons _ _ (.cons _ _ (.cons _ _ (.cons _ _ (.cons _ _ .nil)))))) (.tail _ (.head _)) (values_base NV lV (by omega)) (ds0 := [.none, .bool true, .bool false, .int, .str "x", .arr])
    (.cons .none (.cons (.bool true) (.cons (.bool false) (.cons (.int _ _) (.cons (.str _ _) (.cons (.arr xa xd xes xn (.tail _ (.head _)) (.tail _ (.tail _ (.head _)))) .nil)))))) ?_ ?_
  · intro pa nm c ra t base ws k nx q h tk e hsub hb hw hl off F1 N1
    obtain ⟨hsz, hval, hpl⟩ := objN_at e ad
    have Wn : Wld prog w (q :: nx) wk ad H := W.mono (fun p hp => .tail _ (hb _ (hsub _ (.tail _ (.tail _ (.tail _ (.tail _ (.tail _ hp))))))).1)
    obtain ⟨d0, es0, n0, T0, oT, C, oC, i1, i2, i3, i4, i5, i6, i7, i8, i9, i10, i11⟩ := Wn.host
    have hw' := List.mem_cons_of_mem q hw
    have mk7 : Mark 7 := ⟨⟩
    k_steps
    unfold Stop
    with_reducible rename News _ _ _ _ => N2
    refine item_dict N2 i9 i10 hval ?_ (by with_unfolding_all rfl)
    k_steps
    unfold Stop
    refine call_len_list (News.isList (by k_asm) hw') (by rw [List.size_toArray, hl]; simp only [List.length_cons, List.length_nil]; omega) ?_
    k_steps
    unfold Stop
    with_reducible rename News _ _ _ _ => N3
    refine' Ct.use (obj_ct _ _) ?kB ?kF ?kX ?kN ?kT ?kK ?kR ?kd ?ku ?_
    case kB => k_asm
    case kF => k_asm
    case kX => k_asm
    case kN => exact N3
    case kT => k_asm
    case kK => first | exact rfl | assumption
    case kR => exact .mk _ _ _
    case kd => ktr_room
    case ku => ktr_units
    intro r9 tl9 h9 tk9 F9 N9 P9
    obtain ⟨ox, od', oes, on, rfl, rfl, og, offO⟩ := P9
    simp only [List.cons_append, List.nil_append] at N9
    k_steps
    unfold Stop
    have hxV := offO _ hw'
    refine append_off (by k_asm) N9 (.tail _ (.tail _ hw')) (by rw [sizeLine_eq, hl]; simp only [List.length_cons, List.length_nil]; omega) ?_
    intro h8 F8 N8
    k_steps
    unfold Stop
    refine obj_end (by k_asm) (off_mono N8 (led' := (ox, instObj 168 od') :: (od', dictOf oes on) :: Led.off (q :: nx) _) (fun p hp => ?_)) off (off _ hw) (Ne.symm (offO q (.head _)).1) (Ne.symm (offO q (.head _)).2) (Ne.symm hxV.1) (Ne.symm hxV.2) hb og ?_
    · rcases List.mem_cons.mp hp with rfl | hp
      · exact ⟨.head _, Ne.symm hxV.1⟩
      · rcases List.mem_cons.mp hp with rfl | hp
        · exact ⟨.tail _ (.head _), Ne.symm hxV.2⟩
        · exact ⟨.tail _ (.tail _ (List.mem_filter.mp hp).1), Led.off_ne _ hp⟩
    · intro y hy
      simp only [hy, if_false]
  · intro u bs ws k nx h tk hsub hbn hV hvs F1 N1
    have Wn : Wld prog w nx wk ad H := W.mono (fun p hp => hbn _ (hsub _ (.tail _ (.tail _ (.tail _ (.tail _ (.tail _ hp)))))))
    have wn0 := w0.mono (news' := nx) (fun p hp => hbn _ (hsub _ (.tail _ (.tail _ (.tail _ (.tail _ (.tail _ hp)))))))
    have wn1 := w1.mono (news' := nx) (fun p hp => hbn _ (hsub _ (.tail _ (.tail _ (.tail _ (.tail _ (.tail _ hp)))))))
    have wn2 := w2.mono (news' := nx) (fun p hp => hbn _ (hsub _ (.tail _ (.tail _ (.tail _ (.tail _ (.tail _ hp)))))))
    have hDK := hbn _ (hsub _ (.tail _ (.tail _ (.tail _ (.head _)))))
    have hDT := hbn _ (hsub _ (.tail _ (.tail _ (.tail _ (.tail _ (.head _))))))
    replace hvs := hvs.mono hbn
    have mk9 : Mark 9 := ⟨⟩
    k_steps
    dsimp only
    unfold Stop
    exact rest3_ok prog w p loose mean mg mb dp un gd cn a ccd outer A₀ base h₀ L _ _ Q E _ _ _ _ _ _ _ _ _ _ _ _ _ _ _ ho H DK DT _ k ws u wk ad nx y0 y1 y2 ty0 ty1 ty2 k4 k5 k6 k7 _ _ B X T hdp hun hwk m0 m1 m2 wn0 wn1 wn2 l4 l5 l6 l7 u7 F1 N1 hDK hDT hV hvs Wn hE ret
theorem rest2_ok2 (prog : Program) (w : World) (p : Program) (loose : List Str) (mean : ExcName → Option Value) (mg mb : Str → Option Value) (dp un : Nat) (gd : Option (List Code)) (cn : Str) (a : Addr) (ccd : Value) (outer : List Env) (A₀ : Around) (base h₀ : Heap) (L : Addr) (m₂ : Str → Option Value) (s : Shared) (Q : Flow → Shared → Prop) (E : Value → Shared → Prop)
    (oc : Value) (od : Option Addr) (osl : Array (Option Value)) (name qual : Str) (params : Arguments) (body : List Stmt) (scope : Scope) (dV kV doc pm : Value) (an : Option Addr) (cdv ct : Value)
    (ho : (hd.heap_1 w.params).lookup 644 = some ⟨oc, od, .func (fnOf name qual params body scope dV kV doc pm an cdv ct), osl⟩)
    (rest : List Stmt) (hr : rest = body.drop 12)
    (H DK DT : Addr) (wk : Nat) (ad : Cls → Addr) (led : Led) (y0 y1 y2 : Value) (ty0 ty1 ty2 : Ty) (k4 k5 k6 k7 : Nat) (oP oL : Option Value)
    (B : Below A₀ base outer h₀) (X : (hd.heap_1 w.params).In h₀) (T : Top p loose mean mg mb h₀) (hdp : dp + 20 < recursionLimit) (hun : un + 200 < cLine) (hwk : wk ≤ 3)
    (m0 : Menu ty0) (m1 : Menu ty1) (m2 : Menu ty2) (w0 : TyIs led y0 ty0) (w1 : TyIs led y1 ty1) (w2 : TyIs led y2 ty2) (l4 : k4 ≤ 2) (l5 : k5 ≤ k4) (l6 : k6 ≤ k5) (l7 : k4 ≤ k7) (u7 : k7 ≤ 2)
    (F : Fr h₀ L s.heap (fun y => if y = "static" then some (.ref (ad (pk k7))) else if y = "klasses" then some (.ref DK) else if y = "places" then oP else if y = "low" then oL else if y = "types" then some (.ref DT) else if y = "host" then some (.ref H) else m₂ y))
    (N : News h₀ L s.heap ((DK, LCg.lst [.ref (ad (pk k4)), .ref (ad (pk k5)), .ref (ad (pk k6))]) :: (DT, LCg.lst [y0, y1, y2]) :: led))
    (W : Wld prog w led wk ad H)
    (hE : PassesOwn (model prog w) (ktrTop dp un gd cn scope L a ccd (cellsFrom (L + 1) scope.names []) outer) (envX cn scope L a ccd (cellsFrom (L + 1) scope.names [])) E)
    (ret : ∀ h' tk' m', Fr h₀ L h' m' → Q (.ret (.bool true)) { s with heap := h', toks := tk' }) :
    wpAny (model prog w) (ktrTop dp un gd cn scope L a ccd (cellsFrom (L + 1) scope.names []) outer) (execs rest (envX cn scope L a ccd (cellsFrom (L + 1) scope.names []))) Q E s := by
  subst hr
  exact rest2_ok prog w p loose mean mg mb dp un gd cn a ccd outer A₀ base h₀ L m₂ s Q E oc od osl name qual params body scope dV kV doc pm an cdv ct ho H DK DT wk ad led y0 y1 y2 ty0 ty1 ty2 k4 k5 k6 k7 oP oL B X T hdp hun hwk m0 m1 m2 w0 w1 w2 l4 l5 l6 l7 u7 F N W hE ret
end
local macro_rules | `(tactic| walk_at "no such key 43") => stopOut
local macro_rules | `(tactic| walk_at "no such key 44") => stopOut
local macro_rules | `(tactic| walk_at "no such key 45") => stopOut
section
local macro_rules | `(tactic| ktr_units) => `(tactic| ((have hcL9 := cLine_is); (try simp only [units_in1, units_deeper, units_under_make, Around.mark_units, units_caller] at *); (try dsimp only [ktrTop] at *); omega))
local macro_rules | `(tactic| walk_at "call ref") => stopCall "589"
local macro_rules | `(tactic| walk_at "storeName") => stopStore "low" "1"
local macro_rules | `(tactic| walk_at "storeName") => stopStore "places" "2"
local macro_rules | `(tactic| walk_at "subscriptTail Name Name ref int") => stopOut
local macro_rules | `(tactic| walk_at "subscriptTail Name BinOp ref int") => stopOut
local macro_rules | `(tactic| walk_at "execs cons") => stopMark "9"
theorem rest_ok (prog : Program) (w : World) (p : Program) (loose : List Str) (mean : ExcName → Option Value) (mg mb : Str → Option Value) (dp un : Nat) (gd : Option (List Code)) (cn : Str) (a : Addr) (ccd : Value) (outer : List Env) (A₀ : Around) (base h₀ : Heap) (L : Addr) (m₁ : Str → Option Value) (s : Shared) (Q : Flow → Shared → Prop) (E : Value → Shared → Prop)
    (oc : Value) (od : Option Addr) (osl : Array (Option Value)) (name qual : Str) (params : Arguments) (body : List Stmt) (scope : Scope) (dV kV doc pm : Value) (an : Option Addr) (cdv ct : Value)
    (ho : (hd.heap_1 w.params).lookup 644 = some ⟨oc, od, .func (fnOf name qual params body scope dV kV doc pm an cdv ct), osl⟩)
    (H D2 ln : Addr) (wk nl : Nat) (ad : Cls → Addr) (nz : Led) (o8 : Obj) (v0 v1 v2 v3 v4 v5 v6 v7 : Int) (t0 t1 t2 t3 t4 t5 t6 t7 : Tok)
    (B : Below A₀ base outer h₀) (X : (hd.heap_1 w.params).In h₀) (T : Top p loose mean mg mb h₀) (hdp : dp + 20 < recursionLimit) (hun : un + 200 < cLine) (hwk : wk ≤ 3)
    (F : Fr h₀ L s.heap (fun y => if y = "host" then some (.ref H) else if y = "draws" then some (.ref D2) else m₁ y))
    (N : News h₀ L s.heap ((L + 1 + 1 + 1, o8) :: (ln, listOf [.ref (ad .p0), .ref (ad .p1), .ref (ad .p2)].toArray nl) :: (D2, LCg.lst [.int v0 t0, .int v1 t1, .int v2 t2, .int v3 t3, .int v4 t4, .int v5 t5, .int v6 t6, .int v7 t7]) :: nz))
    (W : Wld prog w nz wk ad H) (d8 : o8.data = .cell (some (.ref ln)))
    (hE : PassesOwn (model prog w) (ktrTop dp un gd cn scope L a ccd (cellsFrom (L + 1) scope.names []) outer) (envX cn scope L a ccd (cellsFrom (L + 1) scope.names [])) E)
    (ret : ∀ h' tk' m', Fr h₀ L h' m' → Q (.ret (.bool true)) { s with heap := h', toks := tk' }) :
    wpAny (model prog w) (ktrTop dp un gd cn scope L a ccd (cellsFrom (L + 1) scope.names []) outer) (execs (body.drop 6) (envX cn scope L a ccd (cellsFrom (L + 1) scope.names []))) Q E s := by
  (have hx : fillK PySem.Challenge.rw_pq0853_01 hd.heap_1 = fillK PySem.Challenge.rw_pq0853_01 hd.heap_1 := by k_fill; rfl)
  clear hx
  have e := ho.symm.trans (show (hd.heap_1 w.params).lookup 644 = some _ from by k_is)
  simp only [Option.some.injEq, Obj.mk.injEq, Data.func.injEq, FuncData.mk.injEq, FuncBody.stmts.injEq] at e
  obtain ⟨-, -, ⟨-, -, -, hb, hs, -⟩, -⟩ := e
  subst hb
  subst hs
  simp only [List.drop_succ_cons, List.drop_zero]
  (try k_fold)
  k_steps
  unfold Stop
  with_reducible rename News _ _ _ _ => NT
  with_reducible rename Fr _ _ _ _ => FT
  refine LCg.CompSrc.ledger (by rfl) FT NT (.head _) (by rw [sizeLine_eq]; exact Nat.le_of_ble_eq_true rfl) ?_
  intro g
  refine comp_grow (fun led _ y => ∃ ty, Menu ty ∧ TyIs led y ty) (fun led led' i y hs ⟨ty, h1, h2⟩ => ⟨ty, h1, h2.mono hs⟩) (fun led hs => Or.inr ⟨_, hs _ (.head _), rfl, _, rfl⟩) ?_ ?_
  · intro i v q1 C oC q3 m₂ led h tk E' hi hP hC hx hs F4 N4
    obtain ⟨vi, ti, rfl⟩ : ∃ (v' : Int) (t : Tok), v = Value.int v' t := (ints_cons (ints_cons (ints_cons ints_lit))) _ (List.mem_of_getElem? (by simpa using hP))
    k_steps
    unfold Stop
    with_reducible rename News _ _ _ _ => N5
    refine' Ct.use (law_names_ct _ _) ?kB ?kF ?kX ?kN ?kT ?kK ?kR ?kd ?ku ?_
    case kB => k_asm
    case kF => k_asm
    case kX => k_asm
    case kN => exact N5
    case kT => k_asm
    case kK => first | exact rfl | assumption
    case kR => exact .mk _ _
    case kd => ktr_room
    case ku => ktr_units
    intro r9 tl9 h9 tk9 F9 N9 P9
    rcases P9 with ⟨rfl, rfl⟩ | ⟨a9, names9, vs9, n9, rfl, rfl, me9, S9, off9⟩
    · k_steps
      exact GrowEnd.mk [] (by assumption) (by assumption) (fun _ h => absurd h List.not_mem_nil) ⟨none, .none, .none⟩
    · k_steps
      refine GrowEnd.mk [_] (by assumption) (by assumption) (fun t ht p hp => by rw [List.mem_singleton.mp ht]; exact off9 p hp) ⟨some names9, me9, .some a9 names9 ⟨vs9, n9, .head _, S9⟩ (menu_ok me9)⟩
  · intro ys led hl hs hO
    obtain ⟨y0, y1, y2, rfl, ⟨ty0, m0, w0⟩, ⟨ty1, m1, w1⟩, ⟨ty2, m2, w2⟩⟩ := three_vals hl hO
    unfold LCg.FinA
    intro DT hT tkT FT2 NT2 offT
    have hs' := fun p hp => hs p (List.mem_cons_of_mem _ hp)
    have N3 := news_front NT2 hs'
    clear NT2
    dsimp only at FT2
    obtain ⟨n4, e4, l4⟩ := low_ok (v4 := v4)
    obtain ⟨k5, e5, l5⟩ := down_ok n4 l4 v5
    obtain ⟨k6, e6, l6⟩ := down_ok k5 (by omega) v6
    obtain ⟨k7, e7, l7, u7⟩ := up_ok n4 l4 v7
    k_steps
    unfold Stop
    rw [show 2 - ([v0, v1, v2, v3, v4, v5, v6, v7].getD (Int.toNat 4) 0).fmod 3 = (n4 : Int) from e4]
    have mk1 : Mark 1 := ⟨⟩
    k_steps
    unfold Stop
    with_reducible rename News _ _ _ _ => NP
    rw [show (n4 : Int) - ([v0, v1, v2, v3, v4, v5, v6, v7].getD (Int.toNat 5) 0).fmod ((n4 : Int) + 1) = (k5 : Int) from e5] at NP
    have mk2 : Mark 2 := ⟨⟩
    k_steps
    · rename _ = (0 : Int) => hz
      exact absurd (show (k5 : Int) + 1 = 0 from hz) (by omega)
    unfold Stop
    rw [show [(n4 : Int), (k5 : Int)].getD (Int.toNat 1) 0 - ([v0, v1, v2, v3, v4, v5, v6, v7].getD (Int.toNat 6) 0).fmod ([(n4 : Int), (k5 : Int)].getD (Int.toNat 1) 0 + 1) = (k6 : Int) from e6]
    rename ∀ p ∈ ((DT, _) :: _ : Led), p.1 < _ => lP
    with_reducible rename Fr _ _ _ _ => FP
    with_reducible rename News _ _ _ _ => NP2
    refine append_front (vs := [_, _]) FP NP2 (fun p hp => Nat.ne_of_lt (lP p hp)) (Nat.le_of_ble_eq_true rfl) ?_
    intro h6 F6 N6
    k_steps
    unfold Stop
    with_reducible rename News _ _ _ _ => NK
    with_reducible rename Fr _ _ _ _ => FK
    refine LCg.CompSrc.ledger (by rfl) FK NK (.head _) (by rw [sizeLine_eq]; exact Nat.le_of_ble_eq_true rfl) ?_
    intro g2
    refine comp_gen (fun i y => ∃ k, [n4, k5, k6][i]? = some k ∧ y = Value.ref (ad (pk k))) (Or.inr ⟨_, .head _, rfl, _, rfl⟩) ?_ ?_
    · intro i v q1 C oC q3 m₂ h tk E' hi hP hC hx F4 N4
      obtain ⟨k, tk', rfl, hk, hk'⟩ := place_at l4 l5 l6 (by simpa using hP)
      k_steps
      unfold Stop
      with_reducible rename News _ _ _ _ => N5
      refine' item_line (News.isList N5 (by k_mem)) hk ?_ ?hs9
      case hs9 => with_unfolding_all rfl
      k_steps
      exact .mk (by assumption) (by assumption) ⟨k, hk', rfl⟩
    · intro ys hl2 hO2
      obtain rfl := three_kl hl2 hO2
      unfold LCg.FinA
      intro DK hK9 tkK FK2 NK2 offK
      (try dsimp only at FK2)
      k_steps
      unfold Stop
      rw [show (n4 : Int) + ([v0, v1, v2, v3, v4, v5, v6, v7].getD (Int.toNat 7) 0).fmod (3 - (n4 : Int)) = (k7 : Int) from e7]
      with_reducible rename News _ _ _ _ => N5
      refine' item_line (News.isList N5 (by k_mem)) u7 ?_ ?hs9
      case hs9 => with_unfolding_all rfl
      have mk9 : Mark 9 := ⟨⟩
      k_steps
      dsimp only
      unfold Stop
      with_reducible rename Fr _ _ _ _ => FZ
      with_reducible rename News _ _ _ _ => NZ
      obtain ⟨led2, NZ2, sub2⟩ := pack_news NZ
      exact rest2_ok2 prog w p loose mean mg mb dp un gd cn a ccd outer A₀ base h₀ L _ _ Q E _ _ _ _ _ _ _ _ _ _ _ _ _ _ _ ho _ rfl H DK DT wk ad led2 y0 y1 y2 ty0 ty1 ty2 n4 k5 k6 k7 _ _ B X T hdp hun hwk m0 m1 m2 (w0.mono sub2) (w1.mono sub2) (w2.mono sub2) l4 l5 l6 l7 u7 FZ NZ2 (W.mono (fun p hp => sub2 _ (hs' p (.tail _ (.tail _ (.tail _ hp)))))) hE ret
theorem rest_ok2 (prog : Program) (w : World) (p : Program) (loose : List Str) (mean : ExcName → Option Value) (mg mb : Str → Option Value) (dp un : Nat) (gd : Option (List Code)) (cn : Str) (a : Addr) (ccd : Value) (outer : List Env) (A₀ : Around) (base h₀ : Heap) (L : Addr) (m₁ : Str → Option Value) (s : Shared) (Q : Flow → Shared → Prop) (E : Value → Shared → Prop)
    (oc : Value) (od : Option Addr) (osl : Array (Option Value)) (name qual : Str) (params : Arguments) (body : List Stmt) (scope : Scope) (dV kV doc pm : Value) (an : Option Addr) (cdv ct : Value)
    (ho : (hd.heap_1 w.params).lookup 644 = some ⟨oc, od, .func (fnOf name qual params body scope dV kV doc pm an cdv ct), osl⟩)
    (rest : List Stmt) (hr : rest = body.drop 6)
    (H D2 ln : Addr) (wk nl : Nat) (ad : Cls → Addr) (nz : Led) (o8 : Obj) (v0 v1 v2 v3 v4 v5 v6 v7 : Int) (t0 t1 t2 t3 t4 t5 t6 t7 : Tok)
    (B : Below A₀ base outer h₀) (X : (hd.heap_1 w.params).In h₀) (T : Top p loose mean mg mb h₀) (hdp : dp + 20 < recursionLimit) (hun : un + 200 < cLine) (hwk : wk ≤ 3)
    (F : Fr h₀ L s.heap (fun y => if y = "host" then some (.ref H) else if y = "draws" then some (.ref D2) else m₁ y))
    (N : News h₀ L s.heap ((L + 1 + 1 + 1, o8) :: (ln, listOf [.ref (ad .p0), .ref (ad .p1), .ref (ad .p2)].toArray nl) :: (D2, LCg.lst [.int v0 t0, .int v1 t1, .int v2 t2, .int v3 t3, .int v4 t4, .int v5 t5, .int v6 t6, .int v7 t7]) :: nz))
    (W : Wld prog w nz wk ad H) (d8 : o8.data = .cell (some (.ref ln)))
    (hE : PassesOwn (model prog w) (ktrTop dp un gd cn scope L a ccd (cellsFrom (L + 1) scope.names []) outer) (envX cn scope L a ccd (cellsFrom (L + 1) scope.names [])) E)
    (ret : ∀ h' tk' m', Fr h₀ L h' m' → Q (.ret (.bool true)) { s with heap := h', toks := tk' }) :
    wpAny (model prog w) (ktrTop dp un gd cn scope L a ccd (cellsFrom (L + 1) scope.names []) outer) (execs rest (envX cn scope L a ccd (cellsFrom (L + 1) scope.names []))) Q E s := by
  subst hr
  exact rest_ok prog w p loose mean mg mb dp un gd cn a ccd outer A₀ base h₀ L m₁ s Q E oc od osl name qual params body scope dV kV doc pm an cdv ct ho H D2 ln wk nl ad nz o8 v0 v1 v2 v3 v4 v5 v6 v7 t0 t1 t2 t3 t4 t5 t6 t7 B X T hdp hun hwk F N W d8 hE ret
end
local macro_rules | `(tactic| walk_at "no such key 46") => stopOut
local macro_rules | `(tactic| walk_at "no such key 47") => stopOut
local macro_rules | `(tactic| walk_at "no such key 48") => stopOut
local macro_rules | `(tactic| walk_at "no such key 49") => stopOut
local macro_rules | `(tactic| walk_at "no such key 50") => stopOut
local macro_rules | `(tactic| walk_at "no such key 51") => stopOut
local macro_rules | `(tactic| walk_at "no such key 52") => stopOut
section
theorem body_holds.tw12870642173359904210 : True := trivial
theorem body_holds.tw17498977257083486395 : True := trivial
theorem body_holds.tw11054388609475532714 : True := trivial
theorem body_holds.tw6891908105943245578 : True := trivial
theorem body_holds.tw6511426289822510916 : True := trivial
theorem body_holds.tw2865588474117510035 : True := trivial
theorem body_holds.tw3919961701367155229 : True := trivial
theorem body_holds.tw10964926947097441938 : True := trivial
theorem body_holds.tw13719909508832867024 : True := trivial
theorem body_holds.tw2694134269627621979 : True := trivial
theorem body_holds.tw10574030594558660293 : True := trivial
theorem body_holds.tw15215658942550237310 : True := trivial
theorem body_holds.tw15624009728939848356 : True := trivial
theorem body_holds.tw17063293163326388193 : True := trivial
theorem body_holds.tw15450999974443373850 : True := trivial
theorem body_holds.tw9124738925790429590 : True := trivial
theorem body_holds.tw13942293547364779887 : True := trivial
theorem body_holds.tw7227948236158780622 : True := trivial
theorem body_holds.tw12683384612760126423 : True := trivial
theorem body_holds.tw16102398308283919524 : True := trivial
theorem body_holds.tw11770762654694085978 : True := trivial
theorem body_holds.tw8224496074602581328 : True := trivial
theorem body_holds.tw3504809150502204075 : True := trivial
theorem body_holds.tw7185995156295181889 : True := trivial
theorem body_holds.tw6672691558252979538 : True := trivial
theorem body_holds.tw10448266077132682382 : True := trivial
theorem body_holds.tw7189295353403949737 : True := trivial
theorem body_holds.tw10507827992445357011 : True := trivial
theorem body_holds.tw17013070385569492578 : True := trivial
theorem body_holds.tw11167261033259832767 : True := trivial
theorem body_holds.tw4235768593469883486 : True := trivial
theorem body_holds.tw14618703415366770585 : True := trivial
theorem body_holds.tw16306250300468106465 : True := trivial
theorem body_holds.tw4585666386658083816 : True := trivial
theorem body_holds.tw10222277866289080933 : True := trivial
theorem body_holds.tw17456190998140003297 : True := trivial
theorem body_holds.tw11630359595251614484 : True := trivial
theorem body_holds.tw6620861768910835280 : True := trivial
theorem body_holds.tw10895358372917259315 : True := trivial
theorem body_holds.tw16759428181951305183 : True := trivial
theorem body_holds.tw436988359767349887 : True := trivial
theorem body_holds.tw6290589311984524637 : True := trivial
theorem body_holds.tw1098044456656428451 : True := trivial
theorem body_holds.tw223432249945201080 : True := trivial
theorem body_holds.tw8982021264667442369 : True := trivial
theorem body_holds.tw6922806268817440567 : True := trivial
theorem body_holds.tw11242289074776270228 : True := trivial
theorem body_holds.tw12613869634789915301 : True := trivial
theorem body_holds.tw11871527971183420582 : True := trivial
theorem body_holds.tw10885767048571626647 : True := trivial
theorem body_holds.tw10820407858625143466 : True := trivial
theorem body_holds.tw1429548940846076944 : True := trivial
theorem body_holds.tw2482647838077027303 : True := trivial
theorem body_holds.tw5227718050731154287 : True := trivial
theorem body_holds.tw3034010921545987197 : True := trivial
theorem body_holds.tw2216288607043057456 : True := trivial
theorem body_holds.tw7869225992692588397 : True := trivial
theorem body_holds.tw2749285703952917683 : True := trivial
theorem body_holds.tw2763190329571927555 : True := trivial
theorem body_holds.tw17379725426296317164 : True := trivial
theorem body_holds.tw9775633159350338397 : True := trivial
theorem body_holds.tw5799051504447738895 : True := trivial
theorem body_holds.tw5627288775224399379 : True := trivial
theorem body_holds.tw18210231815762194504 : True := trivial
theorem body_holds.tw4037110096888699438 : True := trivial
theorem body_holds.tw5691881765026144858 : True := trivial
theorem body_holds.tw17677060150580760398 : True := trivial
theorem body_holds.tw13369299969274045021 : True := trivial
theorem body_holds.tw12545920132835802576 : True := trivial
theorem body_holds.tw13326006138474774561 : True := trivial
theorem body_holds.tw8807903275903182592 : True := trivial
theorem body_holds.tw4073993497562806892 : True := trivial
theorem body_holds.tw5659499711313207594 : True := trivial
theorem body_holds.tw18319032407518387159 : True := trivial
theorem body_holds.tw7339637599021293862 : True := trivial
theorem body_holds.tw13820974126595741303 : True := trivial
theorem body_holds.tw11123950257219451723 : True := trivial
theorem body_holds.tw8015951701446863268 : True := trivial
theorem body_holds.tw3024150940039061902 : True := trivial
theorem body_holds.tw11100868389999764791 : True := trivial
theorem body_holds.tw4209470023375675318 : True := trivial
theorem body_holds.tw5058126736214363523 : True := trivial
theorem body_holds.tw9713992996707286690 : True := trivial
theorem body_holds.tw14697976081098452147 : True := trivial
theorem body_holds.tw4485831519120374271 : True := trivial
theorem body_holds.tw2924823576322580637 : True := trivial
theorem body_holds.tw7164523265465987639 : True := trivial
theorem body_holds.tw243163568868997518 : True := trivial
theorem body_holds.tw6674675757997997201 : True := trivial
theorem body_holds.tw6887785544351230639 : True := trivial
theorem body_holds.tw3104426916054075100 : True := trivial
theorem body_holds.tw13732249063903358070 : True := trivial
theorem body_holds.tw24635964099278892 : True := trivial
theorem body_holds.tw17112229775205953655 : True := trivial
theorem body_holds.tw1544144767711575370 : True := trivial
theorem body_holds.tw538855261134643180 : True := trivial
theorem body_holds.tw1547000426326396070 : True := trivial
theorem body_holds.tw6321907874035980358 : True := trivial
theorem body_holds.tw11851306450902378933 : True := trivial
theorem body_holds.tw4597951743672563355 : True := trivial
theorem body_holds.tw629667490904458051 : True := trivial
theorem body_holds.tw10240604886227506938 : True := trivial
theorem body_holds.tw15238058158189995830 : True := trivial
theorem body_holds.tw9191900651508038380 : True := trivial
theorem body_holds.tw13385166794829053894 : True := trivial
theorem body_holds.tw4300629100906823260 : True := trivial
theorem body_holds.tw18317791386201843218 : True := trivial
theorem body_holds.tw1315320701359163687 : True := trivial
theorem body_holds.tw1804858674264490378 : True := trivial
theorem body_holds.tw9428891413406057167 : True := trivial
theorem body_holds.tw1752869598074858621 : True := trivial
theorem body_holds.tw15652807614000121331 : True := trivial
theorem body_holds.tw370110181575277834 : True := trivial
theorem body_holds.tw11238764499764411108 : True := trivial
theorem body_holds.tw16826033257247999564 : True := trivial
theorem body_holds.tw16061774314183271414 : True := trivial
theorem body_holds.tw7753658245249410275 : True := trivial
theorem body_holds.tw7656308060682555461 : True := trivial
theorem body_holds.tw3309655563152966529 : True := trivial
theorem body_holds.tw9258520676167564569 : True := trivial
theorem body_holds.tw1030501664219122315 : True := trivial
theorem body_holds.tw7779519527153954610 : True := trivial
theorem body_holds.tw10322823692481648625 : True := trivial
theorem body_holds.tw9412959689513460346 : True := trivial
theorem body_holds.tw15085727202740030333 : True := trivial
theorem body_holds.tw5561470011613982242 : True := trivial
theorem body_holds.tw10671749228957517662 : True := trivial
theorem body_holds.tw13551462424105558152 : True := trivial
theorem body_holds.tw7936420065147639560 : True := trivial
theorem body_holds.tw1349275208932859727 : True := trivial
theorem body_holds.tw2395156733729452334 : True := trivial
theorem body_holds.tw16931568743626435273 : True := trivial
theorem body_holds.tw14173652396453481105 : True := trivial
theorem body_holds.tw15297181252314513737 : True := trivial
theorem body_holds.tw2416161722070067674 : True := trivial
theorem body_holds.tw7081613179845293122 : True := trivial
theorem body_holds.tw7839620603773876747 : True := trivial
theorem body_holds.tw3460946082387687650 : True := trivial
theorem body_holds.tw2720698558646334027 : True := trivial
theorem body_holds.tw2832306526786068498 : True := trivial
theorem body_holds.tw18269595188885069632 : True := trivial
theorem body_holds.tw4226078250045488087 : True := trivial
theorem body_holds.tw4000432489877194284 : True := trivial
theorem body_holds.tw3827752727338378210 : True := trivial
theorem body_holds.tw2110920266907691984 : True := trivial
theorem body_holds.tw7564987928607111521 : True := trivial
theorem body_holds.tw13776903495772258896 : True := trivial
theorem body_holds.tw8281227238634047253 : True := trivial
theorem body_holds.tw9941203425270816002 : True := trivial
theorem body_holds.tw6755166167440091725 : True := trivial
theorem body_holds.tw12405225940329619285 : True := trivial
theorem body_holds.tw17874701006550611044 : True := trivial
theorem body_holds.tw15367554882478845171 : True := trivial
theorem body_holds.tw14364376869888764617 : True := trivial
theorem body_holds.tw14516494295753575477 : True := trivial
theorem body_holds.tw4159048327510615506 : True := trivial
theorem body_holds.tw15854355694690870892 : True := trivial
theorem body_holds.tw11003376028377569029 : True := trivial
theorem body_holds.tw5744890370182027663 : True := trivial
theorem body_holds.tw10112234671736842709 : True := trivial
theorem body_holds.tw4927336170681844745 : True := trivial
theorem body_holds.tw8143632004028827824 : True := trivial
theorem body_holds.tw7471744676969513696 : True := trivial
theorem body_holds.tw13945241619095910091 : True := trivial
theorem body_holds.tw12498523969193583001 : True := trivial
theorem body_holds.tw15314888648412469619 : True := trivial
theorem body_holds.tw16766518931210525767 : True := trivial
theorem body_holds.tw5725654026525159273 : True := trivial
theorem body_holds.tw3690847942043665734 : True := trivial
theorem body_holds.tw10927561362766445662 : True := trivial
theorem body_holds.tw8505374510472156692 : True := trivial
theorem body_holds.tw13658047507657019172 : True := trivial
theorem body_holds.tw2846951095955962085 : True := trivial
theorem body_holds.tw12916994861936864291 : True := trivial
theorem body_holds.tw11130041052864832886 : True := trivial
theorem body_holds.tw16989481256472604435 : True := trivial
theorem body_holds.tw16928525929693232605 : True := trivial
theorem body_holds.tw7996022065155411118 : True := trivial
theorem body_holds.tw13718749699928054395 : True := trivial
theorem body_holds.tw8241723667269491830 : True := trivial
theorem body_holds.tw752053688603167933 : True := trivial
theorem body_holds.tw7162964971762878760 : True := trivial
theorem body_holds.tw4880375044709792200 : True := trivial
theorem body_holds.tw5517161440021627124 : True := trivial
theorem body_holds.tw14802300318502455428 : True := trivial
theorem body_holds.tw16430843394221944245 : True := trivial
theorem body_holds.tw5107773330712920418 : True := trivial
theorem body_holds.tw16716387763957020836 : True := trivial
theorem body_holds.tw15152156423969791685 : True := trivial
theorem body_holds.tw18345519789477421428 : True := trivial
theorem body_holds.tw15914351921569459455 : True := trivial
theorem body_holds.tw9422167476070927078 : True := trivial
theorem body_holds.tw16005117513786116996 : True := trivial
theorem body_holds.tw3857981353307143971 : True := trivial
theorem body_holds.tw10316763617942774801 : True := trivial
theorem body_holds.tw4486664394512114214 : True := trivial
theorem body_holds.tw4986099355109657829 : True := trivial
theorem body_holds.tw14148477561204771230 : True := trivial
theorem body_holds.tw10960344399318903421 : True := trivial
theorem body_holds.tw18429705298961568790 : True := trivial
theorem body_holds.tw880876065629367791 : True := trivial
theorem body_holds.tw10723454065296668097 : True := trivial
theorem body_holds.tw1125373494103944703 : True := trivial
theorem body_holds.tw3598323998606922115 : True := trivial
theorem body_holds.tw13572121909749822360 : True := trivial
theorem body_holds.tw3082391288372113434 : True := trivial
theorem body_holds.tw16333306703486667301 : True := trivial
theorem body_holds.tw588769173041734411 : True := trivial
theorem body_holds.tw12135268080477448955 : True := trivial
theorem body_holds.tw13054080344200135711 : True := trivial
theorem body_holds.tw3574189689711181557 : True := trivial
theorem body_holds.tw6872101470478617886 : True := trivial
theorem body_holds.tw9309181366827093980 : True := trivial
theorem body_holds.tw6473805997226128751 : True := trivial
theorem body_holds.tw1176403939953100942 : True := trivial
theorem body_holds.tw6152039692934203923 : True := trivial
theorem body_holds.tw4389205500321738522 : True := trivial
theorem body_holds.tw16476869247103969279 : True := trivial
theorem body_holds.tw14604111667207334543 : True := trivial
theorem body_holds.tw17961586390792231082 : True := trivial
theorem body_holds.tw13610459842138802882 : True := trivial
theorem body_holds.tw10740366940147690946 : True := trivial
theorem body_holds.tw16071117792632386668 : True := trivial
theorem body_holds.tw590307572972778282 : True := trivial
theorem body_holds.tw3199937522754972103 : True := trivial
theorem body_holds.tw6423944862074333858 : True := trivial
theorem body_holds.tw3298182618894021874 : True := trivial
theorem body_holds.tw17488673295189723152 : True := trivial
theorem body_holds.tw8639898404686576680 : True := trivial
theorem body_holds.tw10267122494306572002 : True := trivial
theorem body_holds.tw6240503479498972882 : True := trivial
theorem body_holds.tw4495339153533631878 : True := trivial
theorem body_holds.tw15421935803405257231 : True := trivial
theorem body_holds.tw5493783963640209005 : True := trivial
theorem body_holds.tw14515640179385159255 : True := trivial
theorem body_holds.tw342012014689565605 : True := trivial
theorem body_holds.tw7799893113377486738 : True := trivial
theorem body_holds.tw5815185408778443576 : True := trivial
theorem body_holds.tw6094765812258177277 : True := trivial
theorem body_holds.tw12161171200371077352 : True := trivial
theorem body_holds.tw2786622352667781715 : True := trivial
theorem body_holds.tw15411008861989487835 : True := trivial
theorem body_holds.tw17754065522246535126 : True := trivial
theorem body_holds.tw8479029901875983965 : True := trivial
theorem body_holds.tw5830915223532743097 : True := trivial
theorem body_holds.tw12652268621792647988 : True := trivial
theorem body_holds.tw13921705811619924215 : True := trivial
theorem body_holds.tw17793587890288506582 : True := trivial
theorem body_holds.tw14518121562732474460 : True := trivial
theorem body_holds.tw16037336246626314288 : True := trivial
theorem body_holds.tw11153376933127593228 : True := trivial
theorem body_holds.tw10968838073457632117 : True := trivial
theorem body_holds.tw7761111230213678285 : True := trivial
theorem body_holds.tw276837178919619472 : True := trivial
theorem body_holds.tw11105657316636680061 : True := trivial
theorem body_holds.tw1604371196809290490 : True := trivial
theorem body_holds.tw6851752101852433582 : True := trivial
theorem body_holds.tw129152315652212643 : True := trivial
theorem body_holds.tw415621494433605139 : True := trivial
theorem body_holds.tw15257149226223594494 : True := trivial
theorem body_holds.tw10526404171691456981 : True := trivial
theorem body_holds.tw5494239110796861102 : True := trivial
theorem body_holds.tw5235426511127336593 : True := trivial
theorem body_holds.tw16473114927152265977 : True := trivial
theorem body_holds.tw14660732239216040317 : True := trivial
theorem body_holds.tw17897727821914199163 : True := trivial
theorem body_holds.tw1570686066169373454 : True := trivial
theorem body_holds.tw16330911664070061305 : True := trivial
theorem body_holds.tw10551535968889847022 : True := trivial
theorem body_holds.tw16084179417957410665 : True := trivial
theorem body_holds.tw14668136019126288521 : True := trivial
theorem body_holds.tw8288360282190164714 : True := trivial
theorem body_holds.tw16332586423835264295 : True := trivial
theorem body_holds.tw2695982020511133023 : True := trivial
theorem body_holds.tw1880627704970422568 : True := trivial
theorem body_holds.tw2115781010571879745 : True := trivial
theorem body_holds.tw16827260544430677711 : True := trivial
theorem body_holds.tw13699914651191378604 : True := trivial
theorem body_holds.tw15863372992348253139 : True := trivial
theorem body_holds.tw5630367893626033779 : True := trivial
theorem body_holds.tw5799702371228467493 : True := trivial
theorem body_holds.tw4709978107430911588 : True := trivial
theorem body_holds.tw1014285714519390339 : True := trivial
theorem body_holds.tw5861904263540493081 : True := trivial
theorem body_holds.tw17235891748041233511 : True := trivial
theorem body_holds.tw6163403345989120261 : True := trivial
theorem body_holds.tw2028454949096994026 : True := trivial
theorem body_holds.tw14160767390681530807 : True := trivial
theorem body_holds.tw6610407147526129002 : True := trivial
theorem body_holds.tw3175725195289391668 : True := trivial
theorem body_holds.tw17545023655977742544 : True := trivial
theorem body_holds.tw1360653421365661710 : True := trivial
theorem body_holds.tw3780914337820960832 : True := trivial
theorem body_holds.tw17723701948703184467 : True := trivial
theorem body_holds.tw6970483853249105445 : True := trivial
theorem body_holds.tw4707706152634710891 : True := trivial
theorem body_holds.tw17397459257762927149 : True := trivial
theorem body_holds.tw6550595397680368242 : True := trivial
theorem body_holds.tw95394241538813509 : True := trivial
theorem body_holds.tw2617163914998431021 : True := trivial
theorem body_holds.tw13236673798534425499 : True := trivial
theorem body_holds.tw12041062515169756957 : True := trivial
theorem body_holds.tw9628144638475307264 : True := trivial
theorem body_holds.tw9023175226649982583 : True := trivial
theorem body_holds.tw17584200905372143875 : True := trivial
theorem body_holds.tw986968311224474189 : True := trivial
theorem body_holds.tw18184827438757800894 : True := trivial
theorem body_holds.tw12764268435336994109 : True := trivial
theorem body_holds.tw9064156955671104045 : True := trivial
theorem body_holds.tw7889752630075959400 : True := trivial
theorem body_holds.tw11690643303867574525 : True := trivial
theorem body_holds.tw15698466498641567150 : True := trivial
theorem body_holds.tw16545272421871673251 : True := trivial
theorem body_holds.tw14557059247241403883 : True := trivial
theorem body_holds.tw8492159687562564218 : True := trivial
theorem body_holds.tw9001541273452578871 : True := trivial
theorem body_holds.tw566571232352956042 : True := trivial
theorem body_holds.tw9324634090461454785 : True := trivial
theorem body_holds.tw8571158352008087188 : True := trivial
theorem body_holds.tw738126878380222875 : True := trivial
theorem body_holds.tw3851203097812242969 : True := trivial
theorem body_holds.tw976942707774169730 : True := trivial
theorem body_holds.tw9188497146615156963 : True := trivial
theorem body_holds.tw7071324980531143578 : True := trivial
theorem body_holds.tw14855835250317784052 : True := trivial
theorem body_holds.tw15525845155309896992 : True := trivial
theorem body_holds.tw11771773647632809098 : True := trivial
theorem body_holds.tw5636868870640379401 : True := trivial
theorem body_holds.tw2261879669755556408 : True := trivial
theorem body_holds.tw3785742805911900650 : True := trivial
theorem body_holds.tw11393627520948672301 : True := trivial
theorem body_holds.tw13555200207349245378 : True := trivial
theorem body_holds.tw3024395999061852462 : True := trivial
theorem body_holds.tw9795162068201416967 : True := trivial
theorem body_holds.tw16025909439722500966 : True := trivial
theorem body_holds.tw10804782272642288234 : True := trivial
theorem body_holds.tw7736777183298832871 : True := trivial
theorem body_holds.tw12611185144152781928 : True := trivial
theorem body_holds.tw14745364047103488231 : True := trivial
theorem body_holds.tw15215836104003299039 : True := trivial
theorem body_holds.tw15860532754185428550 : True := trivial
theorem body_holds.tw7850181083442223118 : True := trivial
theorem body_holds.tw16569319298808843042 : True := trivial
theorem body_holds.tw11319030309643086879 : True := trivial
theorem body_holds.tw16484723789384467297 : True := trivial
theorem body_holds.tw2124879433276345290 : True := trivial
theorem body_holds.tw2561117871641409378 : True := trivial
theorem body_holds.tw7905489065926088110 : True := trivial
theorem body_holds.tw10900823773331913489 : True := trivial
theorem body_holds.tw9686151940490101163 : True := trivial
theorem body_holds.tw5714426793997583105 : True := trivial
theorem body_holds.tw16027696625023739216 : True := trivial
theorem body_holds.tw11283778717983632611 : True := trivial
theorem body_holds.tw17104072485566399778 : True := trivial
theorem body_holds.tw11831199581953952249 : True := trivial
theorem body_holds.tw2298552303114914929 : True := trivial
theorem body_holds.tw3820850424297323888 : True := trivial
theorem body_holds.tw13116221646826400433 : True := trivial
theorem body_holds.tw17579180573993773537 : True := trivial
theorem body_holds.tw17150585592795846884 : True := trivial
theorem body_holds.tw8083885696876723632 : True := trivial
theorem body_holds.tw11043716113285899012 : True := trivial
theorem body_holds.tw5311750571126091157 : True := trivial
theorem body_holds.tw17309393505398372045 : True := trivial
theorem body_holds.tw1061669945805113355 : True := trivial
theorem body_holds.tw11915641474584982589 : True := trivial
theorem body_holds.tw18082394249010591945 : True := trivial
theorem body_holds.tw119780190437964424 : True := trivial
theorem body_holds.tw17090185302820972281 : True := trivial
theorem body_holds.tw75766373577069955 : True := trivial
theorem body_holds.tw3028513139581240902 : True := trivial
theorem body_holds.tw3889236062919371474 : True := trivial
theorem body_holds.tw1016664531489356166 : True := trivial
theorem body_holds.tw4610781159312871474 : True := trivial
theorem body_holds.tw15783549984083007693 : True := trivial
theorem body_holds.tw13539967120675459265 : True := trivial
theorem body_holds.tw10742048090839444386 : True := trivial
theorem body_holds.tw1248014209531179308 : True := trivial
theorem body_holds.tw11570222548156595407 : True := trivial
theorem body_holds.tw9424731159643963517 : True := trivial
theorem body_holds.tw11281183007318397799 : True := trivial
theorem body_holds.tw10380434563525301963 : True := trivial
theorem body_holds.tw5505099974064468212 : True := trivial
theorem body_holds.tw4515357246323462154 : True := trivial
theorem body_holds.tw15486967288488823217 : True := trivial
theorem body_holds.tw7684317204748647707 : True := trivial
theorem body_holds.tw14711356357449373918 : True := trivial
theorem body_holds.tw13068142282724152454 : True := trivial
theorem body_holds.tw3197521973980412860 : True := trivial
theorem body_holds.tw14118082960803416953 : True := trivial
theorem body_holds.tw17164294138583654319 : True := trivial
theorem body_holds.tw175150808655262111 : True := trivial
theorem body_holds.tw5932709215597757976 : True := trivial
theorem body_holds.tw874468280979616203 : True := trivial
theorem body_holds.tw13793254204183294001 : True := trivial
theorem body_holds.tw11960932508524098808 : True := trivial
theorem body_holds.tw10734420919105730311 : True := trivial
theorem body_holds.tw4168847636432661096 : True := trivial
theorem body_holds.tw11521850178131095384 : True := trivial
theorem body_holds.tw1467592470220580902 : True := trivial
theorem body_holds.tw3415587808187369053 : True := trivial
theorem body_holds.tw3637674956487954658 : True := trivial
theorem body_holds.tw7374988546556716076 : True := trivial
theorem body_holds.tw9821625290830911966 : True := trivial
theorem body_holds.tw7533570715909771703 : True := trivial
theorem body_holds.tw2448461009178321151 : True := trivial
theorem body_holds.tw16985644065309731261 : True := trivial
theorem body_holds.tw14208692052681717480 : True := trivial
theorem body_holds.tw178951873047082508 : True := trivial
theorem body_holds.tw13058538979359030442 : True := trivial
theorem body_holds.tw4690424283576248110 : True := trivial
theorem body_holds.tw8614935131469979992 : True := trivial
theorem body_holds.tw7879240757897067548 : True := trivial
theorem body_holds.tw4108711844024497959 : True := trivial
theorem body_holds.tw2914790561020604748 : True := trivial
theorem body_holds.tw10382251649304446096 : True := trivial
theorem body_holds.tw4926584626876982189 : True := trivial
theorem body_holds.tw15481639297315067368 : True := trivial
theorem body_holds.tw14493602727267225950 : True := trivial
theorem body_holds.tw775889628802391789 : True := trivial
theorem body_holds.tw4744434029177701186 : True := trivial
theorem body_holds.tw4993864337780889271 : True := trivial
theorem body_holds.tw1171758202457673114 : True := trivial
theorem body_holds.tw8928907597420310122 : True := trivial
theorem body_holds.tw14336618127975021653 : True := trivial
theorem body_holds.tw16971297427892162729 : True := trivial
theorem body_holds.tw2493790085778409024 : True := trivial
theorem body_holds.tw15514886413247611117 : True := trivial
theorem body_holds.tw1343609978997280472 : True := trivial
theorem body_holds.tw10347406257545234557 : True := trivial
theorem body_holds.tw7929473942260708976 : True := trivial
theorem body_holds.tw13275799831731609921 : True := trivial
theorem body_holds.tw6259495983009546996 : True := trivial
theorem body_holds.tw13949580886826612022 : True := trivial
theorem body_holds.tw12169217184872478518 : True := trivial
theorem body_holds.tw10427494305268916765 : True := trivial
theorem body_holds.tw3585374961089855945 : True := trivial
theorem body_holds.tw12653334506570400830 : True := trivial
theorem body_holds.tw764525782184083054 : True := trivial
theorem body_holds.tw7744626595780793573 : True := trivial
theorem body_holds.tw3316987727178852765 : True := trivial
theorem body_holds.tw15224541061881395344 : True := trivial
theorem body_holds.tw9526892139288132427 : True := trivial
theorem body_holds.tw9878635472585171708 : True := trivial
theorem body_holds.tw13530564811303662691 : True := trivial
theorem body_holds.tw10250911269348409453 : True := trivial
theorem body_holds.tw1596644244163069419 : True := trivial
theorem body_holds.tw13541998899313442832 : True := trivial
theorem body_holds.tw8008609307902716282 : True := trivial
theorem body_holds.tw7025220482304958269 : True := trivial
theorem body_holds.tw14569296990972966502 : True := trivial
theorem body_holds.tw5098251032842243715 : True := trivial
theorem body_holds.tw7780274679590119236 : True := trivial
theorem body_holds.tw719523001735208719 : True := trivial
theorem body_holds.tw1204593923754396478 : True := trivial
theorem body_holds.tw5867379794763149464 : True := trivial
theorem body_holds.tw2624871442954804353 : True := trivial
theorem body_holds.tw10686178378383347585 : True := trivial
theorem body_holds.tw12485051675433083377 : True := trivial
theorem body_holds.tw6320125506367450511 : True := trivial
theorem body_holds.tw16372558739908072851 : True := trivial
theorem body_holds.tw220099416027826669 : True := trivial
theorem body_holds.tw16690435663982806267 : True := trivial
theorem body_holds.tw1393038156613069039 : True := trivial
theorem body_holds.tw15226894218474290305 : True := trivial
theorem body_holds.tw11564506349820310543 : True := trivial
theorem body_holds.tw15712235467778472462 : True := trivial
theorem body_holds.tw13238429009318654233 : True := trivial
theorem body_holds.tw10596392173095908326 : True := trivial
theorem body_holds.tw6800060431589601058 : True := trivial
theorem body_holds.tw14311003819262490717 : True := trivial
theorem body_holds.tw3985055586866917864 : True := trivial
theorem body_holds.tw2306504067679517041 : True := trivial
theorem body_holds.tw6606750837056337855 : True := trivial
theorem body_holds.tw10007861070231052269 : True := trivial
theorem body_holds.tw2447384488462692535 : True := trivial
theorem body_holds.tw9444085389484588312 : True := trivial
theorem body_holds.tw9722393324149776919 : True := trivial
theorem body_holds.tw3817776483947717717 : True := trivial
theorem body_holds.tw17546772690629862368 : True := trivial
theorem body_holds.tw11352987364433507580 : True := trivial
theorem body_holds.tw8709881403855550302 : True := trivial
theorem body_holds.tw16509216397432924395 : True := trivial
theorem body_holds.tw5484643843344352480 : True := trivial
theorem body_holds.tw16423811120004787390 : True := trivial
theorem body_holds.tw13756027569523829224 : True := trivial
theorem body_holds.tw10125936792746750356 : True := trivial
theorem body_holds.tw17587098471882830363 : True := trivial
theorem body_holds.tw4426195973973675797 : True := trivial
theorem body_holds.tw14873526792537060667 : True := trivial
theorem body_holds.tw3157070070528353319 : True := trivial
theorem body_holds.tw586140560940217659 : True := trivial
theorem body_holds.tw15457956582704112508 : True := trivial
theorem body_holds.tw9084577706394473763 : True := trivial
theorem body_holds.tw7471084002086640911 : True := trivial
theorem body_holds.tw15548157994865594664 : True := trivial
theorem body_holds.tw15040587558640427892 : True := trivial
theorem body_holds.tw3892553772537123893 : True := trivial
theorem body_holds.tw7708847835812707678 : True := trivial
theorem body_holds.tw2428368472614877953 : True := trivial
theorem body_holds.tw8138804051042476785 : True := trivial
theorem body_holds.tw17318691787047783849 : True := trivial
theorem body_holds.tw9275279857846123332 : True := trivial
theorem body_holds.tw7598779868187469825 : True := trivial
theorem body_holds.tw4952273223599708730 : True := trivial
theorem body_holds.tw16899254923412552847 : True := trivial
theorem body_holds.tw5927986488453643548 : True := trivial
theorem body_holds.tw10244988301887149680 : True := trivial
theorem body_holds.tw13680055911298290631 : True := trivial
theorem body_holds.tw13137722250663297978 : True := trivial
theorem body_holds.tw4138870897362155442 : True := trivial
theorem body_holds.tw10775617874506395083 : True := trivial
theorem body_holds.tw15170497660505347266 : True := trivial
theorem body_holds.tw12137074621790541403 : True := trivial
theorem body_holds.tw8956365338520410485 : True := trivial
theorem body_holds.tw6955090646193004000 : True := trivial
theorem body_holds.tw8440432673620098270 : True := trivial
theorem body_holds.tw12909896538793621328 : True := trivial
theorem body_holds.tw5808191677579565967 : True := trivial
theorem body_holds.tw10021389734721049782 : True := trivial
theorem body_holds.tw16851538514654393498 : True := trivial
theorem body_holds.tw16271821203866990944 : True := trivial
theorem body_holds.tw14522331376922877125 : True := trivial
theorem body_holds.tw17810294008117119943 : True := trivial
theorem body_holds.tw15484297785399937769 : True := trivial
theorem body_holds.tw8045895109809661563 : True := trivial
theorem body_holds.tw17327385741187356943 : True := trivial
theorem body_holds.tw15121667974344862295 : True := trivial
theorem body_holds.tw13172708237704473626 : True := trivial
theorem body_holds.tw10133250061779095042 : True := trivial
theorem body_holds.tw1406255862326517359 : True := trivial
theorem body_holds.tw10904858394032218681 : True := trivial
theorem body_holds.tw12649659301412322966 : True := trivial
theorem body_holds.tw10672101353685601424 : True := trivial
theorem body_holds.tw4906103776089998459 : True := trivial
theorem body_holds.tw11463001313232142722 : True := trivial
theorem body_holds.tw5622978186183462216 : True := trivial
theorem body_holds.tw17389225138957929534 : True := trivial
theorem body_holds.tw16137434657027977125 : True := trivial
theorem body_holds.tw14866542456220744662 : True := trivial
theorem body_holds.tw16308795915153208313 : True := trivial
theorem body_holds.tw3204005914628771000 : True := trivial
theorem body_holds.tw16435922041582070304 : True := trivial
theorem body_holds.tw5747985713406403433 : True := trivial
theorem body_holds.tw13753916328209362984 : True := trivial
theorem body_holds.tw9365452315527922712 : True := trivial
theorem body_holds.tw9910319847389704496 : True := trivial
theorem body_holds.tw3101219792097903263 : True := trivial
theorem body_holds.tw982996802919083417 : True := trivial
theorem body_holds.tw15529890253138628178 : True := trivial
theorem body_holds.tw5787388168008553907 : True := trivial
theorem body_holds.tw13957909792169585172 : True := trivial
theorem body_holds.tw10922556087491605279 : True := trivial
theorem body_holds.tw1678369613478956923 : True := trivial
theorem body_holds.tw4640070423605139075 : True := trivial
theorem body_holds.tw6399835634953163853 : True := trivial
theorem body_holds.tw6800583198256698900 : True := trivial
theorem body_holds.tw4057640229870101647 : True := trivial
theorem body_holds.tw13170274633395896839 : True := trivial
theorem body_holds.tw8739914106301915033 : True := trivial
theorem body_holds.tw6669204584687126984 : True := trivial
theorem body_holds.tw4451251209530157552 : True := trivial
theorem body_holds.tw18428692476596577952 : True := trivial
theorem body_holds.tw14331609646072212622 : True := trivial
theorem body_holds.tw9257448773262850219 : True := trivial
theorem body_holds.tw771108025741474413 : True := trivial
theorem body_holds.tw14965147716808471658 : True := trivial
theorem body_holds.tw6354087162483674460 : True := trivial
theorem body_holds.tw13237893898542801829 : True := trivial
theorem body_holds.tw6717097364575589584 : True := trivial
theorem body_holds.tw13218375689425852044 : True := trivial
theorem body_holds.tw12547779853259933315 : True := trivial
theorem body_holds.tw2742928977537842531 : True := trivial
theorem body_holds.tw1674467800796173173 : True := trivial
theorem body_holds.tw15954273313727222130 : True := trivial
theorem body_holds.tw11536382991041949895 : True := trivial
theorem body_holds.tw15885846385294312391 : True := trivial
theorem body_holds.tw11430279944471777978 : True := trivial
theorem body_holds.tw6703038877920573273 : True := trivial
theorem body_holds.tw5786691098100189306 : True := trivial
theorem body_holds.tw17532953041027754024 : True := trivial
theorem body_holds.tw6134090149736014189 : True := trivial
theorem body_holds.tw9514903061935873791 : True := trivial
theorem body_holds.tw18207826048731950752 : True := trivial
theorem body_holds.tw17334608223567927778 : True := trivial
theorem body_holds.tw18175207637197873577 : True := trivial
theorem body_holds.tw14860479628375148979 : True := trivial
theorem body_holds.tw1778866639206866877 : True := trivial
theorem body_holds.tw10697441243738225220 : True := trivial
theorem body_holds.tw17262484337342648933 : True := trivial
theorem body_holds.tw7586169669131463371 : True := trivial
theorem body_holds.tw15276866386369635805 : True := trivial
theorem body_holds.tw2060776806764126662 : True := trivial
theorem body_holds.tw3053053730850901738 : True := trivial
theorem body_holds.tw6166144184904528112 : True := trivial
theorem body_holds.tw13306579215487945584 : True := trivial
theorem body_holds.tw9393216639245997031 : True := trivial
theorem body_holds.tw11054524696310209987 : True := trivial
theorem body_holds.tw3151045783394423765 : True := trivial
theorem body_holds.tw17178192679415534234 : True := trivial
theorem body_holds.tw12856547871835539717 : True := trivial
theorem body_holds.tw13106196206721919008 : True := trivial
theorem body_holds.tw6122935348070998287 : True := trivial
theorem body_holds.tw13703370244313341119 : True := trivial
theorem body_holds.tw12183262324019008759 : True := trivial
theorem body_holds.tw357486453476387696 : True := trivial
end
section
local macro_rules | `(tactic| ktr_units) => `(tactic| ((have hcL9 := cLine_is); (try simp only [units_in1, units_deeper, units_under_make, Around.mark_units, units_caller] at *); (try dsimp only [ktrTop] at *); omega))
local macro_rules | `(tactic| walk_at "call ref") => stopCall "559"
local macro_rules | `(tactic| walk_at "call ref") => stopCall "610"
local macro_rules | `(tactic| walk_at "subscriptTail") => stopOut
local macro_rules | `(tactic| walk_at "setItem ref str") => stopOut
local macro_rules | `(tactic| walk_at "storeName") => stopAt [gStore "line"]
local macro_rules | `(tactic| walk_at "call builtin:len") => stopMark "7"
local macro_rules | `(tactic| walk_at "subscriptTail Name Name ref int") => stopMark "7"
local macro_rules | `(tactic| walk_at "execs cons") => stopMark "9"
set_option Elab.async true in
theorem body_holds : PySem.Challenge.rw_pq0853_01.Holds := by
  w_on
  o_law
  o_head (kHook hd.heap_1 (asOf @hd) (asOk @hd))
  (case hw => w_witness2)
  w_strict (
    k_go0
    (all_goals try k_fold)
    k_steps
    unfold Stop
    with_reducible rename IsRange _ _ _ _ _ _ _ _ => hR
    with_reducible rename Fr _ _ _ _ => FR
    with_reducible rename News _ _ _ _ => NR
    refine LCg.CompSrc.range (n := 8) (by rfl) FR NR hR (by decide) (by decide) (by rw [sizeLine_eq]; decide) ?_
    intro g
    refine comp_ints8 trivial ?_ ?_
    · intro i v q1 C oC q3 m₂ h tk E' hi hP hC hx F4 N4
      obtain ⟨tv, rfl⟩ := hP
      have mk7 : Mark 7 := ⟨⟩
      with_reducible rename IntsAre _ _ => hIs
      have hIl := IntsAre.length hIs
      rename (List.take 63 _).length = _ => hCl
      simp only [List.cons_append, List.nil_append] at N4
      k_steps
      unfold Stop
      with_reducible rename News _ _ _ _ => N5
      refine' item_ints (News.isList N5 (by k_mem)) ?q1 ?q2 ?q3 ?q4 ?_ ?q5
      case q1 => repeat (first | exact ints_lit | refine ints_cons ?_)
      case q2 => omega
      case q3 => simp only [List.length_cons, List.length_nil]; omega
      case q4 => exact Nat.le_of_ble_eq_true rfl
      case q5 => with_unfolding_all rfl
      intro va ta
      k_steps
      unfold Stop
      with_reducible rename News _ _ _ _ => N6
      refine call_len_list (News.isList N6 (by k_mem)) ?_ ?_
      · rw [List.size_toArray]; omega
      k_steps
      · unfold Stop
        with_reducible rename News _ _ _ _ => N7
        rename _ < _ => hk
        rw [List.size_toArray] at hk
        refine' item_ints (News.isList N7 (by k_mem)) ?q1 ?q2 ?q3 ?q4 ?_ ?q5
        case q1 => exact ints_all hIs
        case q2 => omega
        case q3 => exact hk
        case q4 => omega
        case q5 => with_unfolding_all rfl
        intro vb tb
        k_steps
        exact ElEnd.mk (by assumption) N7 ⟨_, _, rfl⟩
      · exact ElEnd.mk (by assumption) N6 ⟨_, _, rfl⟩
    · intro v0 t0 v1 t1 v2 t2 v3 t3 v4 t4 v5 t5 v6 t6 v7 t7
      unfold LCg.FinA
      intro D2 h2 tk2 F2 N2 off2
      simp only [List.cons_append, List.nil_append] at N2
      k_steps
      unfold Stop
      with_reducible rename News _ _ _ _ => NH
      refine' Ct.use (host_ct _ _) ?kB ?kF ?kX ?kN ?kT ?kK ?kR ?kd ?ku ?_
      case kB => k_asm
      case kF => k_asm
      case kX => k_asm
      case kN => exact NH
      case kT => k_asm
      case kK => first | exact rfl | assumption
      case kR => exact .mk
      case kd => ktr_room
      case ku => ktr_units
      intro r9 tl9 h9 tk9 F9 N9 P9
      obtain ⟨H, dH, esH, nH, T0, oT, C, oC, e9, e9', g1, g2, g3, g4, g5, g6, g7, n1, n2, n3, n4, n5, offN⟩ := P9
      subst e9
      subst e9'
      simp only [List.cons_append, List.nil_append] at N9
      (try dsimp only)
      k_steps
      unfold Stop
      with_reducible rename Fr _ _ _ _ => F8
      with_reducible rename News _ _ _ _ => N8
      refine set_item_off F8 N8 (by k_mem) g4 ?_ (by rw [sizeLine_eq]; exact Nat.le_of_ble_eq_true rfl)
      intro h5 oT' F5 N5 hT'
      have N4 := host_set N5 offN n3 n4 n5
      have hTK : oT'.IsDictOf (strKind _ _) toolKvs := hT'
      clear N5
      k_steps
      unfold Stop
      with_reducible rename News _ _ _ _ => NL
      refine' CtM.use (law_line_ct _ _) ?kB ?kF ?kX ?kN ?kT ?kK ?kR ?kd ?ku ?_
      case kB => k_asm
      case kF => k_asm
      case kX => k_asm
      case kN => exact NL
      case kT => k_asm
      case kK => first | exact rfl | assumption
      case kR => exact LineRel.mk H T0 C _ _ ⟨dH, esH, nH, oT', oC, by k_mem, by k_mem, g1, g2, g3, by k_mem, hTK, g5, by k_mem, g6, g7, n1, n2, n3⟩
      case kd => ktr_room
      case ku => ktr_units
      intro r9 nx h9 tk9 F9 N9 P9
      obtain ⟨wk, ad, ln, nl, e9, hwk, hKp, hW, hl⟩ := P9
      subst e9
      (try dsimp only)
      k_steps
      unfold Stop
      have mk9 : Mark 9 := ⟨⟩
      refine' store_line (n := nl) F9 N9 ?kc ?kca ?kd hW hl ?kD ?_
      case kc => rfl
      case kca => exact hKp _ (by k_mem) (by exact (offN _ (by k_mem)).2)
      case kd => assumption
      case kD => exact hKp _ (by k_mem) (offN _ (by k_mem)).2
      intro h8 o8 nz F8 N8 W8 d8
      k_steps
      unfold Stop
      refine' rest_ok2 _ _ _ _ _ _ _ _ _ _ _ _ _ _ _ _ _ _ _ _ _ _ _ _ _ _ _ _ _ _ _ _ _ _ _ _ _ ?qho _ ?qhr H D2 ln wk nl ad nz o8 v0 v1 v2 v3 v4 v5 v6 v7 t0 t1 t2 t3 t4 t5 t6 t7 ?qB ?qX ?qT ?qhdp ?qhun hwk ?qF ?qN W8 d8 ?qhE ?qret
      case qF => exact F8
      case qN => exact N8
      case qho =>
        rename World => ww
        have z := (show (hd.heap_1 ww.params).lookup 644 = some _ from by k_is)
        exact z
      case qhr => rfl
      case qB => k_asm
      case qX => k_asm
      case qT => k_asm
      case qhdp => ktr_room
      case qhun => ktr_units
      case qhE => passes_own
      case qret =>
        intro h' tk' m' FE
        k_steps
        first | wrow_close | (k_end; wrow_close))
end
end Mine
theorem PySem.Challenge.cw_pq0853_01_holds : PySem.Challenge.rw_pq0853_01.Holds :=
  Mine.body_holds
