import PyProof.Rows.All
import Wide.All
import OpenK.AllK
import Wide.FinOn
import KE.KNest
import HandS.ForMost
import HandS.Deep
import HandS.TupAny
import HandS.Style
import HandS.IsInst
import HandS.Defaults
import HandS.AnyAll
import HandS.GenOver
import HandS.Evl
import HandS.Property
import HandS.HeadHook4
import HandS.Lambda
import HandS.ExcIs
import KE.KStateDown
import Lean
import PyProof.ExcBaseAll.ValueError
import HandS.Head0
import HandS.Head1
import HandS.Head2
import HandS.HeadWalk
import KE.GoesEnum
import HandS.Exc
import HandS.ExcOwn
import HandS.Small
import HandS.More
import PySem.Challenge.RW_onelife_k35_whole_benches
set_option Elab.async false
set_option linter.all false
set_option maxRecDepth 100000
set_option maxHeartbeats 2000000
namespace Wb
open PySem PySem.Spec PyProof.Rows L2
def top (i : Nat) : Stmt := PySem.Challenge.pw_onelife_k35_whole_benches.main.body.getD i (.Pass ⟨0, 0, 0, 0⟩)
/-! ### the head's facts -/
def dgD (x : Str) (i : Nat) (dfl : List He.Dv) : He.DefD := ⟨(x, none), x, x, defArgs (top i), defBody (top i), defScope (top i), dfl, []⟩
def dmD (C m q : Str) (st : Stmt) (dfl : List He.Dv) : He.DefD := ⟨(C, some m), m, q, defArgs st, defBody st, defScope st, dfl, []⟩
def faL : List He.Fa := [.free "len", .free "range", .free "tuple", .free "isinstance", .free "int", .free "bool", .free "str", .free "list", .free "any", .free "all", .free "min", .free "enumerate", .int "MOST_STATES" 40, .int "MOST_OPTIONS" 6, .int "MOST_LETTERS" 8, .int "MOST_MARKS" 4, .str "LETTERS" "abcdefghijklmnopqrstuvwxyz", .glo "is_number", .glo "is_word", .glo "is_option", .glo "need_machine", .glo "way_of", .glo "state_behind", .glo "word_of", .glo "need_marks", .glo "is_row", .glo "need_table", .glo "need_house", .glo "row_of", .glo "told_by", .glo "begins", .glo "along", .glo "is_same_note", .glo "need_manner", .glo "harm_in", .glo "_law_taken", .glo "_law_pick", .glo "_law_machine", .glo "_law_row", .glo "_law_every", .glo "_law_table", .glo "_law_small", .glo "_law_world", .glo "_law_bad_world", .glo "_law_spell", .glo "_law_along", .glo "_law_two", .glo "_law_bad_fits", .glo "_law_bad_harm", .glo "_law_alike", .glo "_law_stands", .glo "_law_state_behind", .glo "_law_bad_can", .glo "_law_told", .glo "_law_done", .glo "_law_bad_say", .glo "_law_bad_come", .glo "_law_bad_step", .glo "law", .glo "World", .glo "Bench", .glo "LifeError", .glo "BadStep", .glo "BIRTH", .glo "OFF", .glo "MUTE", .glo "MANNERS", .cls "World", .mkr "World", .cls "Bench", .mkr "Bench", .noat "World" "machine", .noat "World" "table", .noat "World" "manner", .noat "World" "reading", .noat "World" "notes", .noat "World" "standing", .noat "World" "said", .noat "World" "speakers", .noat "Bench" "_world", .noat "Bench" "_steps", .meth "World" "fits", .meth "World" "say", .meth "World" "seal", .meth "World" "come_to", .meth "World" "boot", .meth "World" "ask", .meth "World" "turn", .meth "World" "seal_late", .meth "World" "cut", .meth "World" "do", .meth "World" "is_dead", .meth "World" "pair", .meth "Bench" "_do", .meth "Bench" "boot", .meth "Bench" "ask", .meth "Bench" "turn", .meth "Bench" "cut", .meth "Bench" "seal", .meth "Bench" "fitting", .meth "Bench" "harm", .exc "BadStep", .exm "BadStep" "LifeError" true]
def fnL : List He.DefD := [dgD "is_number" 13 [], dgD "is_word" 14 [], dgD "is_option" 15 [], dgD "need_machine" 16 [], dgD "way_of" 17 [], dgD "state_behind" 18 [], dgD "word_of" 19 [], dgD "need_marks" 23 [], dgD "is_row" 24 [.int 8], dgD "need_table" 25 [], dgD "need_house" 26 [], dgD "row_of" 27 [], dgD "told_by" 28 [], dgD "begins" 29 [], dgD "along" 30 [], dgD "is_same_note" 36 [], dgD "need_manner" 39 [], dgD "harm_in" 40 [], dgD "_law_taken" 44 [], dgD "_law_pick" 45 [], dgD "_law_machine" 46 [], dgD "_law_row" 47 [], dgD "_law_every" 48 [], dgD "_law_table" 49 [], dgD "_law_small" 50 [], dgD "_law_world" 51 [], dgD "_law_bad_world" 52 [], dgD "_law_spell" 53 [], dgD "_law_along" 54 [], dgD "_law_two" 55 [], dgD "_law_bad_fits" 56 [], dgD "_law_bad_harm" 57 [], dgD "_law_alike" 58 [], dgD "_law_stands" 59 [], dgD "_law_state_behind" 60 [], dgD "_law_bad_can" 61 [], dgD "_law_told" 62 [], dgD "_law_done" 63 [], dgD "_law_bad_say" 64 [], dgD "_law_bad_come" 65 [], dgD "_law_bad_step" 66 [], dgD "law" 67 [], dmD "World" "fits" "World.fits" (inClass (top 35) 2) [], dmD "World" "say" "World.say" (inClass (top 35) 3) [], dmD "World" "seal" "World.seal" (inClass (top 35) 4) [], dmD "World" "come_to" "World.come_to" (inClass (top 35) 5) [], dmD "World" "boot" "World.boot" (inClass (top 35) 6) [], dmD "World" "ask" "World.ask" (inClass (top 35) 7) [], dmD "World" "turn" "World.turn" (inClass (top 35) 8) [], dmD "World" "seal_late" "World.seal_late" (inClass (top 35) 9) [], dmD "World" "cut" "World.cut" (inClass (top 35) 10) [], dmD "World" "do" "World.do" (inClass (top 35) 11) [], dmD "World" "is_dead" "World.is_dead" (inClass (top 35) 12) [], dmD "World" "pair" "World.pair" (inClass (top 35) 13) [], dmD "World" "__init__" "World.__init__" (inClass (top 35) 0) [.str "sealed"], dmD "Bench" "_do" "Bench._do" (inClass (top 42) 1) [], dmD "Bench" "boot" "Bench.boot" (inClass (top 42) 2) [], dmD "Bench" "ask" "Bench.ask" (inClass (top 42) 3) [], dmD "Bench" "turn" "Bench.turn" (inClass (top 42) 4) [], dmD "Bench" "cut" "Bench.cut" (inClass (top 42) 5) [], dmD "Bench" "seal" "Bench.seal" (inClass (top 42) 6) [], dmD "Bench" "fitting" "Bench.fitting" (inClass (top 42) 7) [], dmD "Bench" "harm" "Bench.harm" (inClass (top 42) 13) [], dmD "Bench" "__init__" "Bench.__init__" (inClass (top 42) 0) [.str "sealed"]]
def tfG : List He.Defn := [("is_word", none), ("need_machine", none), ("is_row", none), ("need_table", none), ("is_same_note", none), ("World", some "boot"), ("World", some "is_dead")]
def tfL : List He.Defn := ("law", none) :: tfG
/-! the tuples at the top -/
def birE (K : PySem.W.Frag) : Addr := match (K.lookup (He.ga K "BIRTH")).bind (fun o => match o.data with | .seq its _ => its[2]? | _ => none) with
  | some (.ref a) => a
  | _ => 0
def nilT (K : PySem.W.Frag) (a : Addr) : Bool := match K.lookup a with
  | some o => decide (o.cls = .type "tuple") && (match o.data with
    | .seq its _ => its.isEmpty
    | _ => false)
  | none => false
theorem nilT_ok {K : PySem.W.Frag} {a : Addr} (h : nilT K a = true) (H : Hp) : SqT K H a [] := by
  unfold nilT at h
  cases e : K.lookup a with
  | none => rw [e] at h; cases h
  | some o =>
    obtain ⟨oc, od, dt, sl⟩ := o
    rw [e] at h
    obtain ⟨h1, h2⟩ := He.ba h
    cases dt with
    | seq its n =>
      have z := Array.isEmpty_iff.mp h2
      subst z
      exact .inr ⟨_, #[], n, e, of_decide_eq_true h1, rfl, Nat.zero_le _, .nil⟩
    | _ => cases h2
/-! the properties of a bench: their getters -/
def prL : List (Str × Str × Nat) := [("wheel", "Bench.wheel", 8), ("shelf", "Bench.shelf", 9), ("stand", "Bench.stand", 10), ("told", "Bench.told", 11), ("story", "Bench.story", 12)]
def prA (K : PySem.W.Frag) (x : Str) : Addr := He.ma K (He.ga K "Bench") x
def gtA (K : PySem.W.Frag) (x : Str) : Addr := match PySem.W.recIn K (prA K x) "property" with
  | some (.ref g :: _) => g
  | _ => 0
def gtF (K : PySem.W.Frag) (x : Str) : Option FuncData := (K.lookup (gtA K x)).bind fun o => match o.data with
  | .func fd => some fd
  | _ => none
def gtSee (K : PySem.W.Frag) (t : Str × Str × Nat) : He.FnW := (gtF K t.1).map fun fd => (fd.name, fd.qualname, fd.params, fd.body, fd.scope, fd.globals, fd.closure, fd.builtins)
def gtVal (t : Str × Str × Nat) : He.FnW := some (t.1, t.2.1, defArgs (inClass (top 42) t.2.2), .stmts (defBody (inClass (top 42) t.2.2)), defScope (inClass (top 42) t.2.2), mainGlobals, [], builtinsNs)
def gtOk (K : PySem.W.Frag) (t : Str × Str × Nat) : Bool := (PySem.W.keepIn K (.ref (gtA K t.1)) && match gtF K t.1 with
  | some fd => PySem.W.codeIn K fd.code t.2.1 && He.dflB K fd.defaults []
  | none => false) && ((decide (PySem.W.findIn K (.ref (He.ga K "Bench")) t.1 = some (some (.ref (prA K t.1)))) && decide (PySem.W.specialIn K (.ref (prA K t.1)) "__get__" = some (some (.builtin "property.__get__")))) && (decide (PySem.W.takesIn K (.ref (prA K t.1)) = some true) && match PySem.W.recIn K (prA K t.1) "property" with
  | some (.ref _ :: _) => true
  | _ => false))
/-! the errors -/
def errB (K : PySem.W.Frag) : Bool := let D := He.ga K "BadStep"
  ((decide (PySem.W.findIn K (.ref D) "__getattribute__" = some (some (.builtin "BaseException.__getattribute__"))) && decide (PySem.W.findIn K (.ref D) "__getattr__" = some none)) && (decide (PySem.W.subIn K (.ref D) (.type "BaseException") = some true) && PySem.W.hasDictIn K D)) &&
  ((decide (PySem.W.findIn K (.ref D) "__class__" = some (some (.builtin "object.__class__"))) && decide (PySem.W.specialIn K (.builtin "object.__class__") "__get__" = some (some (.builtin "getset_descriptor.__get__")))) && ((decide (PySem.W.takesIn K (.builtin "object.__class__") = some true) && decide (PySem.W.mroIn K D (.type "object") = some true)) && decide (PySem.W.kitOne K (.ref D) (.ref D) = some true)))
theorem errB_ok {K : PySem.W.Frag} (h : errB K = true) : ExcC K (He.ga K "BadStep") ∧ PySem.W.kitOne K (.ref (He.ga K "BadStep")) (.ref (He.ga K "BadStep")) = some true := by
  unfold errB at h
  simp only [Bool.and_eq_true, decide_eq_true_eq] at h
  obtain ⟨⟨⟨a1, a2⟩, a3, a4⟩, ⟨a5, a6⟩, ⟨a7, a8⟩, a9⟩ := h
  exact ⟨⟨a1, a2, a3, a4, a5, a6, a7, a8⟩, a9⟩
/-! the tables of the defs with generator expressions are not the law's -/
def gTab (K : PySem.W.Frag) : Addr → Prop := fun a => a ∈ tfG.map fun p => (He.cT K p).2
def lTab (K : PySem.W.Frag) : Addr := (He.cT K ("law", none)).2
def tabNe (K : PySem.W.Frag) : Bool := !decide (lTab K ∈ tfG.map fun p => (He.cT K p).2)
def exB (K : PySem.W.Frag) : Bool := ((He.tupB K "BIRTH" [.int 0, .non, .adr birE, .int 0] && nilT K (birE K)) && (He.tupB K "OFF" [.str "off"] && He.tupB K "MUTE" [.str "mute"])) && ((He.tupB K "MANNERS" [.str "sealed", .str "late", .str "early", .str "counted", .str "open"] && prL.all (gtOk K)) && (errB K && tabNe K))
/-! ### the Hook -/
/-- what the walk goes on to from an object: a def's code and defaults, a class's names, what a dict or a tuple holds, a property's getter -/
def nxW (o : Obj) : List Addr := match o.data with
  | .func fd => He.refV fd.code ++ He.refV fd.defaults
  | .cls cd => [cd.ns]
  | .dict es _ => es.toList.flatMap fun e => He.refV e.val
  | .seq its _ => its.toList.flatMap He.refV
  | .fields vs => if o.cls = .type "property" then vs.toList.flatMap He.refV else []
  | _ => []
def stepW (g : Addr → Option Obj) (as : List Addr) : List Addr := as.flatMap fun a => match g a with
  | some o => nxW o
  | none => []
def levW (g : Addr → Option Obj) : Nat → List Addr → List Addr
  | 0, as => as
  | n + 1, as => as ++ levW g n (stepW g as)
def asW (g : Addr → Option Obj) : List Addr := levW g 5 [mainGlobals]
abbrev AlW : Type := He.AlD × Bool × List He.FnW
def seeW (g : Addr → Option Obj) (K : PySem.W.Frag) : AlW := (He.obsD faL fnL K, exB K && He.tabsB g tfL K, prL.map (gtSee K))
def obsW (g : Addr → Option Obj) : AlW := seeW g (He.frT g (asW g))
def valW : AlW := (He.valD fnL, true, prL.map gtVal)
structure SaysW (h : Heap) (K : PySem.W.Frag) : Prop where
  d : He.SaysD faL fnL K
  more : exB K = true
  hd : ∀ p ∈ tfL, PySem.W.codeHdIn K (He.cT K p).1 (He.cT K p).2 = true
  out : ∀ p ∈ tfL, K.lookup (He.cT K p).2 = none
  empty : ∀ p ∈ tfL, h.get? (He.cT K p).2 = some { cls := .none, data := .fields #[] }
  gt : prL.map (gtSee K) = prL.map gtVal
theorem says_of {h : Heap} (e : obsW h.get? = valW) : SaysW h (He.frT h.get? (asW h.get?)) := by
  generalize hK : He.frT h.get? (asW h.get?) = K
  have e' : seeW h.get? K = valW := by rw [← hK]; exact e
  obtain ⟨m1, m2⟩ := He.ba (congrArg (fun z : AlW => z.2.1) e')
  have tb : ∀ p ∈ tfL, PySem.W.codeHdIn K (He.cT K p).1 (He.cT K p).2 = true ∧ ∃ o, h.get? (He.cT K p).2 = some o ∧ He.emptyTab o = true := by
    intro p hp
    obtain ⟨q1, q2⟩ := He.ba (List.all_eq_true.mp m2 p hp)
    refine ⟨q1, ?_⟩
    split at q2
    · rename_i o z
      exact ⟨o, z, q2⟩
    · cases q2
  refine ⟨congrArg (fun z : AlW => z.1) e', m1, fun p hp => (tb p hp).1, fun p hp => ?_, fun p hp => ?_, congrArg (fun z : AlW => z.2.2) e'⟩
  · obtain ⟨_, o, z1, z2⟩ := tb p hp
    rw [← hK] at z1 ⊢
    exact He.frT_none z1 z2
  · obtain ⟨_, o, z1, z2⟩ := tb p hp
    exact z1.trans (congrArg some (He.emptyTab_eq z2))
def hkW : PySem.W.Hook where
  α := AlW
  obs := fun s => obsW s.heap.get?
  val := fun _ => valW
  says := fun _ h => ∃ K : PySem.W.Frag, K.In h ∧ SaysW h K
  of := fun _ _ e => ⟨_, He.frT_in, says_of e⟩
  keeps := fun _ _ _ ⟨K, hK, c⟩ k => ⟨K, PySem.W.Frag.In.keeps hK k, ⟨c.d, c.more, c.hd, c.out, fun p hp => k _ _ (c.empty p hp), c.gt⟩⟩
theorem obsW_eq {g : Addr → Option Obj} {s : Shared} (h : ∀ a, g a = s.heap.get? a) : obsW g = hkW.obs s := congrArg obsW (funext h)

end Wb

namespace Wb
open PySem PySem.Spec PyProof.Rows L2
/-! ### the head, run by the kernel -/
abbrev rowL : PySem.W.OpenRow := PySem.W.OpenLaw.row PySem.Challenge.rw_onelife_k35_whole_benches
abbrev qvL : Program := PySem.W.view rowL.prog [67]
def names1 : List Str := ["_wall", "LifeError", "BadMachine", "BadMarks", "BadTable", "BadManner", "BadStep", "MOST_STATES", "MOST_OPTIONS", "MOST_LETTERS", "LETTERS", "is_number", "is_word", "is_option", "need_machine", "way_of", "state_behind", "word_of", "MOST_MARKS", "MOST_ROW", "need_marks", "is_row", "need_table", "need_house", "row_of", "told_by", "begins", "along", "BIRTH", "OFF", "MUTE"]
def names2 : List Str := ["World", "is_same_note", "MANNERS", "need_manner", "harm_in", "Bench", "_law_taken", "_law_pick", "_law_machine", "_law_row", "_law_every", "_law_table", "_law_small", "_law_world", "_law_bad_world", "_law_spell", "_law_along", "_law_two", "_law_bad_fits", "_law_bad_harm", "_law_alike", "_law_stands", "_law_state_behind", "_law_bad_can", "_law_told", "_law_done", "_law_bad_say", "_law_bad_come", "_law_bad_step"]
def names : List Str := names1 ++ names2
def obL (s : PySem.W.SharedT) : AlW := obsW (HandSHeadRun.getT s)
theorem obL_eq (s : PySem.W.SharedT) : obL s = hkW.obs s.abs := obsW_eq (HandSHeadRun.getT_eq s)
theorem runL (w : World) : HandSHeadRun.RunEq rowL qvL hkW obL 6000 names w := by
  intro os
  kernel_rfl
end Wb

/-! any, all of a generator expression whose element is any expression (calls within): the element runs in the generator's frame. -/
namespace Gx
open PySem PySem.Spec PyProof.Rows L2 GenW

theorem over_gen {A : Around} {elt : Expr} {gs : List Comprehension} {scope : Scope} {pos : Pos} {it acc : Value} {env : Env} : A.over (.compLoop (.GeneratorExp elt gs scope pos) 0 it acc env) [] = A.deeper env := by
  first
    | rfl
    | (obtain ⟨hd, d, fr, gs, u⟩ := A; simp [Around.over, Around.deeper, marksOver, frameCount, unitsOf, envsOf, guardsOf, pushEnvs, pushGuards, Code.envs, Code.env?, Code.isFrame, Code.guards, Code.isGuard, Code.weight, Code.frames, Code.isCreation, Code.isCaller, Code.cUnits])
theorem over_gen0 {A : Around} {elt : Expr} {gs : List Comprehension} {scope : Scope} {pos : Pos} {it acc : Value} {env : Env} : A.over (.compStart (.GeneratorExp elt gs scope pos) 0 it acc env) [] = A.deeper env := by
  first
    | rfl
    | (obtain ⟨hd, d, fr, gs, u⟩ := A; simp [Around.over, Around.deeper, marksOver, frameCount, unitsOf, envsOf, guardsOf, pushEnvs, pushGuards, Code.envs, Code.env?, Code.isFrame, Code.guards, Code.isGuard, Code.weight, Code.frames, Code.isCreation, Code.isCaller, Code.cUnits])

/-- the context of the element, in the generator's frame at C; s: the state ahead of the frame; g: the generator's object -/
def genCx (X : Cx) (s : Shared) (H : Hp) (scope : Scope) (C : Addr) (code : Value) (fp : List Addr) (pn : List (Addr × Obj)) : Cx where
  prog := X.prog
  w := X.w
  K := X.K
  mg := X.mg
  base := X.base
  A := X.A.in1.in1.deeper (genEnv scope (cloFrom X.env.cells scope.names []) C code builtinsNs X.env)
  N := X.N
  s_0 := s
  H_0 := H
  env := genEnv scope (cloFrom X.env.cells scope.names []) C code builtinsNs X.env
  outer := X.stack
  stack := genEnv scope (cloFrom X.env.cells scope.names []) C code builtinsNs X.env :: X.stack
  ex := fp
  fn := fun _ => false
  calm := true
  pn := pn
  xe := fun _ _ => False

section
variable {X : Cx} {pins : List (Addr × Obj)} {σ : L2.St} {H : Hp} {s : Shared}
/-- the generators' states change, nothing else -/
theorem inv_gens {g' : Array GenState} (I : Inv X pins σ H s) (hg : AllBare g') : Inv X pins σ H { s with gens := g' } :=
  ⟨I.ok, I.os, hg, I.base, I.loc, I.cell, I.free, I.freeC, I.pin, I.hok, I.len⟩
theorem inv_toks {t : Nat} (I : Inv X pins σ H s) : Inv X pins σ H { s with toks := t } :=
  ⟨I.ok, I.os, I.bare, I.base, I.loc, I.cell, I.free, I.freeC, I.pin, I.hok, I.len⟩

theorem gen_start {scope : Scope} {own : List (Str × Nat)} {fp : List Addr} {C g : Addr} {og : Obj} {code : Value} {h5 : Heap} {g5 : Array GenState} {tk : Nat} {m : Str → Option Value}
    (I : Inv X pins σ H s) (ok : BlkOk X.N X.env.scope scope own) (nc : ∀ y ∈ scope.names, y.2 ≠ .cell) (hN : X.N.Nodup) (hc : X.calm = true) (hfp : ∀ b ∈ fp, FpOk X pins H b ∧ b < s.heap.objs.size)
    (hC : C = s.heap.objs.size) (hgC : s.heap.objs.size < g) (kp : ∀ b o, s.heap.get? b = some o → h5.get? b = some o) (hns : h5.Ns C m) (hgo : h5.get? g = some og) (hcell : ∀ v, og.data ≠ .cell v) (hb : AllBare g5) :
    Inv (genCx X s H scope C code fp [(g, og)]) [] (wipe σ (own.map (·.2))) H { s with heap := h5, gens := g5, toks := tk } := by
  subst hC
  have hfree : ∀ y ∈ scope.names, y.2 = .free → ∃ c, X.env.cells.lookup y.1 = some c := fun y hy e => by
    rcases ok.free y hy e with k | k
    · exact I.ok.has _ (.inl k)
    · exact I.ok.has _ (.inr k)
  have cm : ∀ {y c}, (cloFrom X.env.cells scope.names []).lookup y = some c → X.env.cells.lookup y = some c ∧ c < s.heap.objs.size := fun {y c} e => by
    rcases cloFrom_mem (PySem.mem_of_lookup e) with hm | ⟨h1, h2⟩
    · cases hm
    · obtain ⟨c1, hc1⟩ := hfree _ h1 rfl
      have hc1 : X.env.cells.lookup y = some c1 := hc1
      have e2 : c = c1 := by
        rw [h2, hc1] <;> rfl
      subst e2
      obtain ⟨w, z⟩ := I.cell _ _ hc1
      exact ⟨hc1, z.lt⟩
  have look : ∀ {y}, scope.names.lookup y = some .free → ∃ c, (cloFrom X.env.cells scope.names []).lookup y = some c ∧ X.env.cells.lookup y = some c := fun {y} hl => by
    have hy : (y, NameKind.free) ∈ scope.names := PySem.mem_of_lookup hl
    obtain ⟨c, h⟩ := mem_lookup (cloFrom_has (cells := X.env.cells) (acc := []) hy)
    exact ⟨c, h, (cm h).1⟩
  have nstk : ∀ b, s.heap.objs.size ≤ b → b ∉ frs X.stack := fun f hf z => by
    rcases List.mem_cons.mp (I.stkSub _ z) with e | e
    · have h1 := I.lt
      rw [← e] at h1
      exact Nat.lt_irrefl _ (Nat.lt_of_lt_of_le h1 hf)
    · exact I.nofs hf e
  have okB : (genCx X s H scope s.heap.objs.size code fp [(g, og)]).Ok := by
    refine ⟨I.ok.mod, ok.kind, I.ok.glob, rfl, Nat.le_refl _, fun y z c e1 e2 => ?_, fun y hy => ?_, fun y c z e => (by cases (show false = true from z)), fun _ => I.ok.hd hc, Around.frames_deeper I.ok.frames, .inr ⟨rfl, rfl⟩, fun b hb => ⟨?_, fun y c e z => ?_⟩, I.bs, Nat.le_trans I.ok.bsz I.sz,
      fun b o e hb => ?_, fun b hb z => ?_, I.stack, I.stkFree⟩
    · exact I.ok.inj y z c (cm e1).1 (cm e2).1
    · have hy : scope.names.lookup y = some .cell ∨ scope.names.lookup y = some .free := hy
      rcases hy with hy | hy
      · exact absurd rfl (nc _ (PySem.mem_of_lookup hy))
      · obtain ⟨c, h, _⟩ := look hy
        exact ⟨c, h⟩
    · exact Nat.ne_of_lt (hfp b hb).2
    · exact (hfp b hb).1.2.2.2.2.1 y c (cm e).1 z
    · rcases (hfp b hb).1.2.2.2.1 with z | z
      · exact I.ok.noex b o e z
      · exact absurd (Nat.lt_of_lt_of_le (Heap.lt_size e) (Nat.le_trans I.ok.bsz z)) (Nat.lt_irrefl _)
    · rcases List.mem_cons.mp (I.stkSub b z) with z | z
      · exact (hfp b hb).1.2.1 z
      · exact (hfp b hb).1.2.2.1 z
  refine ⟨okB, rfl, hb, Un.kept kp, ⟨m, hns, fun i y av e1 e2 e3 => ?_⟩, fun y c e => ?_, I.hok.fresh (Nat.le_refl _), fun y c e => ?_, fun p hp => ?_, I.hok.kept kp, by rw [wipe_length]; exact I.len⟩
  · obtain ⟨e2, hne⟩ := wipe_some e2
    have hfr : scope.names.lookup y = some .free := by
      have e3 : Vis scope y := e3
      have no : ∀ k, scope.names.lookup y = some k → (k = .local ∨ k = .cell) → False := fun k e hh => by
        rcases ok.own _ (PySem.mem_of_lookup e) hh with e' | e'
        · obtain ⟨p, hp, hpy⟩ := List.mem_map.mp e'
          have e3 := ok.ix p hp
          have : p.1 = y := hpy
          rw [this] at e3
          exact hne (List.mem_map.mpr ⟨p, hp, nodup_ix hN e3 e1⟩)
        · exact e' (List.mem_of_getElem? e1)
      rcases e3 with k | k | k
      · exact (no _ k (.inl rfl)).elim
      · exact (no _ k (.inr rfl)).elim
      · exact k
    obtain ⟨m', hn, hl⟩ := I.loc
    have hvis : Vis X.env.scope y := (ok.free _ (PySem.mem_of_lookup hfr) rfl).elim (fun k => .inr (.inl k)) (fun k => .inr (.inr k))
    obtain ⟨w, r, q⟩ := hl i y av e1 e2 hvis
    obtain ⟨c, h1, h2⟩ := look hfr
    refine ⟨w, r, .inr ⟨.inr hfr, c, h1, ?_⟩⟩
    rcases q with ⟨k, _⟩ | ⟨_, c', e', z⟩
    · have k : X.env.scope.names.lookup y = some .local := k
      rcases ok.free _ (PySem.mem_of_lookup hfr) rfl with k' | k' <;> rw [show X.env.scope.names.lookup y = _ from k'] at k <;> cases k
    · rw [h2] at e'
      cases e'
      exact z.keeps kp
  · obtain ⟨w, z⟩ := I.cell y c (cm e).1
    exact ⟨w, z.keeps kp⟩
  · exact I.freeC y c (cm e).1
  · have e : p = (g, og) := by simpa [genCx] using hp
    subst e
    exact ⟨hgo, I.hok.fresh (Nat.le_of_lt hgC), Nat.ne_of_gt hgC, nstk _ (Nat.le_of_lt hgC), hcell⟩
end

/-! ### the generator's turns -/
section
variable {X : Cx} {sv : Bool} {τ : L2.St} {tn : Nat → Heap → Prop} {fp : List Addr} {W : Nat → Nat → Hp → Prop} {Qs Qe : Hp → Prop}
/-- ahead of turn i, at the measure m -/
def GW (X : Cx) (τ : L2.St) (tn : Nat → Heap → Prop) (fp : List Addr) (W : Nat → Nat → Hp → Prop) (i m : Nat) (s : Shared) : Prop := ∃ H, Inv X [] τ H s ∧ tn i s.heap ∧ (∀ b ∈ fp, H b = none) ∧ W i m H
/-- it is over, so that D holds -/
def GD (X : Cx) (D : Hp → Prop) (s : Shared) : Prop := ∃ H σ, Inv X [] σ H s ∧ D H
def GY (X : Cx) (sv : Bool) (τ : L2.St) (tn : Nat → Heap → Prop) (fp : List Addr) (W : Nat → Nat → Hp → Prop) (Qs : Hp → Prop) : Protocol := fun n _ v s kap =>
  (v = .bool sv ∧ GD X Qs s) ∨ (v = .bool (!sv) ∧ ∃ i m, m < n ∧ GW X τ tn fp W i m s ∧ ∀ s'', GW X τ tn fp W i m s'' → kap (.send .none) s'')
def GR (X : Cx) (Qe : Hp → Prop) : GenEnd := fun _ _ r s => r = .ok .next ∧ GD X Qe s
theorem GW.gens {i m : Nat} {s : Shared} {g' : Array GenState} (h : GW X τ tn fp W i m s) (hg : AllBare g') : GW X τ tn fp W i m { s with gens := g' } := by
  obtain ⟨H, I, r⟩ := h
  exact ⟨H, inv_gens I hg, r⟩
theorem GW.bare {i m : Nat} {s : Shared} (h : GW X τ tn fp W i m s) : AllBare s.gens := by
  obtain ⟨H, I, r⟩ := h
  exact I.bare
theorem GD.gens {D : Hp → Prop} {s : Shared} {g' : Array GenState} (h : GD X D s) (hg : AllBare g') : GD X D { s with gens := g' } := by
  obtain ⟨H, σ, I, r⟩ := h
  exact ⟨H, σ, inv_gens I hg, r⟩
theorem GD.bare {D : Hp → Prop} {s : Shared} (h : GD X D s) : AllBare s.gens := by
  obtain ⟨H, σ, I, r⟩ := h
  exact I.bare

/-- one turn, told by readings: at the slot j the item comes; te: the element's reading -/
def TurnOk (sv : Bool) (J : It) (j : Nat) (te : TE) (τ : L2.St) (W : Nat → Nat → Hp → Prop) (Qs Qe : Hp → Prop) : Prop := ∀ i m H, W i m H →
  (J.stop i H ∧ Qe H) ∨ (J.go i H ∧ ∃ Nx : Hp → Prop, (∀ H', Nx H' → ∃ m', m' < m ∧ W (i + 1) m' H') ∧ ∀ x H', J.yld i H x H' → te (τ.set j (some x)) H' fun y H2 => ∃ b, y = .bl b ∧ if b = sv then Qs H2 else Nx H2)

theorem seg_turns {A : Around} {elt iter : Expr} {x : Str} {px pos : Pos} {scope : Scope} {it : Addr} {J : It} {j : Nat} {te : TE} (hA : X.A = A.deeper X.env) (hxe : ∀ e s, X.xe e s → False) (hc : X.calm = true) (hex : X.ex = fp) (hpn : ∀ p ∈ X.pn, p.1 ∉ fp)
    (hN : X.N.Nodup) (hj : X.N[j]? = some x) (hx : X.env.scope.names.lookup x = some .local) (hco : X.env.scope.isCoroutine = false) (hτ : ∀ v, τ[j]? ≠ some (some v))
    (T : Turn X.prog X.w X.K (.Name x px) J fp it tn) (he : PE X elt te) (turn : TurnOk sv J j te τ W Qs Qe) :
    ∀ n i m s₀ s, m < n → GW X τ tn fp W i m s → Seg (model X.prog X.w) A (GR X Qe) (GY X sv τ tn fp W Qs) n s₀ (.compLoop (.GeneratorExp elt [⟨.Name x px, iter, [], 0⟩] scope pos) 0 (.ref it) .none X.env)
      ((model X.prog X.w).den (.compLoop (.GeneratorExp elt [⟨.Name x px, iter, [], 0⟩] scope pos) 0 (.ref it) .none X.env)) [] s := by
  intro n
  induction n with
  | zero => intro i m s₀ s hm _; exact absurd hm (Nat.not_lt_zero _)
  | succ n ih =>
    intro i m s₀ s hm gw
    obtain ⟨H, I, st, hn, w⟩ := gw
    have hov : A.over (.compLoop (.GeneratorExp elt [⟨.Name x px, iter, [], 0⟩] scope pos) 0 (.ref it) .none X.env) [] = X.A := over_gen.trans hA.symm
    have stat : ∀ {σ' : L2.St} {H' : Hp} {s' : Shared}, Inv X [] σ' H' s' → (∀ b ∈ fp, H' b = none) → ∀ b ∈ fp, FpOk X [] H' b := fun {σ' H' s'} I' hn b hb =>
      ⟨hn b hb, (I'.ok.exf b (hex ▸ hb)).1, I'.ok.exfs b (hex ▸ hb), .inl (hex ▸ hb), fun x c e => (I'.ok.exf b (hex ▸ hb)).2 x c e, fun p hp z => hpn p (by simpa using hp) (z ▸ hb)⟩
    show Seg _ A _ _ _ s₀ _ ((compTurn (.GeneratorExp elt [⟨.Name x px, iter, [], 0⟩] scope pos) 0 (.ref it) .none X.env).onRaise (leaving X.env)) [] s
    rw [compTurn_gen, Sem.onRaise_eq_wrap]
    refine seg_bind_wrap (wpAny_standAt ?_)
    rcases turn i m H w with ⟨stop, q⟩ | ⟨go, Nx, hNx, step⟩
    · refine seg_bind_wrap ?_
      rw [hov]
      refine wpAny_mono (T.done X rfl rfl rfl hc i [] s τ H (fun _ _ => False) I (stat I hn) st stop) (fun r s' h => ?_) fun _ _ z => False.elim z
      obtain ⟨hr, I'⟩ := h
      subst hr
      exact seg_end (.ok .next) ⟨rfl, H, τ, I', q⟩
    · refine seg_bind_wrap ?_
      rw [hov]
      refine wpAny_mono (T.item X rfl rfl rfl hc i [] s τ H (fun _ _ => False) I (stat I hn) st go) (fun r s' h => ?_) fun _ _ z => False.elim z
      obtain ⟨u, hr, h2⟩ := h
      subst hr
      refine seg_bind_wrap ?_
      rw [hov]
      refine wpAny_mono h2 (fun _ s2 h => ?_) fun _ _ z => False.elim z
      obtain ⟨xv, H2, I2, r2, y2, st2, n2⟩ := h
      have I2' := I2.pinned (stat I2 n2) (T.obj _ _ st2)
      refine seg_bind_wrap ?_
      rw [hov]
      refine wpAny_mono (((pg_name (X := X.nox) (pos := px) hN hj (.inl hx) (.inr hx)).run _ s2 τ H2 xv u (fun σ' H' => σ' = τ.set j (some xv) ∧ H' = H2) (I2'.wish _) r2 ⟨rfl, rfl⟩)) (fun _ s3 h => ?_) fun _ _ z => False.elim z
      obtain ⟨σ3, H3, I3, e3, e4⟩ := h
      subst e3 e4
      have I3 := I3.unwish
      refine seg_bind_wrap (wpAny_tests_nil ?_)
      have hy : ∀ v, yieldOut X.env v = yieldValue v := fun v => by simp only [yieldOut, hco, Bool.false_eq_true, if_false]
      simp only [if_true, hy]
      rw [Sem.bind_eq_wrap', Sem.bind_eq_wrap', Sem.wrap_wrap, Sem.wrap_wrap]
      refine seg_wrap ?_
      rw [hov]
      refine wpAny_mono (he.run _ s3 _ H3 _ I3 (step xv H3 y2)) (fun y s4 h => ?_) fun _ _ z => (hxe _ _ z).elim
      obtain ⟨yv, H4, I4, r4, b, eb, q4⟩ := h
      subst eb
      obtain rfl : y = Value.bool b := r4
      by_cases hb : b = sv
      · rw [if_pos hb] at q4
        subst hb
        exact seg_at (seg_yield rfl rfl rfl (.inl ⟨rfl, H4, _, I4.unpinned (pins := []), q4⟩))
      · rw [if_neg hb] at q4
        have hb2 : b = !sv := by cases b <;> cases sv <;> first | rfl | exact absurd rfl hb
        subst hb2
        obtain ⟨m', hm', w'⟩ := hNx H4 q4
        have pin' : ∀ b ∈ fp, ∀ o, s2.heap.get? b = some o → s4.heap.get? b = some o ∧ H4 b = none := fun b hb o e =>
          let z := I4.pin (b, o) (List.mem_append_right _ (List.mem_append_right _ (mem_pinsAt hb e)))
          ⟨z.1, z.2.1⟩
        have gw' : GW X τ tn fp W (i + 1) m' s4 := by
          refine ⟨H4, (I4.unpinned (pins := [])).weak (by rw [List.length_set]) (fun l v e => ?_), T.keep _ _ _ st2 fun b hb o e => (pin' b hb o e).1, fun b hb => ?_, w'⟩
          · by_cases hlj : l = j
            · subst hlj
              exact absurd e (hτ v)
            · rw [List.getElem?_set_ne (Ne.symm hlj)]
              exact e
          · obtain ⟨o, e, _⟩ := T.obj _ _ st2 b hb
            exact (pin' b hb o e).2
        refine seg_at (seg_yield rfl rfl rfl (.inr ⟨rfl, i + 1, m', by omega, gw', fun s'' gw'' => ?_⟩))
        exact seg_again rfl (ih (i + 1) m' s'' s'' (by omega) gw'')
end
end Gx

namespace Gx
open PySem PySem.Spec PyProof.Rows L2 GenW
section
variable {X : Cx} {sv : Bool} {τ : L2.St} {tn : Nat → Heap → Prop} {fp : List Addr} {W : Nat → Nat → Hp → Prop} {Qs Qe : Hp → Prop}
theorem seg_first {A : Around} {elt iter : Expr} {x : Str} {px pos : Pos} {scope : Scope} {it : Addr} {J : It} {j : Nat} {te : TE} (hA : X.A = A.deeper X.env) (hxe : ∀ e s, X.xe e s → False) (hc : X.calm = true) (hex : X.ex = fp) (hpn : ∀ p ∈ X.pn, p.1 ∉ fp)
    (hN : X.N.Nodup) (hj : X.N[j]? = some x) (hx : X.env.scope.names.lookup x = some .local) (hco : X.env.scope.isCoroutine = false) (hτ : ∀ v, τ[j]? ≠ some (some v))
    (T : Turn X.prog X.w X.K (.Name x px) J fp it tn) (he : PE X elt te) (turn : TurnOk sv J j te τ W Qs Qe) (n i m : Nat) (s₀ s : Shared) (hm : m < n) (gw : GW X τ tn fp W i m s) :
    Seg (model X.prog X.w) A (GR X Qe) (GY X sv τ tn fp W Qs) n s₀ (.compStart (.GeneratorExp elt [⟨.Name x px, iter, [], 0⟩] scope pos) 0 (.ref it) .none X.env)
      ((model X.prog X.w).den (.compStart (.GeneratorExp elt [⟨.Name x px, iter, [], 0⟩] scope pos) 0 (.ref it) .none X.env)) [] s := by
  have loop := fun s gw => seg_turns (sv := sv) (Qs := Qs) (Qe := Qe) (iter := iter) (scope := scope) (pos := pos) (px := px) hA hxe hc hex hpn hN hj hx hco hτ T he turn n i m s₀ s hm gw
  obtain ⟨H, I, st, r⟩ := _root_.id gw
  show Seg _ A _ _ _ s₀ _ ((compStart (.GeneratorExp elt [⟨.Name x px, iter, [], 0⟩] scope pos) 0 (.ref it) .none X.env).onRaise (leaving X.env)) [] s
  unfold compStart
  rw [Sem.onRaise_eq_wrap]
  show Seg _ A _ _ _ s₀ _ ((ask >>= _).wrap _ _ _ _) [] s
  refine seg_bind_wrap (wpAny_askSetting ?_)
  split
  · exact seg_again rfl (loop s gw)
  · first
      | exact seg_bind_wrap (wpAny_rule (seg_bind_wrap (wpAny_standAt (seg_bind_wrap (T.self _ i s _ _ st (seg_again rfl (loop s gw)))))))
      | (refine seg_bind_wrap (wpAny_rule ?_); show Seg _ A _ _ _ s₀ _ ((standAt iter.pos >>= _).wrap _ _ _ _) [] s; exact seg_bind_wrap (wpAny_standAt (seg_bind_wrap (T.self _ i s _ _ st (seg_again rfl (loop s gw))))))

/-- the generator number gn stands, at most n yields ahead; A: around the wake -/
def GA (X : Cx) (A : Around) (sv : Bool) (τ : L2.St) (tn : Nat → Heap → Prop) (fp : List Addr) (W : Nat → Nat → Hp → Prop) (Qs Qe : Hp → Prop) (gn n : Nat) (s : Shared) : Prop :=
  ∃ gs i m, s.gens[gn]? = some gs ∧ GW X τ tn fp W i m s ∧ ∀ s'', GW X τ tn fp W i m s'' → gs.Goes (model X.prog X.w) A (GR X Qe) (GY X sv τ tn fp W Qs) n (.send .none) s''
theorem setGen_at {s : Shared} {g : Nat} {x : GenState} (h : g < s.gens.size) : (s.setGen g x).gens[g]? = some x := by simp [Shared.setGen, h]
theorem bare_set {s : Shared} {g : Nat} {x : GenState} (h : AllBare s.gens) (hx : x.bare = true) : AllBare (s.setGen g x).gens := fun y hy => by
  have hy : y ∈ s.gens.setIfInBounds g x := hy
  rcases Array.mem_or_eq_of_mem_setIfInBounds hy with e | e
  · exact h y e
  · rw [e]
    exact hx
theorem next_gen {A : Around} {E : Value → Shared → Prop} {g gn n : Nat} {nm qn : Value} {og : Obj} (hh : A.handled = none) (hroom : A.depth < recursionLimit) (hpn : X.pn = [(g, og)]) (hog : og.cls = .type "generator" ∧ og.data = .fields #[.int gn 0, nm, qn] ∧ og.slots = #[])
    {s : Shared} (ga : GA X A.in1 sv τ tn fp W Qs Qe gn n s) :
    wpAny (model X.prog X.w) A (pyNext (.ref g)) (fun r s' => (r = none ∧ GD X Qe s') ∨ (r = some (.bool sv) ∧ GD X Qs s') ∨ (∃ n', n' < n ∧ r = some (.bool (!sv)) ∧ GA X A.in1 sv τ tn fp W Qs Qe gn n' s')) E s := by
  obtain ⟨gs, i, m, hgs, gw, go⟩ := ga
  obtain ⟨H, I, st, r⟩ := _root_.id gw
  have hget : s.heap.get? g = some og := (I.pin (g, og) (List.mem_append_left _ (by rw [hpn]; exact List.mem_cons_self))).1
  have hsz : gn < s.gens.size := by
    rcases Nat.lt_or_ge gn s.gens.size with h | h
    · exact h
    · rw [Array.getElem?_eq_none h] at hgs; cases hgs
  have gw0 : GW X τ tn fp W i m (s.setGen gn .running) := gw.gens (bare_set gw.bare rfl)
  refine wpAny_gsz (n := gn + 1) hsz ?_
  refine wpAny_pyNext_genexpQ (P := fun _ _ s₁ => GD X Qe s₁) hh I.nolimit hroom ⟨og, nm, qn, hget, hog.1, hog.2.1, hog.2.2⟩ hgs (go _ gw0) (fun v s₁ gs' hb hv => ?_) (fun s₁ hp h' hk => ?_)
  · intro hn
    have hn1 : gn < s₁.gens.size := by
      have : gn + 1 ≤ (s₁.setGen gn gs').gens.size := hn
      rw [setGen_size] at this
      exact this
    rcases hv with ⟨ev, gd⟩ | ⟨ev, i', m', hm', gw', kap⟩
    · subst ev
      exact .inr (.inl ⟨rfl, gd.gens (bare_set gd.bare hb)⟩)
    · subst ev
      cases n with
      | zero => exact absurd hm' (Nat.not_lt_zero _)
      | succ n => exact .inr (.inr ⟨n, Nat.lt_succ_self _, rfl, gs', i', m', setGen_at hn1, gw'.gens (bare_set gw'.bare hb), kap⟩)
  · intro _
    obtain ⟨H', σ', I', q⟩ := hp
    refine .inl ⟨rfl, H', σ', ?_, q⟩
    have I2 := inv_gens I' (bare_set (g := gn) (x := GenState.finished) I'.bare rfl)
    exact I2.kept (t' := s₁.toks) hk
theorem any_loop {A : Around} {g gn : Nat} {nm qn : Value} {og : Obj} {R : Result → Shared → Prop} (hh : A.handled = none) (hroom : A.depth < recursionLimit) (hpn : X.pn = [(g, og)]) (hog : og.cls = .type "generator" ∧ og.data = .fields #[.int gn 0, nm, qn] ∧ og.slots = #[])
    (h0 : ∀ s, GD X Qe s → R (.ok (.ret (.bool false))) s) (h1 : ∀ s, GD X Qs s → R (.ok (.ret (.bool true))) s) : ∀ (n : Nat) (s : Shared), GA X A.in1.in1 true τ tn fp W Qs Qe gn n s → codeAny (model X.prog X.w) A (.builtin "any.loop" ⟨[.ref g], []⟩) R s := by
  intro n
  induction n using Nat.strongRecOn with
  | ind n ih =>
    intro s ga
    refine codeAny_builtin F.entry_any_loop ?_
    rw [Around.under_plainId F.plain_any_loop _]
    show wpAny _ A.in1 (pyNext (.ref g) >>= _) _ _ s
    refine wpAny_bind (wpAny_mono (next_gen (A := A.in1) (E := fun _ _ => False) hh hroom hpn hog ga) (fun r s' h => ?_) fun _ _ z => False.elim z)
    rcases h with ⟨e, gd⟩ | ⟨e, gd⟩ | ⟨n', hn, e, ga'⟩
    · subst e
      exact wpAny_bind (wpAny_rule (wpAny_pure (h0 _ gd)))
    · subst e
      refine wpAny_bind (wpAny_holding (wpAny_truthy_bool ?_))
      refine wpAny_bind (wpAny_letGo ?_)
      simp only [if_true]
      exact wpAny_bind (wpAny_rule (wpAny_pure (h1 _ gd)))
    · subst e
      refine wpAny_bind (wpAny_holding (wpAny_truthy_bool ?_))
      refine wpAny_bind (wpAny_letGo ?_)
      simp only [Bool.not_true, Bool.false_eq_true, if_false]
      exact wpAny_pure ⟨plainId_quiet F.plain_any_loop _, ih n' hn s' ga'⟩
theorem all_loop {A : Around} {g gn : Nat} {nm qn : Value} {og : Obj} {R : Result → Shared → Prop} (hh : A.handled = none) (hroom : A.depth < recursionLimit) (hpn : X.pn = [(g, og)]) (hog : og.cls = .type "generator" ∧ og.data = .fields #[.int gn 0, nm, qn] ∧ og.slots = #[])
    (h0 : ∀ s, GD X Qe s → R (.ok (.ret (.bool true))) s) (h1 : ∀ s, GD X Qs s → R (.ok (.ret (.bool false))) s) : ∀ (n : Nat) (s : Shared), GA X A.in1.in1 false τ tn fp W Qs Qe gn n s → codeAny (model X.prog X.w) A (.builtin "all.loop" ⟨[.ref g], []⟩) R s := by
  intro n
  induction n using Nat.strongRecOn with
  | ind n ih =>
    intro s ga
    refine codeAny_builtin F.entry_all_loop ?_
    rw [Around.under_plainId F.plain_all_loop _]
    show wpAny _ A.in1 (pyNext (.ref g) >>= _) _ _ s
    refine wpAny_bind (wpAny_mono (next_gen (A := A.in1) (E := fun _ _ => False) hh hroom hpn hog ga) (fun r s' h => ?_) fun _ _ z => False.elim z)
    rcases h with ⟨e, gd⟩ | ⟨e, gd⟩ | ⟨n', hn, e, ga'⟩
    · subst e
      exact wpAny_bind (wpAny_rule (wpAny_pure (h0 _ gd)))
    · subst e
      refine wpAny_bind (wpAny_holding (wpAny_truthy_bool ?_))
      refine wpAny_bind (wpAny_letGo ?_)
      simp only [Bool.false_eq_true, if_false]
      exact wpAny_bind (wpAny_rule (wpAny_pure (h1 _ gd)))
    · subst e
      refine wpAny_bind (wpAny_holding (wpAny_truthy_bool ?_))
      refine wpAny_bind (wpAny_letGo ?_)
      simp only [Bool.not_false, if_true]
      exact wpAny_pure ⟨plainId_quiet F.plain_all_loop _, ih n' hn s' ga'⟩
end

/-! ### any(..), all(..) as expressions -/
/-- wi: what is walked; P: the table of the def's code object -/
def tGen (sv : Bool) (P : Addr) (wi : TI) (j : Nat) (te : TE) : TE := fun σ H Q => wi σ H fun J H1 => GxR.TabG H1 P ∧ ∀ H1', GxR.Tabbed P H1 H1' → ∃ W : Nat → Nat → Hp → Prop, (∃ m, W 0 m H1') ∧ TurnOk sv J j te (σ.set j none) W (fun H => Q (.bl sv) H) (fun H => Q (.bl (!sv)) H)
section
variable {X : Cx}
theorem gen_make {pins : List (Addr × Obj)} {σ : L2.St} {H : Hp} {s : Shared} {c P : Addr} {elt iter : Expr} {x : Str} {px gpos : Pos} {scope : Scope} {j : Nat} {wi : TI} {te : TE} {sv : Bool} {Q : VK} {k : Nat} {Q' : Value → Shared → Prop}
    (hr : Room (k + 1) X.A) (hc : X.calm = true) (hN : X.N.Nodup) (TB : GxR.TabB X.base X.mg c P) (hcode : X.env.code = .ref c) (S : GxR.GenS X.env scope x) (ok : BlkOk X.N X.env.scope scope [(x, j)]) (hi : PI X (.Name x px) iter wi)
    (he : ∀ (s : Shared) (H : Hp) (C : Addr) (code : Value) (fp : List Addr) (pn : List (Addr × Obj)), Room k (genCx X s H scope C code fp pn).A → PE (genCx X s H scope C code fp pn) elt te)
    (hs : ∀ v, genFold iter X.env v = pure v) (I : Inv X pins σ H s) (h : tGen sv P wi j te σ H Q)
    (hQ : ∀ (Xg : Cx) (τ : L2.St) (tn : Nat → Heap → Prop) (fp : List Addr) (W : Nat → Nat → Hp → Prop) (g gn n : Nat) (nm qn : Value) (og : Obj) (s5 : Shared), Xg.prog = X.prog → Xg.w = X.w → Xg.pn = [(g, og)] → (og.cls = .type "generator" ∧ og.data = .fields #[.int gn 0, nm, qn] ∧ og.slots = #[]) → s5.heap.get? g = some og →
      GA Xg X.A.in1.in1 sv τ tn fp W (fun H => Q (.bl sv) H) (fun H => Q (.bl (!sv)) H) gn n s5 → (∀ (D : Hp → Prop) s', GD Xg D s' → ∃ H', Inv X pins σ H' s' ∧ D H') → Q' (.ref g) s5) :
    wpAny (model X.prog X.w) X.A (eval (.GeneratorExp elt [⟨.Name x px, iter, [], 0⟩] scope gpos) X.env) Q' X.xe s := by
  have hrd := hr.dp
  have hfree : ∀ y ∈ scope.names, y.2 = .free → ∃ c, X.env.cells.lookup y.1 = some c := S.free
  refine wpAny_GeneratorExp_make S.co (closure_ok hfree) S.cell S.dot S.kind (by omega) ?_ hs
  refine thn (hi.run pins s σ H _ I h) fun xv s1 h1 => thn h1 fun itv s2 h2 => ?_
  obtain ⟨it, fp, tn, J, H2, e, I2, T, st2, f2, ⟨ps, hP, ht⟩, q⟩ := h2
  subst e
  have hPs : s2.heap.get? P = some { cls := .none, data := .fields ps } := I2.hok P _ hP
  have cd : PySem.W.CodeHd s2.heap c P := TB.code.keeps I2.bk
  refine ⟨I2.nolimit, ?_⟩
  have cont : ∀ (code : Value) (h3 : Heap) (tk : Nat) (more : Array Value), Heap.ExtBut P s2.heap h3 → s2.heap.objs.size ≤ h3.objs.size → h3.get? P = some { cls := .none, data := .fields (ps ++ more) } → TriplesOk (ps ++ more).toList →
      wpAny (model X.prog X.w) X.A (builtinsFor X.env.globals X.env.builtins) (fun bi s₄ => ∀ h', h'.Ns s₄.heap.objs.size (fun y => if y = ".0" then some (.ref it) else none) → Heap.SameBut s₄.heap.objs.size (s₄.heap.push { cls := .type "frame", data := .dict #[] }) h' →
          Q' (.ref h'.objs.size) { s₄ with
            gens := s₄.gens.push (.fresh (.compStart (.GeneratorExp elt [⟨.Name x px, iter, [], 0⟩] scope gpos) 0 (.ref it) .none (genEnv scope (cloFrom X.env.cells scope.names []) s₄.heap.objs.size code bi X.env))),
            toks := s₄.toks + 1 + 1 + 1,
            heap := h'.push { cls := .type "generator", data := .fields #[.int s₄.gens.size 0, .str "<genexpr>" (s₄.toks + 1), .str (X.env.qual ++ "<genexpr>") (s₄.toks + 1 + 1)] } }) X.xe { s2 with heap := h3, toks := tk } := by
    intro code h3 tk more hx hsz hP3 ht3
    obtain ⟨bm, ob, e1, e2, e3, e4, e5, e6, e7, e8⟩ := TB.bm
    refine wpAny_builtinsFor (m := X.mg) (by rw [I2.ok.glob]; exact (I2.mod.glob.keeps I2.bk).extBut hx TB.gP) e1 e2 (hx _ _ e4 (I2.bk _ _ e5)) e6 e7 e8 ?_
    have I3 := GxR.inv_tab (more := more) (h' := h3) (g' := s2.gens) (d' := s2.drawn) (t' := tk) I2 hP (fun b o hb e => hx b o hb e) hP3 I2.bare
    intro h' hn' hs'
    obtain ⟨W, ⟨m0, w0⟩, turn⟩ := q (upd H2 P (.tbl (ps ++ more))) ⟨⟨_, upd_same, ht3⟩, fun b hb => upd_ne hb⟩
    have nP : ∀ b, H2 b = none → b ≠ P := fun b e z => by rw [z, hP] at e; cases e
    have f3 : ∀ b ∈ fp, FpOk X pins (upd H2 P (.tbl (ps ++ more))) b ∧ b < h3.objs.size := fun b hb => by
      obtain ⟨o, e, _⟩ := T.obj _ _ st2 b hb
      refine ⟨⟨by rw [upd_ne (nP _ (f2 b hb).1)]; exact (f2 b hb).1, (f2 b hb).2⟩, Nat.lt_of_lt_of_le (Heap.lt_size e) hsz⟩
    have st3 : tn 0 h3 := T.keep _ _ _ st2 fun b hb o e => hx b o (nP _ (f2 b hb).1) e
    have sz' : h'.objs.size = h3.objs.size + 1 := by
      have := hs'.1
      rw [Heap.size_push] at this
      exact this
    have keep' : ∀ b o, h3.get? b = some o → h'.get? b = some o := fun b o e => hs'.extBut b o (Nat.ne_of_lt (Heap.lt_size e)) (Heap.get?_push_of_some _ e)
    generalize hog : ({ cls := .type "generator", data := .fields #[.int s2.gens.size 0, .str "<genexpr>" (tk + 1), .str (X.env.qual ++ "<genexpr>") (tk + 1 + 1)] } : Obj) = og
    have keep5 : ∀ b o, h3.get? b = some o → (h'.push og).get? b = some o := fun b o e => Heap.get?_push_of_some _ (keep' b o e)
    have hgo : (h'.push og).get? h'.objs.size = some og := Heap.get?_push_size _ (by rw [← hog]; rfl)
    have gstart : ∀ (g5 : Array GenState), AllBare g5 → Inv (genCx X { s2 with heap := h3, toks := tk } (upd H2 P (.tbl (ps ++ more))) scope h3.objs.size code fp [(h'.objs.size, og)]) [] (σ.set j none) (upd H2 P (.tbl (ps ++ more))) { s2 with heap := h'.push og, gens := g5, toks := tk + 1 + 1 + 1 } := fun g5 hb5 =>
      gen_start (s := { s2 with heap := h3, toks := tk }) (g := h'.objs.size) (og := og) (C := h3.objs.size) (h5 := h'.push og) (tk := tk + 1 + 1 + 1) I3 ok S.cell hN hc f3 rfl (by rw [sz']; exact Nat.lt_succ_self _) keep5 (hn'.push _) hgo (by rw [← hog]; intro v z; cases z) hb5
    have hbare : AllBare (s2.gens.push (.fresh (.compStart (.GeneratorExp elt [⟨.Name x px, iter, [], 0⟩] scope gpos) 0 (.ref it) .none (genEnv scope (cloFrom X.env.cells scope.names []) h3.objs.size code builtinsNs X.env)))) := I2.bare.push rfl
    have gw : ∀ (g5 : Array GenState), AllBare g5 → GW (genCx X { s2 with heap := h3, toks := tk } (upd H2 P (.tbl (ps ++ more))) scope h3.objs.size code fp [(h'.objs.size, og)]) (σ.set j none) tn fp W 0 m0 { s2 with heap := h'.push og, gens := g5, toks := tk + 1 + 1 + 1 } := fun g5 hb5 =>
      ⟨_, gstart g5 hb5, T.keep _ _ _ st3 fun b hb o e => keep5 b o e, fun b hb => (f3 b hb).1.1, w0⟩
    have hk1 : Room k (genCx X { s2 with heap := h3, toks := tk } (upd H2 P (.tbl (ps ++ more))) scope h3.objs.size code fp [(h'.objs.size, og)]).A := by
      have h1 := hr.hd
      have h2 := hr.dp
      have h3 := hr.un
      exact ⟨h1, by show X.A.depth + 1 + 3 * k + 5 < _; omega, by show X.A.units + 1 + 1 + 3 + 16 * k + 200 < _; omega⟩
    have hτ : ∀ v, (σ.set j none)[j]? ≠ some (some v) := fun v z => by
      by_cases hl : j < σ.length
      · rw [List.getElem?_set_self hl] at z; cases z
      · rw [List.getElem?_eq_none (by simpa using hl)] at z; cases z
    refine hQ (genCx X { s2 with heap := h3, toks := tk } (upd H2 P (.tbl (ps ++ more))) scope h3.objs.size code fp [(h'.objs.size, og)]) (σ.set j none) tn fp W h'.objs.size s2.gens.size (m0 + 1) _ _ og _ rfl rfl rfl (by rw [← hog]; exact ⟨rfl, rfl, rfl⟩) hgo ?_ ?_
    · refine ⟨_, 0, m0, Array.getElem?_push_size .., gw _ hbare, fun s'' gw'' => ⟨rfl, ?_⟩⟩
      refine seg_first (X := genCx X { s2 with heap := h3, toks := tk } (upd H2 P (.tbl (ps ++ more))) scope h3.objs.size code fp [(h'.objs.size, og)]) (J := J) (j := j) (te := te) rfl (fun _ _ z => z) rfl rfl (fun p hp => ?_) hN (ok.ix (x, j) List.mem_cons_self) S.loc S.co hτ T (he _ _ _ _ _ _ hk1) turn (m0 + 1) 0 m0 s'' s'' (Nat.lt_succ_self _) gw''
      intro hb
      have e : p = (h'.objs.size, og) := by simpa [genCx] using hp
      rw [e] at hb
      have := (f3 _ hb).2
      have h9 : (h'.objs.size : Nat) < h3.objs.size := this
      omega
    · intro D s' gd
      obtain ⟨H', σ', I', d⟩ := gd
      refine ⟨H', I3.call' (ch := fp) I'.os I'.base I'.hok I'.bare fun b hb => ⟨(f3 b hb).1.2.2.2.1, (f3 b hb).1.2.1, (f3 b hb).1.2.2.2.2.1, (f3 b hb).1.2.2.2.2.2⟩, d⟩
  cases hf : codeAmong gpos ps.toList with
  | none =>
    refine wpAny_genexprCodeX hcode (cd.code hPs ht) (cd.tab hPs) hf fun c' h' tk hx hge hlt hco' _ htab' _ => ?_
    obtain ⟨o1, vs, f1, tf, fl, tg, inF, tx, tt, op, _, _, _, _, _, _, _, _, _, htr, _⟩ := hco'
    exact cont _ h' tk _ hx (Nat.le_trans hge (Nat.le_of_lt hlt)) htab'.2 htr
  | some cv =>
    refine wpAny_genexprCode_hit hcode (cd.code hPs ht) hf ?_
    exact cont cv s2.heap s2.toks #[] (Heap.ExtBut.refl _ _) (Nat.le_refl _) (by simpa using hPs) (by simpa using ht)

theorem pe_anyG {c P : Addr} {elt iter : Expr} {x : Str} {px p pos gpos : Pos} {scope : Scope} {j : Nat} {wi : TI} {te : TE} {k : Nat}
    (hr : Room (k + 1) X.A) (hc : X.calm = true) (hN : X.N.Nodup) (hg : Gl X "any") (hm : X.mg "any" = none) (TB : GxR.TabB X.base X.mg c P) (hcode : X.env.code = .ref c) (S : GxR.GenS X.env scope x) (ok : BlkOk X.N X.env.scope scope [(x, j)]) (hi : PI X (.Name x px) iter wi)
    (he : ∀ (s : Shared) (H : Hp) (C : Addr) (code : Value) (fp : List Addr) (pn : List (Addr × Obj)), Room k (genCx X s H scope C code fp pn).A → PE (genCx X s H scope C code fp pn) elt te)
    (hs : ∀ v, genFold iter X.env v = pure v)
    (hst : starEach [.GeneratorExp elt [⟨.Name x px, iter, [], 0⟩] scope gpos] X.env = (false, eval (.GeneratorExp elt [⟨.Name x px, iter, [], 0⟩] scope gpos) X.env) :: starEach [] X.env := by rfl) :
    PE X (.Call (.Name "any" p) [.GeneratorExp elt [⟨.Name x px, iter, [], 0⟩] scope gpos] [] pos) (tGen true P wi j te) := by
  refine ⟨fun pins s σ H Q I h => ?_⟩
  refine wpAny_Call_Name_kw (ld_blt I hg hm boot_any ?_)
  refine PyProof.Rows.callWith_builtin1 ?_ hst (by rfl)
  rw [hst]
  show wpAny _ _ (spliced ((false, eval (.GeneratorExp elt [⟨.Name x px, iter, [], 0⟩] scope gpos) X.env) :: backTo pos (starEach [] X.env))) _ _ s
  refine Calls.spliced_cons (gen_make hr hc hN TB hcode S ok hi he hs I h fun Xg τ tn fp W g gn n nm qn og s5 ep ew hpn hog hget ga hD => ?_)
  refine Calls.spliced_nil ?_
  have hrd := hr.dp
  refine call_function_tree F.kind_any F.plain_any F.entry_any (F.args_any1 _) ?_
  unfold Builtin.«any»
  refine wpAny_bind (m := oneArg "any" _) (wpAny_pure ?_)
  refine wpAny_bind (wpAny_pyIter_gen (g := gn) ⟨og, nm, qn, hget, hog.1, hog.2.1, hog.2.2⟩ ?_)
  rw [← ep, ← ew]
  refine wpAny_pure ⟨plainId_quiet F.plain_any_loop _, any_loop (X := Xg) hr.hd (by omega) hpn hog (fun s' gd => ?_) (fun s' gd => ?_) n s5 ga⟩
  · obtain ⟨H', I', d⟩ := hD _ s' gd
    exact ⟨.bl false, H', I', rfl, d⟩
  · obtain ⟨H', I', d⟩ := hD _ s' gd
    exact ⟨.bl true, H', I', rfl, d⟩
theorem pe_allG {c P : Addr} {elt iter : Expr} {x : Str} {px p pos gpos : Pos} {scope : Scope} {j : Nat} {wi : TI} {te : TE} {k : Nat}
    (hr : Room (k + 1) X.A) (hc : X.calm = true) (hN : X.N.Nodup) (hg : Gl X "all") (hm : X.mg "all" = none) (hb : bootBuiltins "all" = some (.builtin "all")) (TB : GxR.TabB X.base X.mg c P) (hcode : X.env.code = .ref c) (S : GxR.GenS X.env scope x) (ok : BlkOk X.N X.env.scope scope [(x, j)]) (hi : PI X (.Name x px) iter wi)
    (he : ∀ (s : Shared) (H : Hp) (C : Addr) (code : Value) (fp : List Addr) (pn : List (Addr × Obj)), Room k (genCx X s H scope C code fp pn).A → PE (genCx X s H scope C code fp pn) elt te)
    (hs : ∀ v, genFold iter X.env v = pure v)
    (hst : starEach [.GeneratorExp elt [⟨.Name x px, iter, [], 0⟩] scope gpos] X.env = (false, eval (.GeneratorExp elt [⟨.Name x px, iter, [], 0⟩] scope gpos) X.env) :: starEach [] X.env := by rfl) :
    PE X (.Call (.Name "all" p) [.GeneratorExp elt [⟨.Name x px, iter, [], 0⟩] scope gpos] [] pos) (tGen false P wi j te) := by
  refine ⟨fun pins s σ H Q I h => ?_⟩
  refine wpAny_Call_Name_kw (ld_blt I hg hm hb ?_)
  refine PyProof.Rows.callWith_builtin1 ?_ hst (by rfl)
  rw [hst]
  show wpAny _ _ (spliced ((false, eval (.GeneratorExp elt [⟨.Name x px, iter, [], 0⟩] scope gpos) X.env) :: backTo pos (starEach [] X.env))) _ _ s
  refine Calls.spliced_cons (gen_make hr hc hN TB hcode S ok hi he hs I h fun Xg τ tn fp W g gn n nm qn og s5 ep ew hpn hog hget ga hD => ?_)
  refine Calls.spliced_nil ?_
  have hrd := hr.dp
  refine call_function_tree F.kind_all F.plain_all F.entry_all (F.args_all1 _) ?_
  unfold Builtin.«all»
  refine wpAny_bind (m := oneArg "all" _) (wpAny_pure ?_)
  refine wpAny_bind (wpAny_pyIter_gen (g := gn) ⟨og, nm, qn, hget, hog.1, hog.2.1, hog.2.2⟩ ?_)
  rw [← ep, ← ew]
  refine wpAny_pure ⟨plainId_quiet F.plain_all_loop _, all_loop (X := Xg) hr.hd (by omega) hpn hog (fun s' gd => ?_) (fun s' gd => ?_) n s5 ga⟩
  · obtain ⟨H', I', d⟩ := hD _ s' gd
    exact ⟨.bl true, H', I', rfl, d⟩
  · obtain ⟨H', I', d⟩ := hD _ s' gd
    exact ⟨.bl false, H', I', rfl, d⟩
end
end Gx

/-! A small logic over the hand layer: slots and results told by data, the heap by an assertion that growth keeps. -/
namespace Wb
open PySem PySem.Spec PyProof.Rows L2

/-! ### data that holds no list: None, truths, ints, texts, tuples -/
mutual
inductive Dt (K : PySem.W.Frag) (H : Hp) : V → PyData → Prop
  | non : Dt K H .non .none
  | bl (b : Bool) : Dt K H (.bl b) (.bool b)
  | int (i : Int) : Dt K H (.int i) (.int i)
  | str (x : Str) : Dt K H (.str x) (.str x)
  | tup {a : Addr} {xs : List V} {ds : List PyData} : SqT K H a xs → Da K H xs ds → Dt K H (.ref a) (.tuple ds)
inductive Da (K : PySem.W.Frag) (H : Hp) : List V → List PyData → Prop
  | nil : Da K H [] []
  | cons {v : V} {vs : List V} {d : PyData} {ds : List PyData} : Dt K H v d → Da K H vs ds → Da K H (v :: vs) (d :: ds)
end
/-- tuples and locked things stay -/
def Tk (H H' : Hp) : Prop := (∀ a xs, H a = some (.tup xs) → H' a = some (.tup xs)) ∧ ∀ a o u, H a = some (.frz o u) → H' a = some (.frz o u)
theorem Tk.sq {K : PySem.W.Frag} {H H' : Hp} (t : Tk H H') {a : Addr} {xs : List V} (h : SqT K H a xs) : SqT K H' a xs := by
  rcases h with (h | ⟨o, h⟩) | h
  · exact .inl (.inl (t.1 _ _ h))
  · exact .inl (.inr ⟨o, t.2 _ _ _ h⟩)
  · exact .inr h
mutual
theorem Dt.tk {K : PySem.W.Frag} {H H' : Hp} (t : Tk H H') : ∀ (d : PyData) (v : V), Dt K H v d → Dt K H' v d
  | .none, _, h => by cases h; exact .non
  | .bool b, _, h => by cases h; exact .bl b
  | .int i, _, h => by cases h; exact .int i
  | .str x, _, h => by cases h; exact .str x
  | .tuple ds, _, h => by
    cases h with
    | tup hs ha => exact .tup (t.sq hs) (Da.tk t ds _ ha)
  | .list _, _, h => by cases h
  | .dict _, _, h => by cases h
theorem Da.tk {K : PySem.W.Frag} {H H' : Hp} (t : Tk H H') : ∀ (ds : List PyData) (vs : List V), Da K H vs ds → Da K H' vs ds
  | [], _, h => by cases h; exact .nil
  | d :: ds, _, h => by
    cases h with
    | cons h1 h2 => exact .cons (Dt.tk t d _ h1) (Da.tk t ds _ h2)
end
mutual
theorem Dt.dp {K : PySem.W.Frag} {H : Hp} : ∀ (d : PyData) (v : V), Dt K H v d → Dp K H v d
  | .none, _, h => by cases h; exact .non
  | .bool b, _, h => by cases h; exact .bl b
  | .int i, _, h => by cases h; exact .int i
  | .str x, _, h => by cases h; exact .str x
  | .tuple ds, _, h => by
    cases h with
    | tup hs ha => exact .tup hs (Da.dp ds _ ha)
  | .list _, _, h => by cases h
  | .dict _, _, h => by cases h
theorem Da.dp {K : PySem.W.Frag} {H : Hp} : ∀ (ds : List PyData) (vs : List V), Da K H vs ds → DpAll K H vs ds
  | [], _, h => by cases h; exact .nil
  | d :: ds, _, h => by
    cases h with
    | cons h1 h2 => exact .cons (Dt.dp d _ h1) (Da.dp ds _ h2)
end
section
variable {K : PySem.W.Frag} {H H' : Hp}
theorem Da.len : ∀ {vs : List V} {ds : List PyData}, Da K H vs ds → vs.length = ds.length
  | _, _, .nil => rfl
  | _, _, .cons _ t => congrArg Nat.succ (Da.len t)
theorem Da.get : ∀ {vs : List V} {ds : List PyData} {i : Nat} {d : PyData}, Da K H vs ds → ds[i]? = some d → ∃ v, vs[i]? = some v ∧ Dt K H v d
  | _, _, _, _, .nil, e => by simp at e
  | _, _, 0, _, .cons r _, e => by simp at e; subst e; exact ⟨_, rfl, r⟩
  | _, _, i + 1, d, .cons _ t, e => by
    obtain ⟨v, h1, h2⟩ := Da.get (i := i) (d := d) t (by simpa using e)
    exact ⟨v, by simpa using h1, h2⟩
theorem Da.getV : ∀ {vs : List V} {ds : List PyData} {i : Nat} {v : V}, Da K H vs ds → vs[i]? = some v → ∃ d, ds[i]? = some d ∧ Dt K H v d
  | _, _, _, _, .nil, e => by simp at e
  | _, _, 0, _, .cons r _, e => by simp at e; subst e; exact ⟨_, rfl, r⟩
  | _, _, i + 1, v, .cons _ t, e => by
    obtain ⟨d, h1, h2⟩ := Da.getV (i := i) (v := v) t (by simpa using e)
    exact ⟨d, by simpa using h1, h2⟩
theorem Da.app : ∀ {vs ws : List V} {ds es : List PyData}, Da K H vs ds → Da K H ws es → Da K H (vs ++ ws) (ds ++ es)
  | _, _, _, _, .nil, s => s
  | _, _, _, _, .cons r t, s => .cons r (Da.app t s)
theorem Da.take : ∀ {vs : List V} {ds : List PyData} (n : Nat), Da K H vs ds → Da K H (vs.take n) (ds.take n)
  | _, _, 0, _ => .nil
  | _, _, _ + 1, .nil => .nil
  | _, _, n + 1, .cons r t => .cons r (Da.take n t)
theorem Da.drop : ∀ {vs : List V} {ds : List PyData} (n : Nat), Da K H vs ds → Da K H (vs.drop n) (ds.drop n)
  | _, _, 0, r => r
  | _, _, _ + 1, .nil => .nil
  | _, _, n + 1, .cons _ t => Da.drop n t
theorem Da.erase : ∀ {vs : List V} {ds : List PyData} (n : Nat), Da K H vs ds → Da K H (vs.eraseIdx n) (ds.eraseIdx n)
  | _, _, _, .nil => .nil
  | _, _, 0, .cons _ t => t
  | _, _, n + 1, .cons r t => .cons r (Da.erase n t)
theorem Da.set : ∀ {vs : List V} {ds : List PyData} {v : V} {d : PyData} (n : Nat), Da K H vs ds → Dt K H v d → Da K H (vs.set n v) (ds.set n d)
  | _, _, _, _, _, .nil, _ => .nil
  | _, _, _, _, 0, .cons _ t, h => .cons h t
  | _, _, _, _, n + 1, .cons r t, h => .cons r (Da.set n t h)
theorem Dt.int_inv {v : V} {i : Int} (h : Dt K H v (.int i)) : v = .int i := by cases h; rfl
theorem Dt.str_inv {v : V} {x : Str} (h : Dt K H v (.str x)) : v = .str x := by cases h; rfl
theorem Dt.bl_inv {v : V} {x : Bool} (h : Dt K H v (.bool x)) : v = .bl x := by cases h; rfl
theorem Dt.non_inv {v : V} (h : Dt K H v .none) : v = .non := by cases h; rfl
theorem Dt.tup_inv {v : V} {ds : List PyData} (h : Dt K H v (.tuple ds)) : ∃ a xs, v = .ref a ∧ SqT K H a xs ∧ Da K H xs ds := by
  cases h with
  | tup hs ha => exact ⟨_, _, rfl, hs, ha⟩
end

/-! ### growth -/
/-- H' behind H: what was tracked stands, but for the tables in G (which stay tables) and the objects in ms -/
structure Gr (G : Addr → Prop) (ms : List Addr) (H H' : Hp) : Prop where
  keep : ∀ b o, H b = some o → ¬ G b → b ∉ ms → H' b = some o
  tk : Tk H H'
  tab : ∀ b, G b → GxR.TabG H b → GxR.TabG H' b
  dom : ∀ b, H' b = none → H b = none
section
variable {G : Addr → Prop} {ms ms' : List Addr} {K : PySem.W.Frag} {H H1 H2 H' : Hp}
theorem Gr.refl : Gr G ms H H := ⟨fun _ _ h _ _ => h, ⟨fun _ _ h => h, fun _ _ _ h => h⟩, fun _ _ h => h, fun _ h => h⟩
theorem Gr.trans (a : Gr G ms H H1) (b : Gr G ms H1 H2) : Gr G ms H H2 :=
  ⟨fun c o h h1 h2 => b.keep c o (a.keep c o h h1 h2) h1 h2, ⟨fun c xs h => b.tk.1 c xs (a.tk.1 c xs h), fun c o u h => b.tk.2 c o u (a.tk.2 c o u h)⟩, fun c g h => b.tab c g (a.tab c g h), fun c h => a.dom c (b.dom c h)⟩
theorem Gr.mono (a : Gr G ms H H1) (h : ∀ b ∈ ms, b ∈ ms') : Gr G ms' H H1 := ⟨fun c o e h1 h2 => a.keep c o e h1 fun z => h2 (h c z), a.tk, a.tab, a.dom⟩
theorem Gr.wide (a : Gr G [] H H1) : Gr G ms H H1 := a.mono fun b h => nomatch h
theorem Gr.new {p : Addr} {o : HO} (h : H p = none) : Gr G ms H (upd H p o) := by
  refine ⟨fun b u e _ _ => by rw [upd_ne (ne_of_none e h)]; exact e, ⟨fun b u e => by rw [upd_ne (ne_of_none e h)]; exact e, fun b u v e => by rw [upd_ne (ne_of_none e h)]; exact e⟩, fun b _ t => ?_, fun b e => ?_⟩
  · obtain ⟨ps, e, r⟩ := t
    exact ⟨ps, by rw [upd_ne (ne_of_none e h)]; exact e, r⟩
  · by_cases hb : b = p
    · rw [hb]; exact h
    · rw [upd_ne hb] at e; exact e
/-- an object that is no tuple, no locked thing and no table is changed -/
def Plain : HO → Prop
  | .lst _ => True
  | .dK _ => True
  | .ins _ _ _ => True
  | _ => False
theorem Gr.put {p : Addr} {o u : HO} (h : H p = some u) (hu : Plain u) (hp : p ∈ ms) : Gr G ms H (upd H p o) := by
  have ne : ∀ b v, H b = some v → ¬ Plain v → b ≠ p := fun b v e n z => by
    rw [z, h] at e
    cases e
    exact n hu
  refine ⟨fun b v e _ n => by rw [upd_ne (show b ≠ p from fun z => n (by rw [z]; exact hp))]; exact e, ⟨fun b v e => by rw [upd_ne (ne b _ e (fun z => z))]; exact e, fun b v w e => by rw [upd_ne (ne b _ e (fun z => z))]; exact e⟩, fun b _ t => ?_, fun b e => ?_⟩
  · obtain ⟨ps, e, r⟩ := t
    exact ⟨ps, by rw [upd_ne (ne b _ e (fun z => z))]; exact e, r⟩
  · by_cases hb : b = p
    · rw [hb, upd_same] at e; cases e
    · rw [upd_ne hb] at e; exact e
/-- an object that H does not know may be changed -/
theorem Gr.mut {p : Addr} {o u : HO} (g : Gr G ms H H1) (h0 : H p = none) (h : H1 p = some u) (hu : Plain u) : Gr G ms H (upd H1 p o) := by
  have ne : ∀ b v, H b = some v → b ≠ p := fun b v e z => by rw [z, h0] at e; cases e
  refine ⟨fun b v e g1 n => by rw [upd_ne (ne b v e)]; exact g.keep b v e g1 n, ⟨fun b v e => by rw [upd_ne (ne b _ e)]; exact g.tk.1 b v e, fun b v w e => by rw [upd_ne (ne b _ e)]; exact g.tk.2 b v w e⟩, fun b g1 t => ?_, fun b e => ?_⟩
  · obtain ⟨ps, e, r⟩ := t
    obtain ⟨ps', e', r'⟩ := g.tab b g1 ⟨ps, e, r⟩
    exact ⟨ps', by rw [upd_ne (ne b _ e)]; exact e', r'⟩
  · by_cases hb : b = p
    · rw [hb]; exact h0
    · rw [upd_ne hb] at e; exact g.dom b e
theorem Gr.tabbed {P : Addr} (hP : G P) (t : GxR.Tabbed P H H1) (h0 : GxR.TabG H P) : Gr G ms H H1 := by
  obtain ⟨ps, e0, r0⟩ := h0
  have ne : ∀ b v, H b = some v → (∀ q, v ≠ .tbl q) → b ≠ P := fun b v e n z => by
    rw [z, e0] at e
    cases e
    exact n ps rfl
  refine ⟨fun b v e n _ => by rw [t.2 b (show b ≠ P from fun z => n (by rw [z]; exact hP))]; exact e, ⟨fun b v e => by rw [t.2 b (ne b _ e (fun q z => by cases z))]; exact e, fun b v w e => by rw [t.2 b (ne b _ e (fun q z => by cases z))]; exact e⟩, fun b _ tb => ?_, fun b e => ?_⟩
  · by_cases hb : b = P
    · rw [hb]; exact t.1
    · obtain ⟨qs, e, r⟩ := tb
      exact ⟨qs, by rw [t.2 b hb]; exact e, r⟩
  · by_cases hb : b = P
    · obtain ⟨qs, e', _⟩ := t.1
      rw [hb, e'] at e; cases e
    · rw [t.2 b hb] at e; exact e
theorem Dt.up (g : Gr G ms H H1) {v : V} {d : PyData} (h : Dt K H v d) : Dt K H1 v d := Dt.tk g.tk d v h
theorem Da.up (g : Gr G ms H H1) {v : List V} {d : List PyData} (h : Da K H v d) : Da K H1 v d := Da.tk g.tk d v h
/-- the tables stand -/
def Tb (G : Addr → Prop) (H : Hp) : Prop := ∀ P, G P → GxR.TabG H P
theorem Tb.up (g : Gr G ms H H1) (t : Tb G H) : Tb G H1 := fun P hP => g.tab P hP (t P hP)
theorem Gr.free {p : Addr} (g : Gr G ms H H1) (h : H1 p = none) : H p = none := g.dom p h
theorem not_tab {b : Addr} {o : HO} (t : Tb G H) (h : H b = some o) (n : ∀ q, o ≠ .tbl q) : ¬ G b := fun z => by
  obtain ⟨ps, e, _⟩ := t b z
  rw [h] at e
  cases e
  exact n ps rfl
end

/-! ### what a slot or a result holds -/
inductive Sv where
  | u
  | v (x : V)
  | d (x : PyData)
  | l (a : Addr) (ds : List PyData)
def SvOk (K : PySem.W.Frag) (H : Hp) : Sv → Option V → Prop
  | .u, _ => True
  | .v x, o => o = some x
  | .d x, o => ∃ v, o = some v ∧ Dt K H v x
  | .l a ds, o => o = some (.ref a) ∧ ∃ vs, H a = some (.lst vs) ∧ Da K H vs ds ∧ vs.length ≤ sizeLine
def Sl (K : PySem.W.Frag) (H : Hp) : List Sv → L2.St → Prop
  | [], [] => True
  | r :: ρ, o :: σ => SvOk K H r o ∧ Sl K H ρ σ
  | _, _ => False
/-- the lists that are known are none of these -/
def Off (ms : List Addr) : Sv → Prop
  | .l a _ => a ∉ ms
  | _ => True
section
variable {G : Addr → Prop} {ms : List Addr} {K : PySem.W.Frag} {H H1 : Hp}
theorem SvOk.up {r : Sv} {o : Option V} (g : Gr G ms H H1) (t : Tb G H) (hr : Off ms r) (h : SvOk K H r o) : SvOk K H1 r o := by
  cases r with
  | u => trivial
  | v x => exact h
  | d x =>
    obtain ⟨v, e, q⟩ := h
    exact ⟨v, e, q.up g⟩
  | l a ds =>
    obtain ⟨e, vs, h1, h2, h3⟩ := h
    exact ⟨e, vs, g.keep a _ h1 (not_tab t h1 (fun q z => by cases z)) hr, h2.up g, h3⟩
theorem Sl.up : ∀ {ρ : List Sv} {σ : L2.St}, Gr G ms H H1 → Tb G H → (∀ r ∈ ρ, Off ms r) → Sl K H ρ σ → Sl K H1 ρ σ
  | [], [], _, _, _, _ => trivial
  | r :: ρ, o :: σ, g, t, hr, h => ⟨h.1.up g t (hr r List.mem_cons_self), Sl.up g t (fun r h => hr r (List.mem_cons_of_mem _ h)) h.2⟩
  | [], _ :: _, _, _, _, h => h.elim
  | _ :: _, [], _, _, _, h => h.elim
theorem Sl.len : ∀ {ρ : List Sv} {σ : L2.St}, Sl K H ρ σ → σ.length = ρ.length
  | [], [], _ => rfl
  | r :: ρ, o :: σ, h => congrArg Nat.succ (Sl.len h.2)
  | [], _ :: _, h => h.elim
  | _ :: _, [], h => h.elim
theorem Sl.get : ∀ {ρ : List Sv} {σ : L2.St} {i : Nat} {r : Sv}, Sl K H ρ σ → ρ[i]? = some r → ∃ o, σ[i]? = some o ∧ SvOk K H r o
  | [], [], _, _, _, e => by simp at e
  | s :: ρ, o :: σ, 0, r, h, e => by simp at e; subst e; exact ⟨o, rfl, h.1⟩
  | s :: ρ, o :: σ, i + 1, r, h, e => by
    obtain ⟨o', h1, h2⟩ := Sl.get (i := i) (r := r) h.2 (by simpa using e)
    exact ⟨o', by simpa using h1, h2⟩
  | [], _ :: _, _, _, h, _ => h.elim
  | _ :: _, [], _, _, h, _ => h.elim
theorem Sl.set : ∀ {ρ : List Sv} {σ : L2.St} {r : Sv} {o : Option V} (i : Nat), Sl K H ρ σ → SvOk K H r o → Sl K H (ρ.set i r) (σ.set i o)
  | [], [], _, _, _, _, _ => trivial
  | s :: ρ, o' :: σ, _, _, 0, h, q => ⟨q, h.2⟩
  | s :: ρ, o' :: σ, _, _, i + 1, h, q => ⟨h.1, Sl.set i h.2 q⟩
  | [], _ :: _, _, _, _, h, _ => h.elim
  | _ :: _, [], _, _, _, h, _ => h.elim
theorem Sl.nth : ∀ {ρ : List Sv} {σ : L2.St} {i : Nat} {r : Sv}, Sl K H ρ σ → ρ[i]? = some r → ∀ {o : Option V}, SvOk K H r o → σ[i]? = some o → True
  | _, _, _, _, _, _, _, _, _ => trivial
/-- σ from a list that changed: the other slots' lists are elsewhere -/
theorem Sl.lst : ∀ {ρ : List Sv} {σ : L2.St} {a : Addr} {o : HO} {u : HO}, Sl K H ρ σ → H a = some u → Plain u → (∀ r ∈ ρ, Off [a] r) → Sl K (upd H a o) ρ σ
  | [], [], _, _, _, _, _, _, _ => trivial
  | r :: ρ, q :: σ, a, o, u, h, ha, hu, hr => by
    refine ⟨?_, Sl.lst h.2 ha hu fun r h => hr r (List.mem_cons_of_mem _ h)⟩
    have g : Gr (fun _ => False) [a] H (upd H a o) := Gr.put ha hu (by simp)
    exact h.1.up g (fun _ z => z.elim) (hr r List.mem_cons_self)
  | [], _ :: _, _, _, _, h, _, _, _ => h.elim
  | _ :: _, [], _, _, _, h, _, _, _ => h.elim
end

/-! ### assertions -/
/-- what growth keeps -/
structure As (G : Addr → Prop) where
  P : Hp → Prop
  up : ∀ {H H' : Hp}, Gr G [] H H' → Tb G H → P H → P H'
/-- the heap as it was at the entry, but for ms -/
def As.from (G : Addr → Prop) (ms : List Addr) (H0 : Hp) : As G := ⟨fun H => Gr G ms H0 H, fun g _ h => h.trans g.wide⟩
def As.and {G : Addr → Prop} (A B : As G) : As G := ⟨fun H => A.P H ∧ B.P H, fun g t h => ⟨A.up g t h.1, B.up g t h.2⟩⟩
end Wb

/-! The judgements over the text's own trees, and their rules. -/
namespace Wb
open PySem PySem.Spec PyProof.Rows L2

section
variable {X : Cx} {G : Addr → Prop} {ρ : List Sv} {J : As G}
/-! ### the strongest reading of a tree -/
def cE (X : Cx) (e : Expr) : TE := fun σ H Q => ∃ t, PE X e t ∧ t σ H Q
def cT (X : Cx) (e : Expr) : TT := fun σ H Q => ∃ t, PT X e t ∧ t σ H Q
def cW (X : Cx) (e : Expr) : TT := fun σ H Q => ∃ t, PW X e t ∧ t σ H Q
def cA (X : Cx) (es : List Expr) : TA := fun σ H Q => ∃ t, PA X es t ∧ t σ H Q
def cO (X : Cx) (e : Option Expr) : TO := fun σ H Q => ∃ t, PO X e t ∧ t σ H Q
def cS (X : Cx) (st : Stmt) : TS := fun D σ H => ∃ t, PS X st t ∧ t D σ H
def cSs (X : Cx) (st : List Stmt) : TS := fun D σ H => ∃ t, PSs X st t ∧ t D σ H
theorem pe_c {e : Expr} : PE X e (cE X e) := ⟨fun pins s σ H Q I h => let ⟨_, h1, h2⟩ := h; h1.run pins s σ H Q I h2⟩
theorem pt_c {e : Expr} : PT X e (cT X e) := ⟨fun pins s σ H Q I h => let ⟨_, h1, h2⟩ := h; h1.run pins s σ H Q I h2⟩
theorem pw_c {e : Expr} : PW X e (cW X e) := ⟨fun w pins s σ H Q I h => let ⟨_, h1, h2⟩ := h; h1.run w pins s σ H Q I h2⟩
theorem pa_c {es : List Expr} : PA X es (cA X es) := ⟨fun pos pins s σ H Q I h => let ⟨_, h1, h2⟩ := h; h1.run pos pins s σ H Q I h2⟩
theorem po_c {e : Option Expr} : PO X e (cO X e) := ⟨fun pins s σ H Q I h => let ⟨_, h1, h2⟩ := h; h1.run pins s σ H Q I h2⟩
theorem ps_c {st : Stmt} : PS X st (cS X st) := ⟨fun pins s σ H D I h => let ⟨_, h1, h2⟩ := h; h1.run pins s σ H D I h2⟩
theorem pss_c {st : List Stmt} : PSs X st (cSs X st) := ⟨fun pins s σ H D I h => let ⟨_, h1, h2⟩ := h; h1.run pins s σ H D I h2⟩

/-! ### pure: nothing changes but that the heap may grow -/
def Ed (X : Cx) (G : Addr → Prop) (e : Expr) (ρ : List Sv) (J : As G) (r : Sv) : Prop := ∀ (σ : L2.St) (H : Hp) (Q : VK), Sl X.K H ρ σ → Tb G H → J.P H → (∀ v H', SvOk X.K H' r (some v) → Gr G [] H H' → Q v H') → cE X e σ H Q
def SvA (K : PySem.W.Frag) (H : Hp) : List Sv → List V → Prop
  | [], [] => True
  | r :: rs, v :: vs => SvOk K H r (some v) ∧ SvA K H rs vs
  | _, _ => False
def Ea (X : Cx) (G : Addr → Prop) (es : List Expr) (ρ : List Sv) (J : As G) (rs : List Sv) : Prop := ∀ (σ : L2.St) (H : Hp) (Q : List V → Hp → Prop), Sl X.K H ρ σ → Tb G H → J.P H → (∀ vs H', SvA X.K H' rs vs → Gr G [] H H' → Q vs H') → cA X es σ H Q
def Et (X : Cx) (G : Addr → Prop) (e : Expr) (ρ : List Sv) (J : As G) (b : Bool) : Prop := ∀ (σ : L2.St) (H : Hp) (Q : Bool → Hp → Prop), Sl X.K H ρ σ → Tb G H → J.P H → (∀ H', Gr G [] H H' → Q b H') → cT X e σ H Q
def Ew (X : Cx) (G : Addr → Prop) (e : Expr) (ρ : List Sv) (J : As G) (b : Bool) : Prop := ∀ (σ : L2.St) (H : Hp) (Q : Bool → Hp → Prop), Sl X.K H ρ σ → Tb G H → J.P H → (∀ H', Gr G [] H H' → Q b H') → cW X e σ H Q
def Eo (X : Cx) (G : Addr → Prop) (e : Option Expr) (ρ : List Sv) (J : As G) (o : Option Int) : Prop := ∀ (σ : L2.St) (H : Hp) (Q : Option Int → Hp → Prop), Sl X.K H ρ σ → Tb G H → J.P H → (∀ H', Gr G [] H H' → Q o H') → cO X e σ H Q
/-- a new list -/
def En (X : Cx) (G : Addr → Prop) (e : Expr) (ρ : List Sv) (J : As G) (ds : List PyData) : Prop := ∀ (σ : L2.St) (H : Hp) (Q : VK), Sl X.K H ρ σ → Tb G H → J.P H → (∀ a H', H a = none → SvOk X.K H' (.l a ds) (some (.ref a)) → Gr G [] H H' → Q (.ref a) H') → cE X e σ H Q

theorem off0 {r : Sv} : Off [] r := by cases r <;> simp [Off]
theorem Sl.g0 {K : PySem.W.Frag} {H H1 : Hp} {σ : L2.St} (h : Sl K H ρ σ) (g : Gr G [] H H1) (t : Tb G H) : Sl K H1 ρ σ := Sl.up g t (fun _ _ => off0) h
theorem SvOk.g0 {K : PySem.W.Frag} {H H1 : Hp} {r : Sv} {o : Option V} (h : SvOk K H r o) (g : Gr G [] H H1) (t : Tb G H) : SvOk K H1 r o := h.up g t off0
theorem SvA.g0 {K : PySem.W.Frag} {H H1 : Hp} (g : Gr G [] H H1) (t : Tb G H) : ∀ {rs : List Sv} {vs : List V}, SvA K H rs vs → SvA K H1 rs vs
  | [], [], _ => trivial
  | _ :: _, _ :: _, h => ⟨h.1.g0 g t, SvA.g0 g t h.2⟩
  | [], _ :: _, h => h.elim
  | _ :: _, [], h => h.elim
theorem SvA.ds {K : PySem.W.Frag} {H : Hp} : ∀ {ds : List PyData} {vs : List V}, SvA K H (ds.map Sv.d) vs → Da K H vs ds
  | [], [], _ => .nil
  | _ :: _, _ :: _, h => by
    obtain ⟨v, e, q⟩ := h.1
    cases e
    exact .cons q (SvA.ds h.2)
  | [], _ :: _, h => h.elim
  | _ :: _, [], h => h.elim
theorem SvA.of {K : PySem.W.Frag} {H : Hp} : ∀ {ds : List PyData} {vs : List V}, Da K H vs ds → SvA K H (ds.map Sv.d) vs
  | _, _, .nil => trivial
  | _, _, .cons h t => ⟨⟨_, rfl, h⟩, SvA.of t⟩

/-! ### expressions, by the form of their reading -/
theorem ed_c {e : Expr} {v : V} {r : Sv} (hp : PE X e (tC v)) (h : ∀ H, SvOk X.K H r (some v)) : Ed X G e ρ J r := fun σ H Q _ _ _ q => ⟨_, hp, q v H (h H) Gr.refl⟩
theorem ed_un {e a : Expr} {r : V → Hp → VK → Prop} {x z : Sv} (hp : PE X e (tUn r (cE X a))) (ha : Ed X G a ρ J x)
    (h : ∀ v H Q, SvOk X.K H x (some v) → Tb G H → J.P H → (∀ u H', SvOk X.K H' z (some u) → Gr G [] H H' → Q u H') → r v H Q) : Ed X G e ρ J z := fun σ H Q hs ht hj q =>
  ⟨_, hp, ha σ H _ hs ht hj fun v H1 s1 g1 => h v H1 Q s1 (ht.up g1) (J.up g1 ht hj) fun u H2 s2 g2 => q u H2 s2 (g1.trans g2)⟩
theorem ed_bin {e a b : Expr} {r : R2} {x y z : Sv} (hp : PE X e (tOp r (cE X a) (cE X b))) (ha : Ed X G a ρ J x) (hb : Ed X G b ρ J y)
    (h : ∀ v w H Q, SvOk X.K H x (some v) → SvOk X.K H y (some w) → Tb G H → J.P H → (∀ u H', SvOk X.K H' z (some u) → Gr G [] H H' → Q u H') → r v w H Q) : Ed X G e ρ J z := fun σ H Q hs ht hj q =>
  ⟨_, hp, ha σ H _ hs ht hj fun v H1 s1 g1 => hb σ H1 _ (hs.g0 g1 ht) (ht.up g1) (J.up g1 ht hj) fun w H2 s2 g2 =>
    h v w H2 Q (s1.g0 g2 (ht.up g1)) s2 (ht.up (g1.trans g2)) (J.up (g1.trans g2) ht hj) fun u H3 s3 g3 => q u H3 s3 (g1.trans (g2.trans g3))⟩
theorem en_bin {e a b : Expr} {r : R2} {x y : Sv} {ds : List PyData} (hp : PE X e (tOp r (cE X a) (cE X b))) (ha : Ed X G a ρ J x) (hb : Ed X G b ρ J y)
    (h : ∀ v w H Q, SvOk X.K H x (some v) → SvOk X.K H y (some w) → Tb G H → J.P H → (∀ p H', H p = none → SvOk X.K H' (.l p ds) (some (.ref p)) → Gr G [] H H' → Q (.ref p) H') → r v w H Q) : En X G e ρ J ds := fun σ H Q hs ht hj q =>
  ⟨_, hp, ha σ H _ hs ht hj fun v H1 s1 g1 => hb σ H1 _ (hs.g0 g1 ht) (ht.up g1) (J.up g1 ht hj) fun w H2 s2 g2 =>
    h v w H2 Q (s1.g0 g2 (ht.up g1)) s2 (ht.up (g1.trans g2)) (J.up (g1.trans g2) ht hj) fun p H3 hp s3 g3 => q p H3 ((g1.trans g2).free hp) s3 (g1.trans (g2.trans g3))⟩
theorem ed_cb {e : Expr} {es : List Expr} {r : List V → Hp → VK → Prop} {xs : List Sv} {z : Sv} (hp : PE X e (tCB r (cA X es))) (ha : Ea X G es ρ J xs)
    (h : ∀ vs H Q, SvA X.K H xs vs → Tb G H → J.P H → (∀ u H', SvOk X.K H' z (some u) → Gr G [] H H' → Q u H') → r vs H Q) : Ed X G e ρ J z := fun σ H Q hs ht hj q =>
  ⟨_, hp, ha σ H _ hs ht hj fun vs H1 s1 g1 => h vs H1 Q s1 (ht.up g1) (J.up g1 ht hj) fun u H2 s2 g2 => q u H2 s2 (g1.trans g2)⟩
theorem ed_name (i : Nat) {x : Str} {pos : Pos} {r : Sv} (hr : ρ[i]? = some r := by rfl) (hN : X.N[i]? = some x := by rfl) (hv : Vis X.env.scope x := by first | exact Or.inl rfl | exact Or.inr (Or.inl rfl) | exact Or.inr (Or.inr rfl))
    (hu : r ≠ .u := by exact nofun) (hd : (x == ("__debug__" : Str)) = false := by decide) (hcd : (x == ("__classdict__" : Str)) = false := by decide) : Ed X G (.Name x pos) ρ J r := fun σ H Q hs ht hj q => by
  obtain ⟨o, e, ok⟩ := hs.get hr
  have hex : ∃ v, o = some v := by
    cases r with
    | u => exact absurd rfl hu
    | v x => exact ⟨_, ok⟩
    | d x => obtain ⟨v, e, _⟩ := ok; exact ⟨v, e⟩
    | l a ds => exact ⟨_, ok.1⟩
  obtain ⟨v, rfl⟩ := hex
  exact ⟨_, pe_var (i := i) hN hv hd hcd, v, e, q v H ok Gr.refl⟩
theorem ed_int {i : Int} {j : Nat} {pos : Pos} : Ed X G (.Constant (.int i) j pos) ρ J (.d (.int i)) := ed_c pe_int fun H => ⟨_, rfl, .int i⟩
theorem ed_str {x : Str} {j : Nat} {pos : Pos} : Ed X G (.Constant (.str x) j pos) ρ J (.d (.str x)) := ed_c pe_str fun H => ⟨_, rfl, .str x⟩
theorem ed_non {j : Nat} {pos : Pos} : Ed X G (.Constant .none j pos) ρ J (.d .none) := ed_c pe_non fun H => ⟨_, rfl, .non⟩
theorem ed_bl {b : Bool} {j : Nat} {pos : Pos} : Ed X G (.Constant (.bool b) j pos) ρ J (.d (.bool b)) := ed_c pe_bl fun H => ⟨_, rfl, .bl b⟩
theorem ea_nil : Ea X G [] ρ J [] := fun σ H Q _ _ _ q => ⟨_, pa_nil, q [] H trivial Gr.refl⟩
theorem ea_cons {e : Expr} {es : List Expr} {r : Sv} {rs : List Sv} (h : Ed X G e ρ J r) (hr : Ea X G es ρ J rs) (hs : starEach (e :: es) X.env = (false, eval e X.env) :: starEach es X.env := by rfl) : Ea X G (e :: es) ρ J (r :: rs) := fun σ H Q s t j q =>
  ⟨_, pa_cons pe_c pa_c hs, h σ H _ s t j fun v H1 s1 g1 => hr σ H1 _ (s.g0 g1 t) (t.up g1) (J.up g1 t j) fun vs H2 s2 g2 => q (v :: vs) H2 ⟨s1.g0 g2 (t.up g1), s2⟩ (g1.trans g2)⟩
theorem Ed.to' {e : Expr} {r r' : Sv} (h : Ed X G e ρ J r) (e' : r = r') : Ed X G e ρ J r' := e' ▸ h
/-! ints -/
theorem ed_add {a b : Expr} {i j : Int} {pos : Pos} (ha : Ed X G a ρ J (.d (.int i))) (hb : Ed X G b ρ J (.d (.int j))) : Ed X G (.BinOp a .Add b pos) ρ J (.d (.int (i + j))) :=
  ed_bin (pe_op op_add pe_c pe_c) ha hb fun v w H Q h1 h2 _ _ q => by
    obtain ⟨_, e1, d1⟩ := h1
    obtain ⟨_, e2, d2⟩ := h2
    cases e1; cases e2; cases d1; cases d2
    exact ⟨i, j, rfl, rfl, q _ H ⟨_, rfl, .int _⟩ Gr.refl⟩
theorem ed_sub {a b : Expr} {i j : Int} {pos : Pos} (ha : Ed X G a ρ J (.d (.int i))) (hb : Ed X G b ρ J (.d (.int j))) : Ed X G (.BinOp a .Sub b pos) ρ J (.d (.int (i - j))) :=
  ed_bin (pe_op op_sub pe_c pe_c) ha hb fun v w H Q h1 h2 _ _ q => by
    obtain ⟨_, e1, d1⟩ := h1
    obtain ⟨_, e2, d2⟩ := h2
    cases e1; cases e2; cases d1; cases d2
    exact ⟨i, j, rfl, rfl, q _ H ⟨_, rfl, .int _⟩ Gr.refl⟩
theorem ed_neg {a : Expr} {i : Int} {pos : Pos} (ha : Ed X G a ρ J (.d (.int i))) : Ed X G (.UnaryOp .USub a pos) ρ J (.d (.int (-i))) :=
  ed_un (pe_un un_neg pe_c) ha fun v H Q h1 _ _ q => by
    obtain ⟨_, e1, d1⟩ := h1
    cases e1; cases d1
    exact ⟨i, rfl, q _ H ⟨_, rfl, .int _⟩ Gr.refl⟩
theorem ed_icmp {op : CmpOp} {a b : Expr} {i j : Int} {pos : Pos} {p : Int → Int → Bool} (ho : OpR X (compareOp op) (rI0 fun i j => .bl (p i j))) (ha : Ed X G a ρ J (.d (.int i))) (hb : Ed X G b ρ J (.d (.int j))) (hm : behindInMarks op b = false) : Ed X G (.Compare a [op] [b] pos) ρ J (.d (.bool (p i j))) :=
  ed_bin (pe_cmpR ho pe_c pe_c hm) ha hb fun v w H Q h1 h2 _ _ q => by
    obtain ⟨_, e1, d1⟩ := h1
    obtain ⟨_, e2, d2⟩ := h2
    cases e1; cases e2; cases d1; cases d2
    exact ⟨i, j, rfl, rfl, q _ H ⟨_, rfl, .bl _⟩ Gr.refl⟩
theorem ed_lt {a b : Expr} {i j : Int} {pos : Pos} (ha : Ed X G a ρ J (.d (.int i))) (hb : Ed X G b ρ J (.d (.int j))) : Ed X G (.Compare a [.Lt] [b] pos) ρ J (.d (.bool (decide (i < j)))) := ed_icmp op_lt ha hb (nomark _)
theorem ed_gt {a b : Expr} {i j : Int} {pos : Pos} (ha : Ed X G a ρ J (.d (.int i))) (hb : Ed X G b ρ J (.d (.int j))) : Ed X G (.Compare a [.Gt] [b] pos) ρ J (.d (.bool (decide (j < i)))) := ed_icmp op_gt ha hb (nomark _)
theorem ed_ge {a b : Expr} {i j : Int} {pos : Pos} (ha : Ed X G a ρ J (.d (.int i))) (hb : Ed X G b ρ J (.d (.int j))) : Ed X G (.Compare a [.GtE] [b] pos) ρ J (.d (.bool (decide (j ≤ i)))) := ed_icmp op_ge ha hb (nomark _)
/-- a <= b <= c -/
theorem ed_chain {a b c : Expr} {i j k : Int} {pos : Pos} (ha : Ed X G a ρ J (.d (.int i))) (hb : Ed X G b ρ J (.d (.int j))) (hc : Ed X G c ρ J (.d (.int k))) (hm : lastMarks [.LtE, .LtE] [b, c] = false := by with_unfolding_all rfl) :
    Ed X G (.Compare a [.LtE, .LtE] [b, c] pos) ρ J (.d (.bool (decide (i ≤ j) && decide (j ≤ k)))) := fun σ H Q hs ht hj q => by
  refine ⟨_, pe_chain op_le op_le pe_c pe_c pe_c hm, ha σ H _ hs ht hj fun v H1 s1 g1 => hb σ H1 _ (hs.g0 g1 ht) (ht.up g1) (J.up g1 ht hj) fun w H2 s2 g2 => ?_⟩
  obtain ⟨_, e1, d1⟩ := s1
  obtain ⟨_, e2, d2⟩ := s2
  cases e1; cases e2; cases d1; cases d2
  have g12 := g1.trans g2
  refine ⟨i, j, rfl, rfl, _, rfl, ?_⟩
  by_cases h : i ≤ j
  · rw [if_pos (decide_eq_true h)]
    refine hc σ H2 _ (hs.g0 g12 ht) (ht.up g12) (J.up g12 ht hj) fun z H3 s3 g3 => ?_
    obtain ⟨_, e3, d3⟩ := s3
    cases e3; cases d3
    refine ⟨j, k, rfl, rfl, q _ H3 ⟨_, rfl, ?_⟩ (g12.trans g3)⟩
    rw [decide_eq_true h, Bool.true_and]
    exact .bl _
  · rw [if_neg (by rw [decide_eq_false h]; exact Bool.false_ne_true)]
    refine q _ H2 ⟨_, rfl, ?_⟩ g12
    rw [decide_eq_false h, Bool.false_and]
    exact .bl _
/-! None -/
def isN : PyData → Bool
  | .none => true
  | _ => false
theorem dec_non {K : PySem.W.Frag} {H : Hp} {v : V} {d : PyData} (h : Dt K H v d) : decide (v = .non) = isN d := by
  cases h <;> rfl
theorem ed_isN {a : Expr} {d : PyData} {k : Nat} {pos p2 : Pos} (ha : Ed X G a ρ J (.d d)) : Ed X G (.Compare a [.Is] [.Constant .none k p2] pos) ρ J (.d (.bool (isN d))) :=
  ed_bin (pe_cmpR op_isN pe_c pe_c (nomark _)) ha ed_non fun v w H Q h1 h2 _ _ q => by
    obtain ⟨_, e1, d1⟩ := h1
    obtain ⟨_, e2, d2⟩ := h2
    cases e1; cases e2; cases d2
    refine ⟨rfl, q _ H ⟨_, rfl, ?_⟩ Gr.refl⟩
    rw [dec_non d1]
    exact .bl _
theorem ed_notN {a : Expr} {d : PyData} {k : Nat} {pos p2 : Pos} (ha : Ed X G a ρ J (.d d)) : Ed X G (.Compare a [.IsNot] [.Constant .none k p2] pos) ρ J (.d (.bool (!isN d))) :=
  ed_bin (pe_cmpR op_notN pe_c pe_c (nomark _)) ha ed_non fun v w H Q h1 h2 _ _ q => by
    obtain ⟨_, e1, d1⟩ := h1
    obtain ⟨_, e2, d2⟩ := h2
    cases e1; cases e2; cases d2
    refine ⟨rfl, q _ H ⟨_, rfl, ?_⟩ Gr.refl⟩
    rw [dec_non d1]
    exact .bl _
/-! == of data -/
theorem hu64 {k : Nat} {A : Around} (hr : Room k A) : A.units + 64 < cLine := hr.units
theorem hu65 {k : Nat} {A : Around} (hr : Room k A) : A.units + 65 < cLine := by have := hr.un; omega
theorem ed_eq {a b : Expr} {d e : PyData} {pos : Pos} {k : Nat} (hr : Room k X.A) (ha : Ed X G a ρ J (.d d)) (hb : Ed X G b ρ J (.d e)) (sd : SeqAt.shaped d = true) (se : SeqAt.shaped e = true) : Ed X G (.Compare a [.Eq] [b] pos) ρ J (.d (.bool (PyData.eqv d e))) :=
  ed_bin (pe_cmpR (op_eqD (hu64 hr)) pe_c pe_c (nomark _)) ha hb fun v w H Q h1 h2 _ _ q => by
    obtain ⟨_, e1, d1⟩ := h1
    obtain ⟨_, e2, d2⟩ := h2
    cases e1; cases e2
    exact ⟨d, e, Dt.dp _ _ d1, Dt.dp _ _ d2, sd, se, q _ H ⟨_, rfl, .bl _⟩ Gr.refl⟩
theorem ed_ne {a b : Expr} {d e : PyData} {pos : Pos} {k : Nat} (hr : Room k X.A) (ha : Ed X G a ρ J (.d d)) (hb : Ed X G b ρ J (.d e)) (sd : SeqAt.shaped d = true) (se : SeqAt.shaped e = true) : Ed X G (.Compare a [.NotEq] [b] pos) ρ J (.d (.bool (!PyData.eqv d e))) :=
  ed_bin (pe_cmpR (op_neD (hu64 hr)) pe_c pe_c (nomark _)) ha hb fun v w H Q h1 h2 _ _ q => by
    obtain ⟨_, e1, d1⟩ := h1
    obtain ⟨_, e2, d2⟩ := h2
    cases e1; cases e2
    exact ⟨d, e, Dt.dp _ _ d1, Dt.dp _ _ d2, sd, se, q _ H ⟨_, rfl, .bl _⟩ Gr.refl⟩
/-! tuples -/
theorem ed_tup {es : List Expr} {ds : List PyData} {k : Nat} {pos : Pos} (h : Ea X G es ρ J (ds.map Sv.d)) (hl : ds.length ≤ 1000) : Ed X G (.Tuple es k pos) ρ J (.d (.tuple ds)) := fun σ H Q hs ht hj q =>
  ⟨_, pe_tup pa_c, h σ H _ hs ht hj fun vs H1 s1 g1 => by
    have a := SvA.ds s1
    have e := a.len
    refine ⟨Nat.le_trans (by omega) (show 1000 ≤ sizeLine by decide), fun p hp => q _ _ ⟨_, rfl, .tup (SqT.of upd_same) (a.up (Gr.new (G := G) (ms := []) hp))⟩ (g1.trans (Gr.new hp))⟩⟩
theorem ed_cat {a b : Expr} {ds es : List PyData} {pos : Pos} (ha : Ed X G a ρ J (.d (.tuple ds))) (hb : Ed X G b ρ J (.d (.tuple es))) (hl : ds.length + es.length ≤ 100000) : Ed X G (.BinOp a .Add b pos) ρ J (.d (.tuple (ds ++ es))) :=
  ed_bin (pe_op op_catA pe_c pe_c) ha hb fun v w H Q h1 h2 _ _ q => by
    obtain ⟨_, e1, d1⟩ := h1
    obtain ⟨_, e2, d2⟩ := h2
    cases e1; cases e2
    obtain ⟨p, xs, rfl, s1, a1⟩ := d1.tup_inv
    obtain ⟨p', ys, rfl, s2, a2⟩ := d2.tup_inv
    have l1 := a1.len
    have l2 := a2.len
    refine ⟨p, p', xs, ys, rfl, rfl, s1, s2, Nat.le_trans (by omega) (show 100000 ≤ sizeLine by decide), fun e => ?_, fun _ e => ?_, fun _ _ n hn => ?_⟩
    · subst e
      have e2 : ds = [] := List.length_eq_zero_iff.mp l1.symm
      subst e2
      exact q _ H ⟨_, rfl, .tup s2 a2⟩ Gr.refl
    · subst e
      have e2 : es = [] := List.length_eq_zero_iff.mp l2.symm
      subst e2
      rw [List.append_nil] at q
      exact q _ H ⟨_, rfl, .tup s1 a1⟩ Gr.refl
    · exact q _ _ ⟨_, rfl, .tup (SqT.of upd_same) ((a1.app a2).up (Gr.new (G := G) (ms := []) hn))⟩ (Gr.new hn)
theorem ed_ix {a b : Expr} {ds : List PyData} {d : PyData} {i : Nat} {pos : Pos} (ha : Ed X G a ρ J (.d (.tuple ds))) (hb : Ed X G b ρ J (.d (.int (i : Nat)))) (hd : ds[i]? = some d) (hs : PlainIx b := by exact fun _ _ => rfl) : Ed X G (.Subscript a b pos) ρ J (.d d) :=
  ed_bin (pe_ix ix_tup pe_c pe_c hs) ha hb fun v w H Q h1 h2 _ _ q => by
    obtain ⟨_, e1, d1⟩ := h1
    obtain ⟨_, e2, d2⟩ := h2
    cases e1; cases e2; cases d2
    obtain ⟨p, xs, rfl, s1, a1⟩ := d1.tup_inv
    obtain ⟨z, hz, q1⟩ := a1.get hd
    exact ⟨p, xs, _, z, rfl, rfl, s1, atI_nat hz, q _ H ⟨_, rfl, q1⟩ Gr.refl⟩
/-- the place is written -/
theorem ed_ixc {a : Expr} {ds : List PyData} {d : PyData} {i : Int} {j : Nat} {pos p2 : Pos} (ha : Ed X G a ρ J (.d (.tuple ds))) (hd : ds[i.toNat]? = some d) (hi : 0 ≤ i := by decide) : Ed X G (.Subscript a (.Constant (.int i) j p2) pos) ρ J (.d d) :=
  ed_ix (i := i.toNat) ha (ed_int.to' (by rw [Int.toNat_of_nonneg hi])) hd (fun _ _ => rfl)
theorem atI_lst {α : Type} {xs : List α} {v : α} (h : xs.getLast? = some v) : atI xs (-1) = some v := by
  obtain ⟨ys, rfl⟩ := List.getLast?_eq_some_iff.mp h
  exact atI_last ys v
theorem Da.last {K : PySem.W.Frag} {H : Hp} {vs : List V} {ds : List PyData} {d : PyData} (a : Da K H vs ds) (h : ds.getLast? = some d) : ∃ v, vs.getLast? = some v ∧ Dt K H v d := by
  rw [List.getLast?_eq_getElem?] at h
  obtain ⟨v, e, q⟩ := a.get h
  refine ⟨v, ?_, q⟩
  rw [List.getLast?_eq_getElem?, a.len]
  exact e
theorem ed_ixl {a : Expr} {ds : List PyData} {d : PyData} {pos p2 : Pos} {j : Nat} (ha : Ed X G a ρ J (.d (.tuple ds))) (hd : ds.getLast? = some d) (hs : PlainIx (.UnaryOp .USub (.Constant (.int 1) j p2) pos) := by exact fun _ _ => rfl) {pos' : Pos} : Ed X G (.Subscript a (.UnaryOp .USub (.Constant (.int 1) j p2) pos) pos') ρ J (.d d) :=
  ed_bin (pe_ix ix_tup pe_c pe_c hs) ha (ed_neg ed_int) fun v w H Q h1 h2 _ _ q => by
    obtain ⟨_, e1, d1⟩ := h1
    obtain ⟨_, e2, d2⟩ := h2
    cases e1; cases e2; cases d2
    obtain ⟨p, xs, rfl, s1, a1⟩ := d1.tup_inv
    obtain ⟨z, hz, q1⟩ := a1.last hd
    exact ⟨p, xs, _, z, rfl, rfl, s1, atI_lst hz, q _ H ⟨_, rfl, q1⟩ Gr.refl⟩
/-- a part of a slice -/
theorem eo_none : Eo X G none ρ J none := fun σ H Q _ _ _ q => ⟨_, po_none, q H Gr.refl⟩
theorem eo_some {e : Expr} {i : Int} (h : Ed X G e ρ J (.d (.int i))) : Eo X G (some e) ρ J (some i) := fun σ H Q hs ht hj q => ⟨_, po_some pe_c, h σ H _ hs ht hj fun v H1 s1 g1 => by
  obtain ⟨_, e1, d1⟩ := s1
  cases e1; cases d1
  exact ⟨i, rfl, q H1 g1⟩⟩
def cutD (ds : List PyData) (lo hi : Option Int) : List PyData := (ds.drop (HT.sIx ds.length 0 lo)).take (HT.sIx ds.length ds.length hi - HT.sIx ds.length 0 lo)
theorem Da.cut {K : PySem.W.Frag} {H : Hp} {vs : List V} {ds : List PyData} (a : Da K H vs ds) (lo hi : Option Int) : Da K H (cutV vs lo hi) (cutD ds lo hi) := by
  unfold cutV cutD
  rw [a.len]
  exact (a.drop _).take _
theorem ed_sl {e : Expr} {lo hi : Option Expr} {l u : Option Int} {ds : List PyData} {pos p2 : Pos} (he : Ed X G e ρ J (.d (.tuple ds))) (hl : Eo X G lo ρ J l) (hu : Eo X G hi ρ J u) : Ed X G (.Subscript e (.Slice lo hi none p2) pos) ρ J (.d (.tuple (cutD ds l u))) := fun σ H Q hs ht hj q => by
  refine ⟨_, pe_slice sl_tupA pe_c po_c po_c, he σ H _ hs ht hj fun v H1 s1 g1 => hl σ H1 _ (hs.g0 g1 ht) (ht.up g1) (J.up g1 ht hj) fun H2 g2 => hu σ H2 _ (hs.g0 (g1.trans g2) ht) (ht.up (g1.trans g2)) (J.up (g1.trans g2) ht hj) fun H3 g3 => ?_⟩
  have g := g1.trans (g2.trans g3)
  obtain ⟨_, e1, d1⟩ := s1.g0 (g2.trans g3) (ht.up g1)
  cases e1
  obtain ⟨p, xs, rfl, s1, a1⟩ := d1.tup_inv
  refine ⟨p, xs, rfl, s1, fun h => ?_, fun _ n hn => ?_⟩
  · refine q _ H3 ⟨_, rfl, .tup s1 ?_⟩ g
    have e : cutD ds l u = ds := by
      unfold cutD
      rw [← a1.len, h.1, h.2, a1.len]
      simp
    rw [e]
    exact a1
  · exact q _ _ ⟨_, rfl, .tup (SqT.of upd_same) ((a1.cut l u).up (Gr.new (G := G) (ms := []) hn))⟩ (g.trans (Gr.new hn))
/-! lists -/
theorem ed_ixL {a b : Expr} {p : Addr} {ds : List PyData} {d : PyData} {i : Nat} {pos : Pos} (ha : Ed X G a ρ J (.l p ds)) (hb : Ed X G b ρ J (.d (.int (i : Nat)))) (hd : ds[i]? = some d) (hs : PlainIx b := by exact fun _ _ => rfl) : Ed X G (.Subscript a b pos) ρ J (.d d) :=
  ed_bin (pe_ix ix_list pe_c pe_c hs) ha hb fun v w H Q h1 h2 _ _ q => by
    obtain ⟨e1, xs, hx, a1, _⟩ := h1
    obtain ⟨_, e2, d2⟩ := h2
    cases e1; cases e2; cases d2
    obtain ⟨z, hz, q1⟩ := a1.get hd
    exact ⟨p, xs, _, z, rfl, rfl, SqL.of hx, atI_nat hz, q _ H ⟨_, rfl, q1⟩ Gr.refl⟩
theorem ed_ixLl {a : Expr} {p : Addr} {ds : List PyData} {d : PyData} {pos p2 : Pos} {j : Nat} (ha : Ed X G a ρ J (.l p ds)) (hd : ds.getLast? = some d) (hs : PlainIx (.UnaryOp .USub (.Constant (.int 1) j p2) pos) := by exact fun _ _ => rfl) {pos' : Pos} : Ed X G (.Subscript a (.UnaryOp .USub (.Constant (.int 1) j p2) pos) pos') ρ J (.d d) :=
  ed_bin (pe_ix ix_list pe_c pe_c hs) ha (ed_neg ed_int) fun v w H Q h1 h2 _ _ q => by
    obtain ⟨e1, xs, hx, a1, _⟩ := h1
    obtain ⟨_, e2, d2⟩ := h2
    cases e1; cases e2; cases d2
    obtain ⟨z, hz, q1⟩ := a1.last hd
    exact ⟨p, xs, _, z, rfl, rfl, SqL.of hx, atI_lst hz, q _ H ⟨_, rfl, q1⟩ Gr.refl⟩
theorem en_lst {es : List Expr} {ds : List PyData} {pos : Pos} (h : Ea X G es ρ J (ds.map Sv.d)) (hl : ds.length ≤ 1000) : En X G (.List es pos) ρ J ds := fun σ H Q hs ht hj q =>
  ⟨_, pe_lst pa_c, h σ H _ hs ht hj fun vs H1 s1 g1 => by
    have a := SvA.ds s1
    have e := a.len
    have z : vs.length ≤ sizeLine := Nat.le_trans (by omega) (show 1000 ≤ sizeLine by decide)
    exact ⟨z, fun p hp => q p _ (g1.free hp) ⟨rfl, vs, upd_same, a.up (Gr.new (G := G) (ms := []) hp), z⟩ (g1.trans (Gr.new hp))⟩⟩
theorem Nm.len {e : Expr} {p pos : Pos} (hm : X.mg "len" = none) (hg : Gl X "len" := by rfl) (he : starEach [e] X.env = (false, eval e X.env) :: starEach [] X.env := by rfl) (hpl : (backTo pos (starEach [] X.env)).any (·.1) = false := by rfl) :
    PE X (.Call (.Name "len" p) [e] [] pos) (tCB (fun xs H Q => ∃ p ys, xs = [.ref p] ∧ (SqL X.K H p ys ∨ SqT X.K H p ys) ∧ Q (.int ys.length) H) (cA X [e])) := pe_callB call_len_seq hg hm boot_len pa_c (by decide) (by decide) he hpl
theorem ed_lenT {e : Expr} {ds : List PyData} {p pos : Pos} (hm : X.mg "len" = none) (h : Ed X G e ρ J (.d (.tuple ds))) (hg : Gl X "len" := by rfl) (he : starEach [e] X.env = (false, eval e X.env) :: starEach [] X.env := by rfl) (hpl : (backTo pos (starEach [] X.env)).any (·.1) = false := by rfl) :
    Ed X G (.Call (.Name "len" p) [e] [] pos) ρ J (.d (.int (ds.length : Nat))) :=
  ed_cb (Nm.len hm hg he hpl) (ea_cons h ea_nil he) fun vs H Q s _ _ q => by
    match vs, s with
    | [v], s =>
      obtain ⟨_, e1, d1⟩ := s.1
      cases e1
      obtain ⟨a, xs, rfl, s1, a1⟩ := d1.tup_inv
      refine ⟨a, xs, rfl, .inr s1, q _ H ⟨_, rfl, ?_⟩ Gr.refl⟩
      rw [a1.len]
      exact .int _
theorem ed_lenL {e : Expr} {a : Addr} {ds : List PyData} {p pos : Pos} (hm : X.mg "len" = none) (h : Ed X G e ρ J (.l a ds)) (hg : Gl X "len" := by rfl) (he : starEach [e] X.env = (false, eval e X.env) :: starEach [] X.env := by rfl) (hpl : (backTo pos (starEach [] X.env)).any (·.1) = false := by rfl) :
    Ed X G (.Call (.Name "len" p) [e] [] pos) ρ J (.d (.int (ds.length : Nat))) :=
  ed_cb (Nm.len hm hg he hpl) (ea_cons h ea_nil he) fun vs H Q s _ _ q => by
    match vs, s with
    | [v], s =>
      obtain ⟨e1, xs, hx, a1, _⟩ := s.1
      cases e1
      refine ⟨a, xs, rfl, .inl (SqL.of hx), q _ H ⟨_, rfl, ?_⟩ Gr.refl⟩
      rw [a1.len]
      exact .int _
/-- tuple(list) -/
theorem ed_tupleL {e : Expr} {a : Addr} {ds : List PyData} {p pos : Pos} (hm : X.mg "tuple" = none) (h : Ed X G e ρ J (.l a ds)) (hg : Gl X "tuple" := by rfl) (he : starEach [e] X.env = (false, eval e X.env) :: starEach [] X.env := by rfl) (hpl : (backTo pos (starEach [] X.env)).any (·.1) = false := by rfl) :
    Ed X G (.Call (.Name "tuple" p) [e] [] pos) ρ J (.d (.tuple ds)) :=
  ed_cb (pe_callTy call_tuple_of hg hm (by decide +kernel) pa_c (by decide) (by decide) he hpl) (ea_cons h ea_nil he) fun vs H Q s _ _ q => by
    match vs, s with
    | [v], s =>
      obtain ⟨e1, xs, hx, a1, _⟩ := s.1
      cases e1
      exact ⟨a, xs, rfl, .inl ⟨SqL.of hx, fun l hl => q _ _ ⟨_, rfl, .tup (SqT.of upd_same) (a1.up (Gr.new (G := G) (ms := []) hl))⟩ (Gr.new hl)⟩⟩
/-! ### tests -/
theorem et_val {e : Expr} {b : Bool} (h : Ed X G e ρ J (.d (.bool b))) (he : ∀ whole, isTrue e X.env whole = (do let v ← whole; standAt e.pos; holding [v] (truthy v)) := by intro _; rfl) : Et X G e ρ J b := fun σ H Q hs ht hj q =>
  ⟨_, pt_val pe_c he, h σ H _ hs ht hj fun v H1 s1 g1 => by
    obtain ⟨_, e1, d1⟩ := s1
    cases e1; cases d1
    exact ⟨b, rfl, q H1 g1⟩⟩
theorem et_cmp {op : CmpOp} {a b : Expr} {pos : Pos} {r : R2} {c : Bool} {x y : Sv} (ho : OpR X (compareOp op) r) (ha : Ed X G a ρ J x) (hb : Ed X G b ρ J y) (hm : behindInMarks op b = false)
    (h : ∀ v w H Q, SvOk X.K H x (some v) → SvOk X.K H y (some w) → Tb G H → J.P H → (∀ u H', SvOk X.K H' (.d (.bool c)) (some u) → Gr G [] H H' → Q u H') → r v w H Q) : Et X G (.Compare a [op] [b] pos) ρ J c := fun σ H Q hs ht hj q =>
  ⟨_, pt_cmpR ho pe_c pe_c hm, ha σ H _ hs ht hj fun v H1 s1 g1 => hb σ H1 _ (hs.g0 g1 ht) (ht.up g1) (J.up g1 ht hj) fun w H2 s2 g2 =>
    h v w H2 _ (s1.g0 g2 (ht.up g1)) s2 (ht.up (g1.trans g2)) (J.up (g1.trans g2) ht hj) fun u H3 s3 g3 => by
      obtain ⟨_, e1, d1⟩ := s3
      cases e1; cases d1
      exact ⟨c, rfl, q H3 (g1.trans (g2.trans g3))⟩⟩
theorem et_not {e : Expr} {b : Bool} {pos : Pos} (h : Et X G e ρ J b) : Et X G (.UnaryOp .Not e pos) ρ J (!b) := fun σ H Q hs ht hj q => ⟨_, pt_not pt_c, h σ H _ hs ht hj fun H1 g1 => q H1 g1⟩
theorem et_w {e : Expr} {b : Bool} (h : Ew X G e ρ J b) : Et X G e ρ J b := fun σ H Q hs ht hj q => ⟨_, PW.pt pw_c, h σ H Q hs ht hj q⟩
theorem ew_and1 {a : Expr} {b : Bool} {pos : Pos} (h : Et X G a ρ J b) : Ew X G (.BoolOp .And [a] pos) ρ J b := fun σ H Q hs ht hj q => ⟨_, pw_and1 pt_c, h σ H Q hs ht hj q⟩
theorem ew_or1 {a : Expr} {b : Bool} {pos : Pos} (h : Et X G a ρ J b) : Ew X G (.BoolOp .Or [a] pos) ρ J b := fun σ H Q hs ht hj q => ⟨_, pw_or1 pt_c, h σ H Q hs ht hj q⟩
theorem ew_and {a b : Expr} {rest : List Expr} {x y : Bool} {pos : Pos} (h : Et X G a ρ J x) (h2 : x = true → Ew X G (.BoolOp .And (b :: rest) pos) ρ J y) : Ew X G (.BoolOp .And (a :: b :: rest) pos) ρ J (x && y) := fun σ H Q hs ht hj q =>
  ⟨_, pw_and pt_c pw_c, h σ H _ hs ht hj fun H1 g1 => by
    cases x with
    | true => exact h2 rfl σ H1 Q (hs.g0 g1 ht) (ht.up g1) (J.up g1 ht hj) fun H2 g2 => q H2 (g1.trans g2)
    | false => exact q H1 g1⟩
theorem ew_or {a b : Expr} {rest : List Expr} {x y : Bool} {pos : Pos} (h : Et X G a ρ J x) (h2 : x = false → Ew X G (.BoolOp .Or (b :: rest) pos) ρ J y) : Ew X G (.BoolOp .Or (a :: b :: rest) pos) ρ J (x || y) := fun σ H Q hs ht hj q =>
  ⟨_, pw_or pt_c pw_c, h σ H _ hs ht hj fun H1 g1 => by
    cases x with
    | true => exact q H1 g1
    | false => exact h2 rfl σ H1 Q (hs.g0 g1 ht) (ht.up g1) (J.up g1 ht hj) fun H2 g2 => q H2 (g1.trans g2)⟩
/-! and, or, not, a if c else b as values -/
theorem ed_one {op : BoolOp} {a : Expr} {r : Sv} {pos : Pos} (h : Ed X G a ρ J r) : Ed X G (.BoolOp op [a] pos) ρ J r := fun σ H Q hs ht hj q => ⟨_, pe_one pe_c, h σ H Q hs ht hj q⟩
theorem ed_and {a b : Expr} {rest : List Expr} {x y : Bool} {pos : Pos} (h : Ed X G a ρ J (.d (.bool x))) (h2 : x = true → Ed X G (.BoolOp .And (b :: rest) pos) ρ J (.d (.bool y))) : Ed X G (.BoolOp .And (a :: b :: rest) pos) ρ J (.d (.bool (x && y))) := fun σ H Q hs ht hj q =>
  ⟨_, pe_and pe_c pe_c, h σ H _ hs ht hj fun v H1 s1 g1 => by
    obtain ⟨_, e1, d1⟩ := s1
    cases e1; cases d1
    refine ⟨x, rfl, ?_⟩
    cases x with
    | true => exact h2 rfl σ H1 Q (hs.g0 g1 ht) (ht.up g1) (J.up g1 ht hj) fun v H2 s2 g2 => q v H2 s2 (g1.trans g2)
    | false => exact q _ H1 ⟨_, rfl, .bl _⟩ g1⟩
theorem ed_or {a b : Expr} {rest : List Expr} {x y : Bool} {pos : Pos} (h : Ed X G a ρ J (.d (.bool x))) (h2 : x = false → Ed X G (.BoolOp .Or (b :: rest) pos) ρ J (.d (.bool y))) : Ed X G (.BoolOp .Or (a :: b :: rest) pos) ρ J (.d (.bool (x || y))) := fun σ H Q hs ht hj q =>
  ⟨_, pe_or pe_c pe_c, h σ H _ hs ht hj fun v H1 s1 g1 => by
    obtain ⟨_, e1, d1⟩ := s1
    cases e1; cases d1
    refine ⟨x, rfl, ?_⟩
    cases x with
    | false => exact h2 rfl σ H1 Q (hs.g0 g1 ht) (ht.up g1) (J.up g1 ht hj) fun v H2 s2 g2 => q v H2 s2 (g1.trans g2)
    | true => exact q _ H1 ⟨_, rfl, .bl _⟩ g1⟩
theorem ed_not {a : Expr} {x : Bool} {pos : Pos} (h : Ed X G a ρ J (.d (.bool x))) : Ed X G (.UnaryOp .Not a pos) ρ J (.d (.bool (!x))) := fun σ H Q hs ht hj q =>
  ⟨_, pe_not pe_c, h σ H _ hs ht hj fun v H1 s1 g1 => by
    obtain ⟨_, e1, d1⟩ := s1
    cases e1; cases d1
    exact ⟨x, rfl, q _ H1 ⟨_, rfl, .bl _⟩ g1⟩⟩
theorem ed_if {c a b : Expr} {x : Bool} {r : Sv} {pos : Pos} (h : Et X G c ρ J x) (h1 : x = true → Ed X G a ρ J r) (h2 : x = false → Ed X G b ρ J r) : Ed X G (.IfExp c a b pos) ρ J r := fun σ H Q hs ht hj q =>
  ⟨_, pe_ifExp pt_c pe_c pe_c, h σ H _ hs ht hj fun H1 g1 => by
    cases x with
    | true => exact h1 rfl σ H1 Q (hs.g0 g1 ht) (ht.up g1) (J.up g1 ht hj) fun v H2 s2 g2 => q v H2 s2 (g1.trans g2)
    | false => exact h2 rfl σ H1 Q (hs.g0 g1 ht) (ht.up g1) (J.up g1 ht hj) fun v H2 s2 g2 => q v H2 s2 (g1.trans g2)⟩
theorem Ed.to {e : Expr} {r r' : Sv} (h : Ed X G e ρ J r) (e' : r = r') : Ed X G e ρ J r' := e' ▸ h
theorem Et.to {e : Expr} {r r' : Bool} (h : Et X G e ρ J r) (e' : r = r') : Et X G e ρ J r' := e' ▸ h

/-! ### statements -/
def Fin (X : Cx) (Y : L2.St → Hp → Prop) (ρ : List Sv) (J : As G) : Prop := ∀ (σ : L2.St) (H : Hp), Sl X.K H ρ σ → Tb G H → J.P H → Y σ H
theorem fin_ok {D : Ends} {body : List Stmt} {σ : L2.St} {H : Hp} (h : Fin X (cSs X body D) ρ J) (hs : Sl X.K H ρ σ) (ht : Tb G H) (hj : J.P H) : ∃ t, PSs X body t ∧ t D σ H := h σ H hs ht hj
section
variable {D : Ends} {st : Stmt} {rest : List Stmt}
theorem f_nil (h : Fin X D.nx ρ J) : Fin X (cSs X [] D) ρ J := fun σ H hs ht hj => ⟨_, pss_nil, h σ H hs ht hj⟩
theorem f_one (h : Fin X (cS X st D) ρ J) : Fin X (cSs X [st] D) ρ J := fun σ H hs ht hj => ⟨_, pss_one ps_c, h σ H hs ht hj⟩
theorem f_cons (h : Fin X (cS X st { D with nx := cSs X rest D }) ρ J) : Fin X (cSs X (st :: rest) D) ρ J := fun σ H hs ht hj => ⟨_, pss_cons ps_c pss_c, h σ H hs ht hj⟩
/-- a statement, what holds behind it, the rest -/
theorem f_cut {Mid : L2.St → Hp → Prop} (h : Fin X (cS X st { D with nx := Mid }) ρ J) (k : ∀ σ H, Mid σ H → cSs X rest D σ H) : Fin X (cSs X (st :: rest) D) ρ J := fun σ H hs ht hj =>
  ⟨_, Evl.pss_cut ps_c pss_c, Mid, h σ H hs ht hj, k⟩
theorem f_set (i : Nat) {e : Expr} {r : Sv} {x : Str} {pos pos' : Pos} (h : Ed X G e ρ J r) (k : Fin X D.nx (ρ.set i r) J) (hN : X.N.Nodup) (hi : X.N[i]? = some x := by rfl) (hx : Loc X.env.scope x := by first | exact Or.inl rfl | exact Or.inr rfl)
    (hs : swapsWith e (some (.Name x pos')) pos.line X.env = pure false := by rfl) (hf : X.fn x = true ∨ X.env.scope.names.lookup x = some .local := by first | exact .inl rfl | exact .inr rfl) : Fin X (cS X (.Assign [.Name x pos'] e pos) D) ρ J := fun σ H s t j =>
  ⟨_, ps_set hN hi hx pe_c hs hf, h σ H _ s t j fun v H1 s1 g1 => k _ H1 ((s.g0 g1 t).set i s1) (t.up g1) (J.up g1 t j)⟩
/-- a new list comes into the slot; Fa: what its address is told by -/
theorem f_setN (i : Nat) {e : Expr} {ds : List PyData} {x : Str} {pos pos' : Pos} (Fa : Addr → Prop) (h : En X G e ρ J ds) (hfr : ∀ σ H a, Sl X.K H ρ σ → J.P H → H a = none → Fa a) (k : ∀ a, Fa a → Fin X D.nx (ρ.set i (.l a ds)) J) (hN : X.N.Nodup) (hi : X.N[i]? = some x := by rfl) (hx : Loc X.env.scope x := by first | exact Or.inl rfl | exact Or.inr rfl)
    (hs : swapsWith e (some (.Name x pos')) pos.line X.env = pure false := by rfl) (hf : X.fn x = true ∨ X.env.scope.names.lookup x = some .local := by first | exact .inl rfl | exact .inr rfl) : Fin X (cS X (.Assign [.Name x pos'] e pos) D) ρ J := fun σ H s t j =>
  ⟨_, ps_set hN hi hx pe_c hs hf, h σ H _ s t j fun a H1 ha s1 g1 => k a (hfr σ H a s j ha) _ H1 ((s.g0 g1 t).set i s1) (t.up g1) (J.up g1 t j)⟩
theorem f_if {c : Expr} {a b : List Stmt} {x : Bool} {pos : Pos} (h : Et X G c ρ J x) (h1 : x = true → Fin X (cSs X a D) ρ J) (h2 : x = false → Fin X (cSs X b D) ρ J) : Fin X (cS X (.If c a b pos) D) ρ J := fun σ H s t j =>
  ⟨_, ps_if pt_c pss_c pss_c, h σ H _ s t j fun H1 g1 => by
    cases x with
    | true => exact h1 rfl σ H1 (s.g0 g1 t) (t.up g1) (J.up g1 t j)
    | false => exact h2 rfl σ H1 (s.g0 g1 t) (t.up g1) (J.up g1 t j)⟩
theorem f_ret {e : Expr} {r : Sv} {pos : Pos} (h : Ed X G e ρ J r) (k : ∀ v H, SvOk X.K H r (some v) → Tb G H → J.P H → D.rt v H) : Fin X (cS X (.Return (some e) pos) D) ρ J := fun σ H s t j =>
  ⟨_, ps_ret pe_c, h σ H _ s t j fun v H1 s1 g1 => k v H1 s1 (t.up g1) (J.up g1 t j)⟩
theorem f_retN {e : Expr} {ds : List PyData} {pos : Pos} (h : En X G e ρ J ds) (k : ∀ a H0 H, H0 a = none → J.P H0 → SvOk X.K H (.l a ds) (some (.ref a)) → Tb G H → J.P H → D.rt (.ref a) H) : Fin X (cS X (.Return (some e) pos) D) ρ J := fun σ H s t j =>
  ⟨_, ps_ret pe_c, h σ H _ s t j fun a H1 ha s1 g1 => k a H H1 ha j s1 (t.up g1) (J.up g1 t j)⟩
theorem f_ret0 {pos : Pos} (k : ∀ H, Tb G H → J.P H → D.rt .non H) : Fin X (cS X (.Return none pos) D) ρ J := fun σ H s t j => ⟨_, ps_retN, k H t j⟩
theorem f_pass {pos : Pos} (h : Fin X D.nx ρ J) : Fin X (cS X (.Pass pos) D) ρ J := fun σ H s t j => ⟨_, ps_pass, h σ H s t j⟩
/-- an expression for nothing -/
theorem f_drop {e : Expr} {r : Sv} {pos : Pos} (h : Ed X G e ρ J r) (k : Fin X D.nx ρ J) (hs : swapsWith e none pos.line X.env = pure false := by rfl) : Fin X (cS X (.Expr e pos) D) ρ J := fun σ H s t j =>
  ⟨_, ps_expr pe_c hs, h σ H _ s t j fun v H1 _ g1 => k σ H1 (s.g0 g1 t) (t.up g1) (J.up g1 t j)⟩
/-- a, b = e1, e2 -/
theorem f_par (i j : Nat) {x y : Str} {a b : Expr} {px py pt : Pos} {kt k2 pt2} {pos : Pos} {r s : Sv} (ha : Ed X G a ρ J r) (hb : Ed X G b ρ J s) (k : Fin X D.nx ((ρ.set i r).set j s) J) (hN : X.N.Nodup) (hij : i ≠ j := by decide) (hc : X.calm = true := by rfl) (hi : X.N[i]? = some x := by rfl) (hj : X.N[j]? = some y := by rfl)
    (hx : X.env.scope.names.lookup x = some .local := by rfl) (hy : X.env.scope.names.lookup y = some .local := by rfl)
    (hw : swappedStores [.Tuple [.Name x px, .Name y py] kt pt] (.Tuple [a, b] k2 pt2) X.env = pure (some [x, y]) := by rfl) (h0 : starEach [a, b] X.env = (false, eval a X.env) :: starEach [b] X.env := by rfl) (h1 : starEach [b] X.env = (false, eval b X.env) :: starEach [] X.env := by rfl)
    (hs : swapsWithSole [.Tuple [.Name x px, .Name y py] kt pt] (.Tuple [a, b] k2 pt2) pos.line X.env = pure false := by rfl) : Fin X (cS X (.Assign [.Tuple [.Name x px, .Name y py] kt pt] (.Tuple [a, b] k2 pt2) pos) D) ρ J := fun σ H sl t jj =>
  ⟨_, ps_par hc hN hi hj hij hx hy pa_c hw hs, ea_cons ha (ea_cons hb ea_nil h1) h0 σ H _ sl t jj fun vs H1 s1 g1 => by
    match vs, s1 with
    | [v, w], s1 => exact ⟨v, w, rfl, k _ H1 (((sl.g0 g1 t).set i s1.1).set j s1.2.1) (t.up g1) (J.up g1 t jj)⟩⟩
/-- a, b = e1, e2; e2 makes a new list -/
theorem f_parN (i j : Nat) {x y : Str} {a b : Expr} {px py pt : Pos} {kt k2 pt2} {pos : Pos} {r : Sv} {ds : List PyData} (Fa : Addr → Prop) (ha : Ed X G a ρ J r) (hb : En X G b ρ J ds) (hfr : ∀ σ H a, Sl X.K H ρ σ → J.P H → H a = none → Fa a) (k : ∀ a, Fa a → Fin X D.nx ((ρ.set i r).set j (.l a ds)) J) (hN : X.N.Nodup) (hij : i ≠ j := by decide) (hc : X.calm = true := by rfl) (hi : X.N[i]? = some x := by rfl) (hj : X.N[j]? = some y := by rfl)
    (hx : X.env.scope.names.lookup x = some .local := by rfl) (hy : X.env.scope.names.lookup y = some .local := by rfl)
    (hw : swappedStores [.Tuple [.Name x px, .Name y py] kt pt] (.Tuple [a, b] k2 pt2) X.env = pure (some [x, y]) := by rfl) (h0 : starEach [a, b] X.env = (false, eval a X.env) :: starEach [b] X.env := by rfl) (h1 : starEach [b] X.env = (false, eval b X.env) :: starEach [] X.env := by rfl)
    (hs : swapsWithSole [.Tuple [.Name x px, .Name y py] kt pt] (.Tuple [a, b] k2 pt2) pos.line X.env = pure false := by rfl) : Fin X (cS X (.Assign [.Tuple [.Name x px, .Name y py] kt pt] (.Tuple [a, b] k2 pt2) pos) D) ρ J := fun σ H sl t jj =>
  ⟨_, ps_par hc hN hi hj hij hx hy (pa_cons pe_c (pa_cons pe_c pa_nil h1) h0) hw hs, ha σ H _ sl t jj fun v H1 s1 g1 => hb σ H1 _ (sl.g0 g1 t) (t.up g1) (J.up g1 t jj) fun p H2 hp s2 g2 =>
    ⟨v, _, rfl, k p (hfr σ H1 p (sl.g0 g1 t) (J.up g1 t jj) hp) _ H2 (((sl.g0 (g1.trans g2) t).set i (s1.g0 g2 (t.up g1))).set j s2) (t.up (g1.trans g2)) (J.up (g1.trans g2) t jj)⟩⟩
/-- x += e, ints -/
theorem f_aug (i : Nat) {x : Str} {e : Expr} {a b : Int} {pos pos' : Pos} (he : Ed X G e ρ J (.d (.int b))) (k : Fin X D.nx (ρ.set i (.d (.int (a + b)))) J) (hN : X.N.Nodup) (hr : ρ[i]? = some (.d (.int a)) := by rfl) (hi : X.N[i]? = some x := by rfl) (hx : Loc X.env.scope x := by first | exact Or.inl rfl | exact Or.inr rfl)
    (hf : X.fn x = true ∨ X.env.scope.names.lookup x = some .local := by first | exact .inl rfl | exact .inr rfl) : Fin X (cS X (.AugAssign (.Name x pos') .Add e pos) D) ρ J := fun σ H s t j => by
  obtain ⟨o, e1, v, e2, d1⟩ := s.get hr
  cases e2; cases d1
  refine ⟨_, ps_aug hN hi hx pe_c ip_add hf, _, e1, he σ H _ s t j fun w H1 s1 g1 => ?_⟩
  obtain ⟨_, e3, d3⟩ := s1
  cases e3; cases d3
  exact ⟨a, b, rfl, rfl, k _ H1 ((s.g0 g1 t).set i ⟨_, rfl, .int _⟩) (t.up g1) (J.up g1 t j)⟩

/-! ### loops -/
/-- one of these holds -/
def Any (X : Cx) (I : List Sv → As G → Prop) : L2.St → Hp → Prop := fun σ H => ∃ ρ J, I ρ J ∧ Sl X.K H ρ σ ∧ Tb G H ∧ J.P H
theorem fin_any {I : List Sv → As G → Prop} (h : I ρ J) : Fin X (Any X I) ρ J := fun σ H s t j => ⟨ρ, J, h, s, t, j⟩
/-- over a tuple: I is chosen at the loop's own heap; its assertions keep the tuples of that heap -/
theorem f_forT (i : Nat) {x : Str} {it : Expr} {body : List Stmt} {ds : List PyData} {px pos : Pos} (hit : Ed X G it ρ J (.d (.tuple ds)))
    (h : ∀ σ H1, Sl X.K H1 ρ σ → Tb G H1 → J.P H1 → ∃ I : Nat → List Sv → As G → Prop, (∃ J0, I 0 ρ J0 ∧ J0.P H1) ∧ (∀ n ρ J H, I n ρ J → J.P H → Tk H1 H) ∧
      (∀ n d ρ J, ds[n]? = some d → I n ρ J → Fin X (cSs X body { D with nx := Any X (I (n + 1)), ct := Any X (I (n + 1)), bk := D.nx }) (ρ.set i (.d d)) J) ∧ ∀ ρ J, I ds.length ρ J → Fin X D.nx ρ J)
    (hp : PassesOwn (model X.prog X.w) X.A X.env X.xe) (hN : X.N.Nodup) (hc : X.calm = true := by rfl) (hi : X.N[i]? = some x := by rfl) (hx : Loc X.env.scope x := by first | exact Or.inl rfl | exact Or.inr rfl)
    (hf : X.fn x = true ∨ X.env.scope.names.lookup x = some .local := by first | exact .inl rfl | exact .inr rfl) (hsi : ∀ x, foldedSetIterable it X.env x = pure x := by intro _; rfl) : Fin X (cS X (.For (.Name x px) it body [] pos) D) ρ J := fun σ H s t j => by
  refine ⟨_, ps_for hp hc (pi_tup pe_c) (pg_name hN hi hx hf) pss_c hsi, hit σ H _ s t j fun v H1 s1 g1 => ?_⟩
  obtain ⟨_, e1, d1⟩ := s1
  cases e1
  obtain ⟨a, xs, rfl, st, da⟩ := d1.tup_inv
  refine ⟨a, rfl, ⟨xs, st⟩, ?_⟩
  have hl := da.len
  obtain ⟨I, ⟨J0, i0, j0⟩, hk, hs, hd⟩ := h σ H1 (s.g0 g1 t) (t.up g1) (J.up g1 t j)
  refine for_tup (K := X.K) (a := a) (xs := xs) (fun n σ' H' => Any X (I n) σ' H') ⟨ρ, J0, i0, s.g0 g1 t, t.up g1, j0⟩ (fun n σ' H' _ q => ?_) (fun n y σ' H' hy q => ?_) (fun σ' H' q => ?_)
  · obtain ⟨ρ', J', hI, s', t', j'⟩ := q
    exact (hk _ _ _ _ hI j').sq st
  · obtain ⟨ρ', J', hI, s', t', j'⟩ := q
    obtain ⟨d, hd', dy⟩ := da.getV hy
    exact hs n d ρ' J' hd' hI (σ'.set i (some y)) H' (s'.set i ⟨y, rfl, Dt.tk (hk _ _ _ _ hI j') _ _ dy⟩) t' j'
  · obtain ⟨ρ', J', hI, s', t', j'⟩ := q
    rw [hl] at hI
    exact hd ρ' J' hI σ' H' s' t' j'
/-- over a list that stands meanwhile -/
theorem f_forL (i : Nat) {x : Str} {it : Expr} {body : List Stmt} {a : Addr} {ds : List PyData} {px pos : Pos} (hit : Ed X G it ρ J (.l a ds))
    (h : ∀ σ H1, Sl X.K H1 ρ σ → Tb G H1 → J.P H1 → ∃ I : Nat → List Sv → As G → Prop, (∃ J0, I 0 ρ J0 ∧ J0.P H1) ∧ (∀ n ρ J H vs, I n ρ J → J.P H → H1 a = some (.lst vs) → H a = some (.lst vs) ∧ Tk H1 H) ∧
      (∀ n d ρ J, ds[n]? = some d → I n ρ J → Fin X (cSs X body { D with nx := Any X (I (n + 1)), ct := Any X (I (n + 1)), bk := D.nx }) (ρ.set i (.d d)) J) ∧ ∀ ρ J, I ds.length ρ J → Fin X D.nx ρ J)
    (hp : PassesOwn (model X.prog X.w) X.A X.env X.xe) (hN : X.N.Nodup) (hc : X.calm = true := by rfl) (hi : X.N[i]? = some x := by rfl) (hx : Loc X.env.scope x := by first | exact Or.inl rfl | exact Or.inr rfl)
    (hf : X.fn x = true ∨ X.env.scope.names.lookup x = some .local := by first | exact .inl rfl | exact .inr rfl) (hsi : ∀ x, foldedSetIterable it X.env x = pure x := by intro _; rfl) : Fin X (cS X (.For (.Name x px) it body [] pos) D) ρ J := fun σ H s t j => by
  refine ⟨_, ps_for hp hc (pi_list pe_c) (pg_name hN hi hx hf) pss_c hsi, hit σ H _ s t j fun v H1 s1 g1 => ?_⟩
  obtain ⟨e1, xs, st, da, _⟩ := s1
  cases e1
  refine ⟨a, rfl, ⟨xs, SqL.of st⟩, ?_⟩
  have hl := da.len
  obtain ⟨I, ⟨J0, i0, j0⟩, hk, hs, hd⟩ := h σ H1 (s.g0 g1 t) (t.up g1) (J.up g1 t j)
  refine for_list (K := X.K) (a := a) (xs := xs) (fun n σ' H' => Any X (I n) σ' H') ⟨ρ, J0, i0, s.g0 g1 t, t.up g1, j0⟩ (fun n σ' H' _ q => ?_) (fun n y σ' H' hy q => ?_) (fun σ' H' q => ?_)
  · obtain ⟨ρ', J', hI, s', t', j'⟩ := q
    exact SqL.of (hk _ _ _ _ _ hI j' st).1
  · obtain ⟨ρ', J', hI, s', t', j'⟩ := q
    obtain ⟨d, hd', dy⟩ := da.getV hy
    exact hs n d ρ' J' hd' hI (σ'.set i (some y)) H' (s'.set i ⟨y, rfl, Dt.tk (hk _ _ _ _ _ hI j' st).2 _ _ dy⟩) t' j'
  · obtain ⟨ρ', J', hI, s', t', j'⟩ := q
    rw [hl] at hI
    exact hd ρ' J' hI σ' H' s' t' j'
/-- over range(n), range(lo, n) -/
theorem f_forR1 (i : Nat) {x : Str} {e : Expr} {body : List Stmt} {m : Nat} {px p1 p2 pos : Pos} (hm : X.mg "range" = none) (he : Ed X G e ρ J (.d (.int (m : Nat)))) (hm2 : m ≤ 1000000) (I : Nat → List Sv → As G → Prop) (h0 : I 0 ρ J)
    (hs : ∀ n ρ J, n < m → I n ρ J → Fin X (cSs X body { D with nx := Any X (I (n + 1)), ct := Any X (I (n + 1)), bk := D.nx }) (ρ.set i (.d (.int (n : Nat)))) J) (hd : ∀ ρ J, I m ρ J → Fin X D.nx ρ J)
    (hp : PassesOwn (model X.prog X.w) X.A X.env X.xe) (hN : X.N.Nodup) (hg : Gl X "range" := by rfl) (hc : X.calm = true := by rfl) (hi : X.N[i]? = some x := by rfl) (hx : Loc X.env.scope x := by first | exact Or.inl rfl | exact Or.inr rfl)
    (hf : X.fn x = true ∨ X.env.scope.names.lookup x = some .local := by first | exact .inl rfl | exact .inr rfl) (h1 : starEach [e] X.env = [(false, eval e X.env)] := by rfl) (hsi : ∀ x, foldedSetIterable (.Call (.Name "range" p1) [e] [] p2) X.env x = pure x := by intro _; rfl) :
    Fin X (cS X (.For (.Name x px) (.Call (.Name "range" p1) [e] [] p2) body [] pos) D) ρ J := fun σ H s t j => by
  refine ⟨_, ps_for hp hc (pi_range1 hg hm pa_c h1) (pg_name hN hi hx hf) pss_c hsi, ea_cons he ea_nil (by rw [h1] <;> rfl) σ H _ s t j fun vs H1 s1 g1 => ?_⟩
  match vs, s1 with
  | [v], s1 =>
    obtain ⟨_, e1, d1⟩ := s1.1
    cases e1; cases d1
    refine ⟨(m : Nat), rfl, by omega, by omega, ?_⟩
    refine for_range (lo := 0) (n := ((m : Nat) : Int).toNat) (fun n σ' H' => Any X (I n) σ' H') ⟨ρ, J, h0, s.g0 g1 t, t.up g1, J.up g1 t j⟩ (fun n σ' H' hn q => ?_) (fun σ' H' q => ?_)
    · obtain ⟨ρ', J', hI, s', t', j'⟩ := q
      have e0 : (0 : Int) + (n : Int) = (n : Int) := Int.zero_add _
      rw [e0]
      exact hs n ρ' J' (by simpa using hn) hI (σ'.set i (some (.int (n : Nat)))) H' (s'.set i ⟨_, rfl, .int _⟩) t' j'
    · obtain ⟨ρ', J', hI, s', t', j'⟩ := q
      exact hd ρ' J' (by simpa using hI) σ' H' s' t' j'
theorem f_forR2 (i : Nat) {x : Str} {e1 e2 : Expr} {body : List Stmt} {lo m : Nat} {px p1 p2 pos : Pos} (hm : X.mg "range" = none) (he1 : Ed X G e1 ρ J (.d (.int (lo : Nat)))) (he2 : Ed X G e2 ρ J (.d (.int (m : Nat)))) (hlo : lo ≤ m) (hm2 : m ≤ 1000000) (I : Nat → List Sv → As G → Prop) (h0 : I lo ρ J)
    (hs : ∀ n ρ J, lo ≤ n → n < m → I n ρ J → Fin X (cSs X body { D with nx := Any X (I (n + 1)), ct := Any X (I (n + 1)), bk := D.nx }) (ρ.set i (.d (.int (n : Nat)))) J) (hd : ∀ ρ J, I m ρ J → Fin X D.nx ρ J)
    (hp : PassesOwn (model X.prog X.w) X.A X.env X.xe) (hN : X.N.Nodup) (hg : Gl X "range" := by rfl) (hc : X.calm = true := by rfl) (hi : X.N[i]? = some x := by rfl) (hx : Loc X.env.scope x := by first | exact Or.inl rfl | exact Or.inr rfl)
    (hf : X.fn x = true ∨ X.env.scope.names.lookup x = some .local := by first | exact .inl rfl | exact .inr rfl) (h1 : starEach [e1, e2] X.env = [(false, eval e1 X.env), (false, eval e2 X.env)] := by rfl) (h2 : starEach [e2] X.env = [(false, eval e2 X.env)] := by rfl) (hsi : ∀ x, foldedSetIterable (.Call (.Name "range" p1) [e1, e2] [] p2) X.env x = pure x := by intro _; rfl) :
    Fin X (cS X (.For (.Name x px) (.Call (.Name "range" p1) [e1, e2] [] p2) body [] pos) D) ρ J := fun σ H s t j => by
  refine ⟨_, ps_for hp hc (pi_range2 hg hm pa_c h1 h2) (pg_name hN hi hx hf) pss_c hsi, ea_cons he1 (ea_cons he2 ea_nil (by rw [h2] <;> rfl)) (by rw [h1, h2]) σ H _ s t j fun vs H1 s1 g1 => ?_⟩
  match vs, s1 with
  | [v, w], s1 =>
    obtain ⟨_, e1, d1⟩ := s1.1
    obtain ⟨_, e2, d2⟩ := s1.2.1
    cases e1; cases d1; cases e2; cases d2
    refine ⟨(lo : Nat), (m : Nat), rfl, ⟨by omega, by omega, by omega, by omega⟩, ?_⟩
    refine for_range (lo := (lo : Nat)) (n := (((m : Nat) : Int) - ((lo : Nat) : Int)).toNat) (fun n σ' H' => Any X (I (lo + n)) σ' H') ⟨ρ, J, h0, s.g0 g1 t, t.up g1, J.up g1 t j⟩ (fun n σ' H' hn q => ?_) (fun σ' H' q => ?_)
    · obtain ⟨ρ', J', hI, s', t', j'⟩ := q
      have e0 : ((lo : Nat) : Int) + (n : Int) = ((lo + n : Nat) : Int) := by omega
      rw [e0]
      exact hs (lo + n) ρ' J' (by omega) (by omega) hI (σ'.set i (some (.int ((lo + n : Nat) : Int)))) H' (s'.set i ⟨_, rfl, .int _⟩) t' j'
    · obtain ⟨ρ', J', hI, s', t', j'⟩ := q
      have e0 : lo + (((m : Nat) : Int) - ((lo : Nat) : Int)).toNat = m := by omega
      rw [e0] at hI
      exact hd ρ' J' hI σ' H' s' t' j'

/-! ### lists changed in place -/
/-- the assertion stands while the list at a changes -/
def Ind (J : As G) (a : Addr) : Prop := ∀ H xs ys, J.P H → H a = some (.lst xs) → J.P (upd H a (.lst ys))
theorem ind_from {ms : List Addr} {H0 : Hp} {a : Addr} (h : H0 a = none) : Ind (As.from G ms H0) a := fun H xs ys j e => Gr.mut (show Gr G ms H0 H from j) h e trivial
theorem ind_in {ms : List Addr} {H0 : Hp} {a : Addr} (h : a ∈ ms) : Ind (As.from G ms H0) a := fun H xs ys j e => Gr.trans (show Gr G ms H0 H from j) (Gr.put e trivial h)
theorem ind_and {A B : As G} {a : Addr} (h1 : Ind A a) (h2 : Ind B a) : Ind (A.and B) a := fun H xs ys j e => ⟨h1 H xs ys j.1 e, h2 H xs ys j.2 e⟩
theorem Tb.lst {H : Hp} {a : Addr} {xs ys : List V} (t : Tb G H) (e : H a = some (.lst xs)) : Tb G (upd H a (.lst ys)) := t.up (Gr.put (ms := [a]) e trivial (by simp))
/-- xs.append(e), xs in slot i -/
theorem f_app (i : Nat) {x : Str} {e : Expr} {a : Addr} {ds : List PyData} {d : PyData} {p1 apos cpos pos : Pos} (he : Ed X G e ρ J (.d d)) (hl : ds.length ≤ 1000000) (hj : Ind J a) (hρ : ∀ r ∈ ρ.set i .u, Off [a] r) (k : Fin X D.nx (ρ.set i (.l a (ds ++ [d]))) J)
    (hr : ρ[i]? = some (.l a ds) := by rfl) (hN : X.N[i]? = some x := by rfl) (hv : Vis X.env.scope x := by first | exact Or.inl rfl | exact Or.inr (Or.inl rfl) | exact Or.inr (Or.inr rfl)) (hd : (x == ("__debug__" : Str)) = false := by decide) (hcd : (x == ("__classdict__" : Str)) = false := by decide)
    (hs : swapsWith (.Call (.Attribute (.Name x p1) "append" apos) [e] [] cpos) none pos.line X.env = pure false := by rfl)
    (hbase : attributeBase (.Name x p1) "append" X.env (eval (.Name x p1) X.env) = eval (.Name x p1) X.env := by rfl)
    (hfew : ((backTo cpos (starEach (e :: []) X.env)).all (fun x => !x.1) && (backToKw cpos (keywordEach [] X.env)).all (fun x => x.1.isSome)
      && decide ((e :: []).length + ([] : List Keyword).length + (if ([] : List Keyword).isEmpty then 0 else 1) < 30)) = true := by rfl)
    (hline : (apos.endLine == cpos.line) = true := by rfl) (hst : starEach (e :: []) X.env = (false, eval e X.env) :: starEach [] X.env := by rfl) (hplain : (backTo cpos (starEach [] X.env)).any (·.1) = false := by rfl) :
    Fin X (cS X (.Expr (.Call (.Attribute (.Name x p1) "append" apos) [e] [] cpos) pos) D) ρ J := fun σ H s t j => by
  obtain ⟨o, e1, e2, vs, hH, hda, hz⟩ := s.get hr
  cases e2
  refine ⟨_, ps_expr (pe_bm PySem.F.plainAttrs_list PySem.F.slot_list_append PySem.F.type_list_append mt_append (pe_var (i := i) hN hv hd hcd) (pa_cons pe_c pa_nil hst) hbase hfew hline hst hplain) hs, .ref a, e1, .inl ⟨rfl, vs, SqL.of hH⟩, ?_⟩
  refine he σ H _ s t j fun v H1 s1 g1 => ?_
  obtain ⟨_, e3, d1⟩ := s1
  cases e3
  have hH1 : H1 a = some (.lst vs) := g1.keep a _ hH (not_tab t hH (fun q z => by cases z)) (by simp)
  have hlen := hda.len
  refine ⟨a, vs, v, rfl, rfl, hH1, Nat.lt_of_le_of_lt (show vs.length ≤ 1000000 by omega) (by decide), ?_⟩
  have g2 : Gr G [a] H1 (upd H1 a (.lst (vs ++ [v]))) := Gr.put hH1 trivial (by simp)
  have s2 : Sl X.K (upd H1 a (.lst (vs ++ [v]))) (ρ.set i .u) (σ.set i (some (.ref a))) := Sl.up g2 (t.up g1) hρ ((s.g0 g1 t).set i trivial)
  have s3 := s2.set (r := .l a (ds ++ [d])) (o := some (.ref a)) i ⟨rfl, vs ++ [v], upd_same, ((hda.up g1).app (.cons d1 .nil)).up g2, by rw [List.length_append, List.length_singleton]; exact Nat.le_trans (show vs.length + 1 ≤ 1000001 by omega) (by decide)⟩
  rw [List.set_set, List.set_set] at s3
  have eσ : σ.set i (some (.ref a)) = σ := by
    apply List.ext_getElem?
    intro n
    by_cases hn : n = i
    · subst hn
      obtain ⟨h1, h2⟩ := List.getElem?_eq_some_iff.mp e1
      rw [List.getElem?_set_self h1, e1]
    · rw [List.getElem?_set_ne (Ne.symm hn)]
  rw [eσ] at s3
  exact k σ _ s3 ((t.up g1).up g2) (hj H1 vs _ (J.up g1 t j) hH1)
end
/-! ### calls -/
/-- a def that may be called by its name; dvs: the values of the defaults that fill up -/
def Cal (P : Program) (w : World) (K : PySem.W.Frag) (mg : Str → Option Value) (base : Heap) (k : Nat) (x : Str) (sp : Sp) (dvs : List V) : Prop :=
  ∃ (f : Addr) (fd : FuncData) (ps : List Str) (ds : List Value), FnOk P w K mg base CX0 k f fd ps sp ∧ mg x = some (.ref f) ∧ PySem.W.keepIn K (.ref f) = true ∧ Binds K fd ps ds ∧ Vals dvs ds
/-- a pure def: told the arguments rs, it hands back what P tells -/
def spR (K : PySem.W.Frag) (G : Addr → Prop) (R : List Sv → Sv → Prop) : Sp := fun vs H Q _ => ∃ rs r, R rs r ∧ SvA K H rs vs ∧ Tb G H ∧ ∀ v H', SvOk K H' r (some v) → Gr G [] H H' → Q v H'
/-- .. a new list -/
def spN (K : PySem.W.Frag) (G : Addr → Prop) (R : List Sv → List PyData → Prop) : Sp := fun vs H Q _ => ∃ rs ds, R rs ds ∧ SvA K H rs vs ∧ Tb G H ∧ ∀ a H', H a = none → SvOk K H' (.l a ds) (some (.ref a)) → Gr G [] H H' → Q (.ref a) H'
theorem SvA.app {K : PySem.W.Frag} {H : Hp} : ∀ {rs ss : List Sv} {vs ws : List V}, SvA K H rs vs → SvA K H ss ws → SvA K H (rs ++ ss) (vs ++ ws)
  | [], _, [], _, _, h => h
  | _ :: _, _, _ :: _, _, h, h' => ⟨h.1, SvA.app h.2 h'⟩
  | [], _, _ :: _, _, h, _ => h.elim
  | _ :: _, _, [], _, h, _ => h.elim
theorem ed_call {x : Str} {k : Nat} {R : List Sv → Sv → Prop} {dvs : List V} {p pos : Pos} {e : Expr} {es : List Expr} {rs ss : List Sv} {r : Sv} (C : Cal X.prog X.w X.K X.mg X.base k x (spR X.K G R) dvs) (hr : Room k X.A) (ha : Ea X G (e :: es) ρ J rs) (hd : ∀ H, SvA X.K H ss dvs) (hR : R (rs ++ ss) r)
    (hg : Gl X x := by rfl) (hdb : (x == ("__debug__" : Str)) = false := by decide) (he : starEach (e :: es) X.env = (false, eval e X.env) :: starEach es X.env := by rfl) (hpl : (backTo pos (starEach es X.env)).any (·.1) = false := by rfl) : Ed X G (.Call (.Name x p) (e :: es) [] pos) ρ J r := fun σ H Q s t j q => by
  obtain ⟨f, fd, ps, ds, F, hm, hk, hb, hv⟩ := C
  exact ⟨_, pe_call F hr hg hm hk hb hv pass0 pa_c hdb he hpl, ha σ H _ s t j fun vs H1 s1 g1 => ⟨rs ++ ss, r, hR, s1.app (hd H1), t.up g1, fun v H2 s2 g2 => q v H2 s2 (g1.trans g2)⟩⟩
theorem en_call {x : Str} {k : Nat} {R : List Sv → List PyData → Prop} {p pos : Pos} {e : Expr} {es : List Expr} {rs : List Sv} {ds : List PyData} (C : Cal X.prog X.w X.K X.mg X.base k x (spN X.K G R) []) (hr : Room k X.A) (ha : Ea X G (e :: es) ρ J rs) (hR : R rs ds)
    (hg : Gl X x := by rfl) (hdb : (x == ("__debug__" : Str)) = false := by decide) (he : starEach (e :: es) X.env = (false, eval e X.env) :: starEach es X.env := by rfl) (hpl : (backTo pos (starEach es X.env)).any (·.1) = false := by rfl) : En X G (.Call (.Name x p) (e :: es) [] pos) ρ J ds := fun σ H Q s t j q => by
  obtain ⟨f, fd, ps, dd, F, hm, hk, hb, hv⟩ := C
  refine ⟨_, pe_call F hr hg hm hk hb hv pass0 pa_c hdb he hpl, ha σ H _ s t j fun vs H1 s1 g1 => ?_⟩
  show spN X.K G R (vs ++ []) H1 Q E0
  rw [List.append_nil]
  exact ⟨rs, ds, hR, s1, t.up g1, fun a H2 ha s2 g2 => q a H2 (g1.free ha) s2 (g1.trans g2)⟩
theorem ed_call' {x : Str} {k : Nat} {R : List Sv → Sv → Prop} {p pos : Pos} {e : Expr} {es : List Expr} {rs : List Sv} {r : Sv} (C : Cal X.prog X.w X.K X.mg X.base k x (spR X.K G R) []) (hr : Room k X.A) (ha : Ea X G (e :: es) ρ J rs) (hR : R rs r)
    (hg : Gl X x := by rfl) (hdb : (x == ("__debug__" : Str)) = false := by decide) (he : starEach (e :: es) X.env = (false, eval e X.env) :: starEach es X.env := by rfl) (hpl : (backTo pos (starEach es X.env)).any (·.1) = false := by rfl) : Ed X G (.Call (.Name x p) (e :: es) [] pos) ρ J r :=
  ed_call (ss := []) C hr ha (fun _ => trivial) (by rw [List.append_nil]; exact hR) hg hdb he hpl
/-- a new list, indexed from its end -/
theorem ed_ixNl {a : Expr} {ds : List PyData} {d : PyData} {pos p2 : Pos} {j : Nat} (ha : En X G a ρ J ds) (hd : ds.getLast? = some d) (hs : PlainIx (.UnaryOp .USub (.Constant (.int 1) j p2) pos) := by exact fun _ _ => rfl) {pos' : Pos} : Ed X G (.Subscript a (.UnaryOp .USub (.Constant (.int 1) j p2) pos) pos') ρ J (.d d) := fun σ H Q s t jj q => by
  refine ⟨_, pe_ix ix_list pe_c (pe_un un_neg pe_int) hs, ha σ H _ s t jj fun p H1 _ s1 g1 => ?_⟩
  obtain ⟨e1, xs, hx, a1, _⟩ := s1
  obtain ⟨z, hz, q1⟩ := a1.last hd
  exact ⟨1, rfl, p, xs, _, z, rfl, rfl, SqL.of hx, atI_lst hz, q _ H1 ⟨_, rfl, q1⟩ g1⟩
end
/-! ### a def's promise by its body -/
section
variable {P : Program} {w : World} {K : PySem.W.Frag} {mg : Str → Option Value} {base : Heap} {x qual : Str} {params : Arguments} {body : List Stmt} {scope : Scope} {dvs : List V} {kws : List (Str × V)} {f : Addr} {fd : FuncData} {G : Addr → Prop}
theorem funD_okR {N ps : List Str} {k : Nat} {R : List Sv → Sv → Prop} (F : FunD K x qual params body scope dvs kws f fd) (S : FnScope N ps scope) (len : ∀ rs r, R rs r → rs.length = ps.length)
    (hbody : ∀ (cdv : Value) (A : Around) (outer : List Env) (s : Shared) (H : Hp) (E : XK), Room k (A.deeper (envOfC qual scope s.heap.objs.size f cdv)) → ∀ rs r, R rs r → ∀ (D : Ends), (∀ v H', SvOk K H' r (some v) → Tb G H' → Gr G [] H H' → D.rt v H') →
      Fin (G := G) (cxOf CX0 P w K mg base N qual scope f cdv A outer s H E).nox (cSs (cxOf CX0 P w K mg base N qual scope f cdv A outer s H E).nox body D) (rs ++ List.replicate (N.length - ps.length) .u) (As.from G [] H)) : FnOk P w K mg base CX0 (k + 1) f fd ps (spR K G R) := by
  have lenA : ∀ {H : Hp} {rs : List Sv} {vs : List V}, SvA K H rs vs → vs.length = rs.length := by
    intro H rs
    induction rs with
    | nil => intro vs h; cases vs with | nil => rfl | cons _ _ => exact h.elim
    | cons r rs ih => intro vs h; cases vs with | nil => exact h.elim | cons v vs => exact congrArg Nat.succ (ih h.2)
  refine F.ok S (fun vs H Q E h => ?_) (fun cdv A outer s H vs Q E hr h => ?_)
  · obtain ⟨rs, r, hR, sa, _⟩ := h
    rw [lenA sa]
    exact len rs r hR
  · obtain ⟨rs, r, hR, sa, tb, q⟩ := h
    have hl : vs.length = ps.length := by rw [lenA sa]; exact len rs r hR
    have sl : ∀ (rs : List Sv) (vs : List V) (n : Nat), SvA K H rs vs → Sl K H (rs ++ List.replicate n .u) (vs.map some ++ List.replicate n none) := by
      intro rs
      induction rs with
      | nil =>
        intro vs n h
        cases vs with
        | cons _ _ => exact h.elim
        | nil =>
          induction n with
          | zero => trivial
          | succ n ih => exact ⟨trivial, ih⟩
      | cons r rs ih =>
        intro vs n h
        cases vs with
        | nil => exact h.elim
        | cons v vs => exact ⟨h.1, ih vs n h.2⟩
    obtain ⟨t, h1, h2⟩ := fin_ok (hbody cdv A outer s H E hr rs r hR { nx := fun _ H' => Q .non H', rt := Q } (fun v H' s' _ g => q v H' s' g)) (sl rs vs (N.length - ps.length) sa) tb Gr.refl
    refine ⟨t, h1.nox, ?_⟩
    have e : L2.start N vs = vs.map some ++ List.replicate (N.length - ps.length) none := by
      unfold L2.start
      rw [hl]
    rw [e]
    exact h2
end
end Wb

/-! The logic's second part: walked things, comprehensions, generator expressions, what changes the heap. -/
namespace Wb
open PySem PySem.Spec PyProof.Rows L2

/-! ### assertions: heaps behind which one stands, with what may have changed since; and one thing more -/
def As.tt {G : Addr → Prop} : As G := ⟨fun _ => True, fun _ _ _ => trivial⟩
def Jl {G : Addr → Prop} (L : List (List Addr × Hp)) (A : As G) : As G := ⟨fun H => (∀ p ∈ L, Gr G p.1 p.2 H) ∧ A.P H, fun g t h => ⟨fun p hp => (h.1 p hp).trans g.wide, A.up g t h.2⟩⟩
/-- these may be changed -/
def Mu (L : List (List Addr × Hp)) (ms : List Addr) : Prop := ∀ p ∈ L, ∀ a ∈ ms, a ∈ p.1 ∨ p.2 a = none
theorem Mu.nil {ms : List Addr} : Mu [] ms := fun _ h => nomatch h
theorem Mu.emp {L : List (List Addr × Hp)} : Mu L [] := fun _ _ _ h => nomatch h
theorem Mu.cons {L : List (List Addr × Hp)} {ms ns : List Addr} {H : Hp} (h : ∀ a ∈ ms, a ∈ ns ∨ H a = none) (t : Mu L ms) : Mu ((ns, H) :: L) ms := fun p hp a ha => by
  rcases List.mem_cons.mp hp with e | hp
  · rw [e]; exact h a ha
  · exact t p hp a ha
theorem Mu.app {L : List (List Addr × Hp)} {ms ns : List Addr} (h : Mu L ms) (h2 : Mu L ns) : Mu L (ms ++ ns) := fun p hp a ha => by
  rcases List.mem_append.mp ha with q | q
  · exact h p hp a q
  · exact h2 p hp a q
theorem Gr.over {G : Addr → Prop} {ms ns : List Addr} {H H1 H2 : Hp} (a : Gr G ns H H1) (b : Gr G ms H1 H2) (h : ∀ x ∈ ms, x ∈ ns ∨ H x = none) : Gr G ns H H2 :=
  ⟨fun c o e g n => b.keep c o (a.keep c o e g n) g (fun z => (h c z).elim n fun q => by rw [q] at e; cases e), ⟨fun c xs e => b.tk.1 c xs (a.tk.1 c xs e), fun c o u e => b.tk.2 c o u (a.tk.2 c o u e)⟩, fun c g t => b.tab c g (a.tab c g t), fun c e => a.dom c (b.dom c e)⟩
theorem Jl.step {G : Addr → Prop} {L : List (List Addr × Hp)} {A B : As G} {ms : List Addr} {H H' : Hp} (h : (Jl L A).P H) (g : Gr G ms H H') (m : Mu L ms) (b : B.P H') : (Jl L B).P H' := ⟨fun p hp => (h.1 p hp).over g (m p hp), b⟩
theorem Jl.push {G : Addr → Prop} {L : List (List Addr × Hp)} {A : As G} {ms : List Addr} {H H1 : Hp} (h : (Jl L A).P H) (g : Gr G ms H1 H) : (Jl ((ms, H1) :: L) A).P H := ⟨fun p hp => by
  rcases List.mem_cons.mp hp with e | hp
  · rw [e]; exact g
  · exact h.1 p hp, h.2⟩
theorem Jl.pop {G : Addr → Prop} {L : List (List Addr × Hp)} {A : As G} {p : List Addr × Hp} {H : Hp} (h : (Jl (p :: L) A).P H) : (Jl L A).P H := ⟨fun q hq => h.1 q (List.mem_cons_of_mem _ hq), h.2⟩
/-- an address that is new is new to all of these -/
theorem Jl.fresh {G : Addr → Prop} {L : List (List Addr × Hp)} {A : As G} {H : Hp} {a : Addr} (h : (Jl L A).P H) (n : H a = none) : Mu L [a] := fun p hp b hb => .inr (by
  rw [List.mem_singleton.mp hb]
  exact (h.1 p hp).free n)
def OffL (ms : List Addr) : List Sv → Prop
  | [] => True
  | r :: ρ => Off ms r ∧ OffL ms ρ
theorem OffL.all {ms : List Addr} : ∀ {ρ : List Sv}, OffL ms ρ → ∀ r ∈ ρ, Off ms r
  | [], _, _, h => nomatch h
  | _ :: _, h, r, hr => by
    rcases List.mem_cons.mp hr with e | hr
    · rw [e]; exact h.1
    · exact OffL.all h.2 r hr
theorem OffL.of {ms : List Addr} : ∀ {ρ : List Sv}, (∀ r ∈ ρ, Off ms r) → OffL ms ρ
  | [], _ => trivial
  | _ :: _, h => ⟨h _ List.mem_cons_self, OffL.of fun r hr => h r (List.mem_cons_of_mem _ hr)⟩
/-- what a new thing is -/
def Fresh (H : Hp) : Sv → Prop
  | .v (.ref a) => H a = none
  | .l a _ => H a = none
  | _ => True
/-- of a thing that no store changes -/
def Still : Sv → Prop
  | .l _ _ => False
  | _ => True
theorem SvOk.tk {K : PySem.W.Frag} {H H1 : Hp} {r : Sv} {o : Option V} (t : Tk H H1) (hr : Still r) (h : SvOk K H r o) : SvOk K H1 r o := by
  cases r with
  | u => trivial
  | v x => exact h
  | d x =>
    obtain ⟨v, e, q⟩ := h
    exact ⟨v, e, Dt.tk t _ _ q⟩
  | l a ds => exact hr.elim

section
variable {X : Cx} {G : Addr → Prop} {ρ : List Sv} {J : As G}
/-! ### walked things -/
def cI (X : Cx) (tg e : Expr) : TI := fun σ H R => ∃ t, PI X tg e t ∧ t σ H R
theorem pi_c {tg e : Expr} : PI X tg e (cI X tg e) := ⟨fun pins s σ H R I h => let ⟨_, h1, h2⟩ := h; h1.run pins s σ H R I h2⟩
/-- the walk gives these, while nothing but ms changes -/
def Wk (K : PySem.W.Frag) (G : Addr → Prop) (ms : List Addr) (T : It) (H1 : Hp) (ds : List PyData) : Prop := ∀ H, Gr G ms H1 H → Tb G H → T.stop ds.length H ∧ ∀ i, i < ds.length → T.go i H ∧ ∀ x H', T.yld i H x H' → Gr G [] H H' ∧ ∃ d, ds[i]? = some d ∧ Dt K H' x d
def Ei (X : Cx) (G : Addr → Prop) (ms : List Addr) (tg e : Expr) (ρ : List Sv) (J : As G) (Post : List PyData → As G → Prop) : Prop := ∀ (σ : L2.St) (H : Hp) (R : It → Hp → Prop), Sl X.K H ρ σ → Tb G H → J.P H →
  (∀ ds J' T H1, Post ds J' → Wk X.K G ms T H1 ds → Sl X.K H1 ρ σ → Tb G H1 → Tk H H1 → (∀ b, H1 b = none → H b = none) → J'.P H1 → R T H1) → cI X tg e σ H R
/-- the same, nothing changes ahead of the walk -/
def Ep (X : Cx) (G : Addr → Prop) (ms : List Addr) (tg e : Expr) (ρ : List Sv) (J : As G) (ds : List PyData) : Prop := ∀ (σ : L2.St) (H : Hp) (R : It → Hp → Prop), Sl X.K H ρ σ → Tb G H → J.P H → (∀ T H1, Wk X.K G ms T H1 ds → Gr G [] H H1 → R T H1) → cI X tg e σ H R
def Just {G : Addr → Prop} {α : Type} (x : α) (J : As G) : α → As G → Prop := fun y J' => y = x ∧ J' = J
theorem wk_tup {K : PySem.W.Frag} {ms : List Addr} {H1 : Hp} {a : Addr} {xs : List V} {ds : List PyData} (s : SqT K H1 a xs) (d : Da K H1 xs ds) : Wk K G ms (Itt K a) H1 ds := fun H g t => by
  have l := d.len
  refine ⟨⟨xs, g.tk.sq s, by omega⟩, fun i hi => ?_⟩
  have hx : xs[i]? = some (xs[i]'(by omega)) := List.getElem?_eq_getElem _
  refine ⟨⟨xs, _, g.tk.sq s, hx⟩, fun x H' h => ?_⟩
  obtain ⟨rfl, h2⟩ := h
  obtain ⟨e, h3, h4⟩ := d.getV (h2 xs (g.tk.sq s))
  exact ⟨Gr.refl, e, h3, Dt.tk g.tk _ _ h4⟩
theorem wk_lst {K : PySem.W.Frag} {ms : List Addr} {H1 : Hp} {a : Addr} {xs : List V} {ds : List PyData} (tb : Tb G H1) (s : H1 a = some (.lst xs)) (d : Da K H1 xs ds) (ha : a ∉ ms) : Wk K G ms (Itl K a) H1 ds := fun H g t => by
  have l := d.len
  have s' : H a = some (.lst xs) := g.keep a _ s (not_tab tb s (fun q z => by cases z)) ha
  refine ⟨⟨xs, SqL.of s', by omega⟩, fun i hi => ?_⟩
  have hx : xs[i]? = some (xs[i]'(by omega)) := List.getElem?_eq_getElem _
  refine ⟨⟨xs, _, SqL.of s', hx⟩, fun x H' h => ?_⟩
  obtain ⟨rfl, h2⟩ := h
  obtain ⟨e, h3, h4⟩ := d.getV (h2 xs (SqL.of s'))
  exact ⟨Gr.refl, e, h3, Dt.tk g.tk _ _ h4⟩
def rngD (lo n : Nat) : List PyData := (List.range' lo n).map fun i => PyData.int (i : Nat)
theorem wk_rng {K : PySem.W.Frag} {ms : List Addr} {H1 : Hp} {lo n : Nat} : Wk K G ms (Itr (lo : Nat) n) H1 (rngD lo n) := fun H g t => by
  have l : (rngD lo n).length = n := by simp [rngD]
  refine ⟨by rw [l]; exact Nat.le_refl n, fun i hi => ?_⟩
  rw [l] at hi
  refine ⟨hi, fun x H' h => ?_⟩
  obtain ⟨rfl, rfl⟩ := h
  refine ⟨Gr.refl, .int ((lo + i : Nat) : Int), ?_, ?_⟩
  · unfold rngD
    rw [List.getElem?_map, List.getElem?_range' hi]
    simp
  · have e : (lo : Int) + (i : Int) = ((lo + i : Nat) : Int) := by omega
    rw [e]
    exact .int _
theorem ep_tup {ms : List Addr} {tg e : Expr} {ds : List PyData} (h : Ed X G e ρ J (.d (.tuple ds))) : Ep X G ms tg e ρ J ds := fun σ H R s t j q => by
  refine ⟨_, pi_tup pe_c, h σ H _ s t j fun v H1 s1 g1 => ?_⟩
  obtain ⟨_, e1, d1⟩ := s1
  cases e1
  obtain ⟨a, xs, rfl, st, da⟩ := d1.tup_inv
  exact ⟨a, rfl, ⟨xs, st⟩, q _ H1 (wk_tup st da) g1⟩
theorem ep_lst {ms : List Addr} {tg e : Expr} {a : Addr} {ds : List PyData} (h : Ed X G e ρ J (.l a ds)) (ha : a ∉ ms) : Ep X G ms tg e ρ J ds := fun σ H R s t j q => by
  refine ⟨_, pi_list pe_c, h σ H _ s t j fun v H1 s1 g1 => ?_⟩
  obtain ⟨e1, xs, st, da, _⟩ := s1
  cases e1
  exact ⟨a, rfl, ⟨xs, SqL.of st⟩, q _ H1 (wk_lst (t.up g1) st da ha) g1⟩
theorem ep_rng1 {ms : List Addr} {e : Expr} {n : Nat} {x : Str} {px p1 p2 : Pos} (hm : X.mg "range" = none) (he : Ed X G e ρ J (.d (.int (n : Nat)))) (hn : n ≤ 1000000) (hg : Gl X "range" := by rfl) (h1 : starEach [e] X.env = [(false, eval e X.env)] := by rfl) :
    Ep X G ms (.Name x px) (.Call (.Name "range" p1) [e] [] p2) ρ J (rngD 0 n) := fun σ H R s t j q => by
  refine ⟨_, pi_range1 hg hm pa_c h1, ea_cons he ea_nil (by rw [h1] <;> rfl) σ H _ s t j fun vs H1 s1 g1 => ?_⟩
  match vs, s1 with
  | [v], s1 =>
    obtain ⟨_, e1, d1⟩ := s1.1
    cases e1; cases d1
    refine ⟨(n : Nat), rfl, by omega, by omega, ?_⟩
    have e : ((n : Nat) : Int).toNat = n := by omega
    rw [e]
    exact q _ H1 (wk_rng (lo := 0)) g1
theorem ep_rng2 {ms : List Addr} {e1 e2 : Expr} {lo n : Nat} {x : Str} {px p1 p2 : Pos} (hm : X.mg "range" = none) (he1 : Ed X G e1 ρ J (.d (.int (lo : Nat)))) (he2 : Ed X G e2 ρ J (.d (.int (n : Nat)))) (hlo : lo ≤ n) (hn : n ≤ 1000000) (hg : Gl X "range" := by rfl)
    (h1 : starEach [e1, e2] X.env = [(false, eval e1 X.env), (false, eval e2 X.env)] := by rfl) (h2 : starEach [e2] X.env = [(false, eval e2 X.env)] := by rfl) :
    Ep X G ms (.Name x px) (.Call (.Name "range" p1) [e1, e2] [] p2) ρ J (rngD lo (n - lo)) := fun σ H R s t j q => by
  refine ⟨_, pi_range2 hg hm pa_c h1 h2, ea_cons he1 (ea_cons he2 ea_nil (by rw [h2] <;> rfl)) (by rw [h1, h2]) σ H _ s t j fun vs H1 s1 g1 => ?_⟩
  match vs, s1 with
  | [v, w], s1 =>
    obtain ⟨_, e1, d1⟩ := s1.1
    obtain ⟨_, e2, d2⟩ := s1.2.1
    cases e1; cases d1; cases e2; cases d2
    refine ⟨(lo : Nat), (n : Nat), rfl, ⟨by omega, by omega, by omega, by omega⟩, ?_⟩
    have e : (((n : Nat) : Int) - ((lo : Nat) : Int)).toNat = n - lo := by omega
    rw [e]
    exact q _ H1 wk_rng g1

theorem ei_p {ms : List Addr} {tg e : Expr} {ds : List PyData} (h : Ep X G ms tg e ρ J ds) : Ei X G ms tg e ρ J (Just ds J) := fun σ H R s t j q => h σ H R s t j fun T H1 wk g => q ds J T H1 ⟨rfl, rfl⟩ wk (s.g0 g t) (t.up g) g.tk g.dom (J.up g t j)
/-- over the signs of a text -/
def sgnD (x : Str) : List PyData := x.cps.toList.map fun c => PyData.str ⟨#[c]⟩
theorem ep_str {ms : List Addr} {tg e : Expr} {x : Str} (h : Ed X G e ρ J (.d (.str x))) : Ep X G ms tg e ρ J (sgnD x) := fun σ H R s t j q => by
  refine ⟨_, pi_str pe_c, h σ H _ s t j fun v H1 s1 g1 => ?_⟩
  obtain ⟨_, e1, d1⟩ := s1
  cases e1; cases d1
  have l : (sgnD x).length = x.cps.size := by simp [sgnD]
  refine ⟨x, rfl, q _ H1 (fun H' g t => ⟨by rw [l]; exact Nat.le_refl _, fun i hi => ⟨by rw [l] at hi; exact hi, fun y H'' hy => ?_⟩⟩) g1⟩
  obtain ⟨rfl, c, hc, rfl⟩ := hy
  refine ⟨Gr.refl, .str ⟨#[c]⟩, ?_, .str _⟩
  unfold sgnD
  rw [List.getElem?_map, Array.getElem?_toList, hc] <;> rfl
/-! ### for -/
/-- one of these holds, and nothing but ms has changed since H1 -/
def AnyF (X : Cx) (ms : List Addr) (H1 : Hp) (I : List Sv → As G → Prop) : L2.St → Hp → Prop := fun σ H => ∃ ρ J, I ρ J ∧ Sl X.K H ρ σ ∧ Tb G H ∧ J.P H ∧ Gr G ms H1 H
theorem f_anyF {ms : List Addr} {H1 : Hp} {I : List Sv → As G → Prop} {J' : As G} (hI : I ρ J) (h : ∀ H : Hp, J'.P H → J.P H ∧ Gr G ms H1 H) : Fin X (AnyF X ms H1 I) ρ J' := fun σ H s t j => ⟨ρ, J, hI, s, t, (h H j).1, (h H j).2⟩
theorem f_fall {D : Ends} {tg it : Expr} {body : List Stmt} {pos : Pos} (ms : List Addr) {gt : TG} {Pi : List PyData → As G → Prop} {St : PyData → List Sv → List Sv → Prop} (Pd : PyData → Prop) (hit : Ei X G ms tg it ρ J Pi)
    (hgt : PG X tg gt) (hst : ∀ (d : PyData) (ρ : List Sv) (σ : L2.St) (v : V) (H : Hp) (Q : L2.St → Hp → Prop), Pd d → Sl X.K H ρ σ → Dt X.K H v d → (∀ ρ' σ', St d ρ ρ' → Sl X.K H ρ' σ' → Q σ' H) → gt v σ H Q)
    (h : ∀ ds J1 σ H1, Pi ds J1 → Sl X.K H1 ρ σ → Tb G H1 → J1.P H1 → (∀ d ∈ ds, Pd d) ∧ ∃ I : Nat → List Sv → As G → Prop, (∃ J0, I 0 ρ J0 ∧ J0.P H1) ∧
      (∀ n d ρ ρ' J, ds[n]? = some d → I n ρ J → St d ρ ρ' → (∀ σ H, Sl X.K H ρ' σ → Tb G H → J.P H → Gr G ms H1 H → cSs X body { D with nx := AnyF X ms H1 (I (n + 1)), ct := AnyF X ms H1 (I (n + 1)), bk := D.nx } σ H)) ∧
      ∀ ρ J σ H, I ds.length ρ J → Sl X.K H ρ σ → Tb G H → J.P H → Gr G ms H1 H → D.nx σ H)
    (hp : PassesOwn (model X.prog X.w) X.A X.env X.xe) (hc : X.calm = true := by rfl) (hsi : ∀ x, foldedSetIterable it X.env x = pure x := by intro _; rfl) :
    Fin X (cS X (.For tg it body [] pos) D) ρ J := fun σ H s t j => by
  refine ⟨_, ps_for hp hc pi_c hgt pss_c hsi, hit σ H _ s t j fun ds J1 T H1 hP wk s1 t1 _ _ j1 => ?_⟩
  obtain ⟨hPd, I, ⟨J0, i0, j0⟩, hs, hd⟩ := h ds J1 σ H1 hP s1 t1 j1
  refine ⟨fun i m σ' H' => m + i = ds.length ∧ AnyF X ms H1 (I i) σ' H', ⟨ds.length, rfl, ρ, J0, i0, s1, t1, j0, Gr.refl⟩, fun i m σ' H' hw => ?_⟩
  obtain ⟨hm, ρ', J', hI, s', t', j', g'⟩ := hw
  obtain ⟨hstop, hgo⟩ := wk H' g' t'
  by_cases hi : i < ds.length
  · obtain ⟨hg, hy⟩ := hgo i hi
    refine .inr ⟨hg, AnyF X ms H1 (I (i + 1)), fun σ'' H'' h2 => ⟨m - 1, by omega, by omega, h2⟩, fun x H'' hx => ?_⟩
    obtain ⟨gx, d, hd', dx⟩ := hy x H'' hx
    refine hst d ρ' σ' x H'' _ (hPd d (List.mem_of_getElem? hd')) (s'.g0 gx t') dx fun ρ'' σ'' hSt s'' => ?_
    exact hs i d ρ' ρ'' J' hd' hI hSt σ'' H'' s'' (t'.up gx) (J'.up gx t' j') (g'.trans gx.wide)
  · have e : i = ds.length := by omega
    subst e
    exact .inl ⟨hstop, hd ρ' J' σ' H' hI s' t' j' g'⟩
/-- for x in .., the assertions of the form Jl: the loop's own heap H1 comes ahead of the others -/
theorem f_for (i : Nat) {D : Ends} {x : Str} {it : Expr} {body : List Stmt} {px pos : Pos} (ms : List Addr) {Pi : List PyData → As G → Prop} (hit : Ei X G ms (.Name x px) it ρ J Pi)
    (h : ∀ ds J1 σ H1, Pi ds J1 → Sl X.K H1 ρ σ → Tb G H1 → J1.P H1 → ∃ (L : List (List Addr × Hp)) (I : Nat → List Sv → As G → Prop), (∃ A0, I 0 ρ A0 ∧ (Jl L A0).P H1) ∧
      (∀ n d ρ A, ds[n]? = some d → I n ρ A → Fin X (cSs X body { D with nx := AnyF X ms H1 (fun ρ J => ∃ A, J = Jl L A ∧ I (n + 1) ρ A), ct := AnyF X ms H1 (fun ρ J => ∃ A, J = Jl L A ∧ I (n + 1) ρ A), bk := D.nx }) (ρ.set i (.d d)) (Jl ((ms, H1) :: L) A)) ∧
      ∀ ρ A, I ds.length ρ A → Fin X D.nx ρ (Jl L A))
    (hp : PassesOwn (model X.prog X.w) X.A X.env X.xe) (hN : X.N.Nodup) (hc : X.calm = true := by rfl) (hi : X.N[i]? = some x := by rfl) (hx : Loc X.env.scope x := by first | exact Or.inl rfl | exact Or.inr rfl)
    (hf : X.fn x = true ∨ X.env.scope.names.lookup x = some .local := by first | exact .inl rfl | exact .inr rfl) (hsi : ∀ x, foldedSetIterable it X.env x = pure x := by intro _; rfl) :
    Fin X (cS X (.For (.Name x px) it body [] pos) D) ρ J :=
  f_fall ms (St := fun d ρ ρ' => ρ' = ρ.set i (.d d)) (fun _ => True) hit (pg_name hN hi hx hf) (fun d ρ σ v H Q _ s dv q => q _ _ rfl (s.set i ⟨v, rfl, dv⟩)) (fun ds J1 σ H1 hP s1 t1 j1 => by
    obtain ⟨L, I, ⟨A0, i0, j0⟩, hs, hd⟩ := h ds J1 σ H1 hP s1 t1 j1
    refine ⟨fun _ _ => trivial, fun n ρ J => ∃ A, J = Jl L A ∧ I n ρ A, ⟨_, ⟨A0, rfl, i0⟩, j0⟩, fun n d ρ ρ' J hd' hI hSt σ H s t j g => ?_, fun ρ J σ H hI s t j g => ?_⟩
    · obtain ⟨A, rfl, hI⟩ := hI
      rw [show ρ' = ρ.set i (.d d) from hSt] at s
      exact hs n d ρ A hd' hI σ H s t (Jl.push j g)
    · obtain ⟨A, rfl, hI⟩ := hI
      exact hd ρ A hI σ H s t j) hp hc hsi
theorem f_next {ms : List Addr} {H1 : Hp} {L : List (List Addr × Hp)} {A : As G} {I : List Sv → As G → Prop} (hI : I ρ A) : Fin X (AnyF X ms H1 (fun ρ J => ∃ A, J = Jl L A ∧ I ρ A)) ρ (Jl ((ms, H1) :: L) A) :=
  f_anyF ⟨A, rfl, hI⟩ fun H h => ⟨Jl.pop h, h.1 _ List.mem_cons_self⟩
end
end Wb

/-! The logic's third part: calls that change the heap, objects, dicts. -/
namespace Wb
open PySem PySem.Spec PyProof.Rows L2

section
variable {X : Cx} {G : Addr → Prop} {ρ : List Sv} {J : As G}
def Ek (X : Cx) (G : Addr → Prop) (e : Expr) (ρ : List Sv) (J : As G) (Post : Sv → As G → Prop) : Prop := ∀ (σ : L2.St) (H : Hp) (Q : VK), Sl X.K H ρ σ → Tb G H → J.P H →
  (∀ r J' v H', Post r J' → SvOk X.K H' r (some v) → Fresh H r → Sl X.K H' ρ σ → Tb G H' → Tk H H' → (∀ b, H' b = none → H b = none) → J'.P H' → Q v H') → cE X e σ H Q
theorem ek_ed {e : Expr} {r : Sv} {Post : Sv → As G → Prop} (h : Ed X G e ρ J r) (hP : Post r J) (hF : ∀ H, Fresh H r := by exact fun _ => trivial) : Ek X G e ρ J Post := fun σ H Q s t j q =>
  h σ H Q s t j fun v H' s1 g => q r J v H' hP s1 (hF H) (s.g0 g t) (t.up g) g.tk g.dom (J.up g t j)
theorem Ek.mono {e : Expr} {Post Post' : Sv → As G → Prop} (h : Ek X G e ρ J Post) (hP : ∀ r J', Post r J' → Post' r J') : Ek X G e ρ J Post' := fun σ H Q s t j q => h σ H Q s t j fun r J' v H' p => q r J' v H' (hP r J' p)

/-! ### calls -/
def spS (K : PySem.W.Frag) (G : Addr → Prop) (R : List Sv → As G → List Addr → (Sv → As G → Prop) → Prop) : Sp := fun vs H Q _ =>
  ∃ rs A ms Post, R rs A ms Post ∧ SvA K H rs vs ∧ Tb G H ∧ A.P H ∧ ∀ r B v H', Post r B → SvOk K H' r (some v) → Fresh H r → Gr G ms H H' → B.P H' → Q v H'
section
variable {R : List Sv → As G → List Addr → (Sv → As G → Prop) → Prop} {rs ss : List Sv} {A : As G} {ms : List Addr} {P0 Post : Sv → As G → Prop} {dvs : List V} {k : Nat}
/-- what comes back from a call whose arguments have been read -/
theorem ret_k {vs : List V} {H H1 : Hp} {σ : L2.St} {Q : VK} (hd : ∀ H, SvA X.K H ss dvs) (hR : R (rs ++ ss) A ms P0) (hJA : ∀ H, J.P H → A.P H) (hoff : OffL ms ρ)
    (hP : ∀ r B H H', P0 r B → J.P H → Tb G H → Gr G ms H H' → B.P H' → ∃ J', Post r J' ∧ J'.P H') (s : Sl X.K H ρ σ) (t : Tb G H) (j : J.P H) (s1 : SvA X.K H1 rs vs) (g1 : Gr G [] H H1)
    (q : ∀ r J' v H', Post r J' → SvOk X.K H' r (some v) → Fresh H r → Sl X.K H' ρ σ → Tb G H' → Tk H H' → (∀ b, H' b = none → H b = none) → J'.P H' → Q v H') : spS X.K G R (vs ++ dvs) H1 Q E0 :=
  ⟨rs ++ ss, A, ms, P0, hR, s1.app (hd H1), t.up g1, hJA _ (J.up g1 t j), fun r B v H2 p s2 f2 g2 b => by
    obtain ⟨J', hp', hj'⟩ := hP r B H1 H2 p (J.up g1 t j) (t.up g1) g2 b
    have fr : Fresh H r := by
      cases r with
      | u => trivial
      | d x => trivial
      | l a ds => exact g1.free f2
      | v x => cases x <;> first | trivial | exact g1.free f2
    have g : Gr G ms H H2 := g1.wide.trans g2
    exact q r J' v H2 hp' s2 fr (Sl.up g2 (t.up g1) hoff.all (s.g0 g1 t)) (t.up g) g.tk g.dom hj'⟩
theorem ret_d {r : Sv} {vs : List V} {H H1 : Hp} {Q : VK} (hd : ∀ H, SvA X.K H ss dvs) (hR : R (rs ++ ss) A [] P0) (hJA : ∀ H, J.P H → A.P H) (hP : ∀ r' B, P0 r' B → r' = r) (t : Tb G H) (j : J.P H) (s1 : SvA X.K H1 rs vs) (g1 : Gr G [] H H1)
    (q : ∀ v H', SvOk X.K H' r (some v) → Gr G [] H H' → Q v H') : spS X.K G R (vs ++ dvs) H1 Q E0 :=
  ⟨rs ++ ss, A, [], P0, hR, s1.app (hd H1), t.up g1, hJA _ (J.up g1 t j), fun r' B v H2 p s2 _ g2 _ => by
    rw [hP r' B p] at s2
    exact q v H2 s2 (g1.trans g2)⟩
theorem ret_n {ds : List PyData} {vs : List V} {H H1 : Hp} {Q : VK} (hd : ∀ H, SvA X.K H ss dvs) (hR : R (rs ++ ss) A [] P0) (hJA : ∀ H, J.P H → A.P H) (hP : ∀ r' B, P0 r' B → ∃ a, r' = .l a ds) (t : Tb G H) (j : J.P H) (s1 : SvA X.K H1 rs vs) (g1 : Gr G [] H H1)
    (q : ∀ a H', H a = none → SvOk X.K H' (.l a ds) (some (.ref a)) → Gr G [] H H' → Q (.ref a) H') : spS X.K G R (vs ++ dvs) H1 Q E0 :=
  ⟨rs ++ ss, A, [], P0, hR, s1.app (hd H1), t.up g1, hJA _ (J.up g1 t j), fun r' B v H2 p s2 f2 g2 _ => by
    obtain ⟨a, e⟩ := hP r' B p
    subst e
    have e := s2.1
    injection e with e
    subst e
    exact q a H2 (g1.free f2) s2 (g1.trans g2)⟩
section
variable {x : Str} {p pos : Pos} {e : Expr} {es : List Expr}
theorem ek_call (C : Cal X.prog X.w X.K X.mg X.base k x (spS X.K G R) dvs) (hr : Room k X.A) (ha : Ea X G (e :: es) ρ J rs) (hd : ∀ H, SvA X.K H ss dvs) (hR : R (rs ++ ss) A ms P0) (hJA : ∀ H, J.P H → A.P H) (hoff : OffL ms ρ)
    (hP : ∀ r B H H', P0 r B → J.P H → Tb G H → Gr G ms H H' → B.P H' → ∃ J', Post r J' ∧ J'.P H')
    (hg : Gl X x := by rfl) (hdb : (x == ("__debug__" : Str)) = false := by decide) (he : starEach (e :: es) X.env = (false, eval e X.env) :: starEach es X.env := by rfl) (hpl : (backTo pos (starEach es X.env)).any (·.1) = false := by rfl) : Ek X G (.Call (.Name x p) (e :: es) [] pos) ρ J Post := fun σ H Q s t j q => by
  obtain ⟨f, fd, ps, ds, F, hm, hk, hb, hv⟩ := C
  exact ⟨_, pe_call F hr hg hm hk hb hv pass0 pa_c hdb he hpl, ha σ H _ s t j fun vs H1 s1 g1 => ret_k hd hR hJA hoff hP s t j s1 g1 q⟩
theorem ed_callS {r : Sv} (C : Cal X.prog X.w X.K X.mg X.base k x (spS X.K G R) dvs) (hr : Room k X.A) (ha : Ea X G (e :: es) ρ J rs) (hd : ∀ H, SvA X.K H ss dvs) (hR : R (rs ++ ss) A [] P0) (hJA : ∀ H, J.P H → A.P H) (hP : ∀ r' B, P0 r' B → r' = r)
    (hg : Gl X x := by rfl) (hdb : (x == ("__debug__" : Str)) = false := by decide) (he : starEach (e :: es) X.env = (false, eval e X.env) :: starEach es X.env := by rfl) (hpl : (backTo pos (starEach es X.env)).any (·.1) = false := by rfl) : Ed X G (.Call (.Name x p) (e :: es) [] pos) ρ J r := fun σ H Q s t j q => by
  obtain ⟨f, fd, ps, ds, F, hm, hk, hb, hv⟩ := C
  exact ⟨_, pe_call F hr hg hm hk hb hv pass0 pa_c hdb he hpl, ha σ H _ s t j fun vs H1 s1 g1 => ret_d hd hR hJA hP t j s1 g1 q⟩
theorem en_callS {ds : List PyData} (C : Cal X.prog X.w X.K X.mg X.base k x (spS X.K G R) dvs) (hr : Room k X.A) (ha : Ea X G (e :: es) ρ J rs) (hd : ∀ H, SvA X.K H ss dvs) (hR : R (rs ++ ss) A [] P0) (hJA : ∀ H, J.P H → A.P H) (hP : ∀ r' B, P0 r' B → ∃ a, r' = .l a ds)
    (hg : Gl X x := by rfl) (hdb : (x == ("__debug__" : Str)) = false := by decide) (he : starEach (e :: es) X.env = (false, eval e X.env) :: starEach es X.env := by rfl) (hpl : (backTo pos (starEach es X.env)).any (·.1) = false := by rfl) : En X G (.Call (.Name x p) (e :: es) [] pos) ρ J ds := fun σ H Q s t j q => by
  obtain ⟨f, fd, ps, dd, F, hm, hk, hb, hv⟩ := C
  exact ⟨_, pe_call F hr hg hm hk hb hv pass0 pa_c hdb he hpl, ha σ H _ s t j fun vs H1 s1 g1 => ret_n hd hR hJA hP t j s1 g1 q⟩
theorem ek_call0 (C : Cal X.prog X.w X.K X.mg X.base k x (spS X.K G R) dvs) (hr : Room k X.A) (hd : ∀ H, SvA X.K H ss dvs) (hR : R ss A ms P0) (hJA : ∀ H, J.P H → A.P H) (hoff : OffL ms ρ)
    (hP : ∀ r B H H', P0 r B → J.P H → Tb G H → Gr G ms H H' → B.P H' → ∃ J', Post r J' ∧ J'.P H')
    (hg : Gl X x := by rfl) (hdb : (x == ("__debug__" : Str)) = false := by decide) : Ek X G (.Call (.Name x p) [] [] pos) ρ J Post := fun σ H Q s t j q => by
  obtain ⟨f, fd, ps, ds, F, hm, hk, hb, hv⟩ := C
  exact ⟨_, pe_call0 F hr hg hm hk hb hv pass0 hdb, ret_k (rs := []) (vs := []) hd hR hJA hoff hP s t j trivial Gr.refl q⟩
end
/-! ### objects -/
def IAt (K : PySem.W.Frag) (H : Hp) (a C : Addr) (ns : List Str) (ρ : List Sv) : Prop := ∃ dx vs, H a = some (.ins C dx (ns.zip vs)) ∧ vs.length = ns.length ∧ SvA K H ρ vs
def As.ins (G : Addr → Prop) (K : PySem.W.Frag) (a C : Addr) (ns : List Str) (ρ : List Sv) : As G := ⟨fun H => IAt K H a C ns ρ, fun g t h => by
  obtain ⟨dx, vs, h1, h2, h3⟩ := h
  exact ⟨dx, vs, g.keep a _ h1 (not_tab t h1 (fun q z => by cases z)) (by simp), h2, h3.g0 g t⟩⟩
theorem SvA.up {K : PySem.W.Frag} {H H1 : Hp} {ms : List Addr} (g : Gr G ms H H1) (t : Tb G H) : ∀ {rs : List Sv} {vs : List V}, OffL ms rs → SvA K H rs vs → SvA K H1 rs vs
  | [], [], _, _ => trivial
  | _ :: _, _ :: _, o, h => ⟨h.1.up g t o.1, SvA.up g t o.2 h.2⟩
  | [], _ :: _, _, h => h.elim
  | _ :: _, [], _, h => h.elim
/-- what changes elsewhere leaves it -/
theorem IAt.frame {K : PySem.W.Frag} {H H1 : Hp} {a C : Addr} {ns : List Str} {rs : List Sv} {ms : List Addr} (h : IAt K H a C ns rs) (g : Gr G ms H H1) (t : Tb G H) (ha : a ∉ ms) (o : OffL ms rs) : IAt K H1 a C ns rs := by
  obtain ⟨dx, vs, h1, h2, h3⟩ := h
  exact ⟨dx, vs, g.keep a _ h1 (not_tab t h1 (fun q z => by cases z)) ha, h2, h3.up g t o⟩
theorem SvA.len {K : PySem.W.Frag} {H : Hp} : ∀ {rs : List Sv} {vs : List V}, SvA K H rs vs → vs.length = rs.length
  | [], [], _ => rfl
  | _ :: _, _ :: _, h => congrArg Nat.succ (SvA.len h.2)
  | [], _ :: _, h => h.elim
  | _ :: _, [], h => h.elim
theorem SvA.get {K : PySem.W.Frag} {H : Hp} : ∀ {rs : List Sv} {vs : List V} {i : Nat} {r : Sv}, SvA K H rs vs → rs[i]? = some r → ∃ v, vs[i]? = some v ∧ SvOk K H r (some v)
  | [], [], _, _, _, e => by simp at e
  | s :: rs, v :: vs, 0, r, h, e => by simp at e; subst e; exact ⟨v, rfl, h.1⟩
  | s :: rs, v :: vs, i + 1, r, h, e => by
    obtain ⟨v', h1, h2⟩ := SvA.get (i := i) (r := r) h.2 (by simpa using e)
    exact ⟨v', by simpa using h1, h2⟩
  | [], _ :: _, _, _, h, _ => h.elim
  | _ :: _, [], _, _, h, _ => h.elim
theorem SvA.set {K : PySem.W.Frag} {H : Hp} : ∀ {rs : List Sv} {vs : List V} {r : Sv} {v : V} (i : Nat), SvA K H rs vs → SvOk K H r (some v) → SvA K H (rs.set i r) (vs.set i v)
  | [], [], _, _, _, _, _ => trivial
  | s :: rs, w :: vs, _, _, 0, h, q => ⟨q, h.2⟩
  | s :: rs, w :: vs, _, _, i + 1, h, q => ⟨h.1, SvA.set i h.2 q⟩
  | [], _ :: _, _, _, _, h, _ => h.elim
  | _ :: _, [], _, _, _, h, _ => h.elim
theorem lookup_zip {α : Type} : ∀ {ns : List Str} {vs : List α} {j : Nat} {f : Str} {v : α}, ns.Nodup → ns[j]? = some f → vs[j]? = some v → (ns.zip vs).lookup f = some v
  | [], _, _, _, _, _, e, _ => by simp at e
  | _ :: _, [], _, _, _, _, _, e => by simp at e
  | n :: ns, w :: vs, 0, f, v, hn, e1, e2 => by
    simp at e1 e2
    subst e1 e2
    simp [List.lookup]
  | n :: ns, w :: vs, j + 1, f, v, hn, e1, e2 => by
    have hn' := List.nodup_cons.mp hn
    have e1' : ns[j]? = some f := by simpa using e1
    have ne : (f == n) = false := by
      cases q : (f == n) with
      | false => rfl
      | true =>
        have e := beq_iff_eq.mp q
        subst e
        exact absurd (List.mem_of_getElem? e1') hn'.1
    show (match f == n with | true => some w | false => (ns.zip vs).lookup f) = some v
    rw [ne]
    exact lookup_zip hn'.2 e1' (by simpa using e2)
theorem lookup_zipN {α : Type} : ∀ {ns : List Str} {vs : List α} {f : Str}, f ∉ ns → (ns.zip vs).lookup f = none
  | [], _, _, _ => rfl
  | _ :: _, [], _, _ => rfl
  | n :: ns, w :: vs, f, h => by
    have ne : (f == n) = false := by
      cases q : (f == n) with
      | false => rfl
      | true => exact absurd (by rw [beq_iff_eq.mp q]; exact List.mem_cons_self) h
    show (match f == n with | true => some w | false => (ns.zip vs).lookup f) = none
    rw [ne]
    exact lookup_zipN fun z => h (List.mem_cons_of_mem _ z)
/-- o.f -/
theorem ed_fld {o : Expr} {f : Str} {a C : Addr} {ns : List Str} {ρo : List Sv} {r : Sv} {pos : Pos} (j : Nat) (ho : Ed X G o ρ J (.v (.ref a))) (hI : ∀ H, J.P H → IAt X.K H a C ns ρo) (hc : Cls X.K C) (hn : NoAttr X.K C f)
    (hnd : ns.Nodup) (hj : ns[j]? = some f := by rfl) (hr : ρo[j]? = some r := by rfl) (hb : attributeBase o f X.env (eval o X.env) = eval o X.env := by rfl) : Ed X G (.Attribute o f pos) ρ J r := fun σ H Q s t jj q => by
  refine ⟨_, pe_fld pe_c hb, ho σ H _ s t jj fun v H1 s1 g1 => ?_⟩
  cases s1
  obtain ⟨dx, vs, h1, h2, h3⟩ := hI H1 (J.up g1 t jj)
  obtain ⟨v, h4, h5⟩ := h3.get hr
  exact ⟨a, C, dx, _, v, rfl, h1, hc, hn, lookup_zip hnd hj h4, q v H1 h5 g1⟩
section
variable {D : Ends}
theorem putF_zip {f : Str} {y : V} : ∀ {ns : List Str} {vs : List V} {j : Nat}, ns.Nodup → ns[j]? = some f → vs.length = ns.length → putF f y (ns.zip vs) = ns.zip (vs.set j y) := by
  intro ns
  induction ns with
  | nil => intro vs j _ e; simp at e
  | cons n ns ih =>
    intro vs j hn e hl
    cases vs with
    | nil => simp at hl
    | cons w vs =>
      have hn' := List.nodup_cons.mp hn
      cases j with
      | zero =>
        simp at e
        subst e
        simp [putF]
      | succ j =>
        have e' : ns[j]? = some f := by simpa using e
        have ne : ¬ n = f := fun z => hn'.1 (z ▸ List.mem_of_getElem? e')
        have := ih (vs := vs) (j := j) hn'.2 e' (by simpa using hl)
        simp only [List.zip_cons_cons, List.set_cons_succ]
        show putF f y ((n, w) :: ns.zip vs) = _
        unfold putF
        first
          | (rw [if_neg ne, this])
          | (simp [ne, this])
theorem putF_new {f : Str} {y : V} : ∀ {ns : List Str} {vs : List V}, f ∉ ns → vs.length = ns.length → putF f y (ns.zip vs) = (ns ++ [f]).zip (vs ++ [y]) := by
  intro ns
  induction ns with
  | nil =>
    intro vs _ hl
    cases vs with
    | nil => rfl
    | cons _ _ => simp at hl
  | cons n ns ih =>
    intro vs hn hl
    cases vs with
    | nil => simp at hl
    | cons w vs =>
      have ne : ¬ n = f := fun z => hn (by rw [z]; exact List.mem_cons_self)
      have := ih (vs := vs) (fun z => hn (List.mem_cons_of_mem _ z)) (by simpa using hl)
      show putF f y ((n, w) :: ns.zip vs) = _
      unfold putF
      first
        | (rw [if_neg ne, this]; rfl)
        | (simp [ne, this])
end
end
end
end Wb

/-! The logic's fourth part: statements that change the heap. -/
namespace Wb
open PySem PySem.Spec PyProof.Rows L2

section
variable {X : Cx} {G : Addr → Prop} {ρ : List Sv} {J : As G}
theorem Fresh.back {ms : List Addr} {H H1 : Hp} {r : Sv} (g : Gr G ms H H1) (f : Fresh H1 r) : Fresh H r := by
  cases r with
  | u => trivial
  | d x => trivial
  | l a ds => exact g.free f
  | v x => cases x <;> first | trivial | exact g.free f
/-! ### a store to a thing that is no list -/
theorem SvOk.at_ {K : PySem.W.Frag} {H : Hp} {r : Sv} {o : Option V} {a : Addr} {u w : HO} (h : SvOk K H r o) (ha : H a = some u) (hu : Plain u) (hl : ∀ xs, u ≠ .lst xs) : SvOk K (upd H a w) r o := by
  have g : Gr (fun _ => False) [a] H (upd H a w) := Gr.put ha hu (by simp)
  refine h.up g (fun _ z => z.elim) ?_
  cases r with
  | l p ds =>
    obtain ⟨_, vs, h1, _, _⟩ := h
    show p ∉ [a]
    intro z
    rw [List.mem_singleton.mp z, ha] at h1
    injection h1 with h1
    exact hl _ h1
  | _ => trivial
theorem Sl.at_ {K : PySem.W.Frag} {H : Hp} {a : Addr} {u w : HO} (ha : H a = some u) (hu : Plain u) (hl : ∀ xs, u ≠ .lst xs) : ∀ {ρ : List Sv} {σ : L2.St}, Sl K H ρ σ → Sl K (upd H a w) ρ σ
  | [], [], _ => trivial
  | _ :: _, _ :: _, h => ⟨h.1.at_ ha hu hl, Sl.at_ ha hu hl h.2⟩
  | [], _ :: _, h => h.elim
  | _ :: _, [], h => h.elim
theorem SvA.at_ {K : PySem.W.Frag} {H : Hp} {a : Addr} {u w : HO} (ha : H a = some u) (hu : Plain u) (hl : ∀ xs, u ≠ .lst xs) : ∀ {ρ : List Sv} {σ : List V}, SvA K H ρ σ → SvA K (upd H a w) ρ σ
  | [], [], _ => trivial
  | _ :: _, _ :: _, h => ⟨h.1.at_ ha hu hl, SvA.at_ ha hu hl h.2⟩
  | [], _ :: _, h => h.elim
  | _ :: _, [], h => h.elim
theorem SvA.app1 {K : PySem.W.Frag} {H : Hp} {r : Sv} {v : V} : ∀ {rs : List Sv} {vs : List V}, SvA K H rs vs → SvOk K H r (some v) → SvA K H (rs ++ [r]) (vs ++ [v])
  | [], [], _, q => ⟨q, trivial⟩
  | _ :: _, _ :: _, h, q => ⟨h.1, SvA.app1 h.2 q⟩
  | [], _ :: _, h, _ => h.elim
  | _ :: _, [], h, _ => h.elim
/-- a new address is none of the known lists -/
theorem OffL.newA {K : PySem.W.Frag} {H : Hp} {p : Addr} (n : H p = none) : ∀ {rs : List Sv} {vs : List V}, SvA K H rs vs → OffL [p] rs
  | [], [], _ => trivial
  | r :: _, _ :: _, h => ⟨by
    cases r with
    | l a ds =>
      obtain ⟨_, xs, h1, _⟩ := h.1
      show a ∉ [p]
      intro z
      rw [List.mem_singleton.mp z, n] at h1
      cases h1
    | _ => trivial, OffL.newA n h.2⟩
  | [], _ :: _, h => h.elim
  | _ :: _, [], h => h.elim
theorem OffL.newS {K : PySem.W.Frag} {H : Hp} {p : Addr} (n : H p = none) : ∀ {rs : List Sv} {vs : L2.St}, Sl K H rs vs → OffL [p] rs
  | [], [], _ => trivial
  | r :: _, _ :: _, h => ⟨by
    cases r with
    | l a ds =>
      obtain ⟨_, xs, h1, _⟩ := h.1
      show a ∉ [p]
      intro z
      rw [List.mem_singleton.mp z, n] at h1
      cases h1
    | _ => trivial, OffL.newS n h.2⟩
  | [], _ :: _, h => h.elim
  | _ :: _, [], h => h.elim

section
variable {D : Ends} {L : List (List Addr × Hp)} {A : As G}
/-! ### fields -/
/-- a field's store, the field new or not -/
inductive PutAt (f : Str) (r : Sv) : List Str → List Sv → List Str → List Sv → Prop
  | old {ns : List Str} {ρo : List Sv} (j : Nat) : ns.Nodup → ns[j]? = some f → PutAt f r ns ρo ns (ρo.set j r)
  | new {ns : List Str} {ρo : List Sv} : f ∉ ns → PutAt f r ns ρo (ns ++ [f]) (ρo ++ [r])
theorem PutAt.do_ {K : PySem.W.Frag} {f : Str} {r : Sv} {ns ns' : List Str} {ρo ρo' : List Sv} (p : PutAt f r ns ρo ns' ρo') {H : Hp} {a C dx : Addr} {vs : List V} {y : V} (h1 : H a = some (.ins C dx (ns.zip vs))) (h2 : vs.length = ns.length) (h3 : SvA K H ρo vs) (hy : SvOk K H r (some y)) :
    IAt K (upd H a (.ins C dx (putF f y (ns.zip vs)))) a C ns' ρo' := by
  cases p with
  | old j hn hj =>
    refine ⟨dx, vs.set j y, ?_, by rw [List.length_set, h2], SvA.at_ h1 trivial (fun _ z => by cases z) (h3.set j hy)⟩
    rw [upd_same, putF_zip hn hj h2]
  | new hn =>
    refine ⟨dx, vs ++ [y], ?_, by rw [List.length_append, List.length_append, h2] <;> rfl, SvA.at_ h1 trivial (fun _ z => by cases z) (h3.app1 hy)⟩
    rw [upd_same, putF_new hn h2]
theorem f_fld {B : As G} {o e : Expr} {f : Str} {a C : Addr} {ns ns' : List Str} {ρo ρo' : List Sv} {r : Sv} {pos pos' : Pos} (pt : PutAt f r ns ρo ns' ρo') (he : Ed X G e ρ (Jl L A) r) (ho : Ed X G o ρ (Jl L A) (.v (.ref a))) (hI : ∀ H, A.P H → IAt X.K H a C ns ρo) (hc : Cls X.K C) (hn : NoAttr X.K C f) (hm : Mu L [a])
    (hB : ∀ H H', A.P H → Tb G H → Gr G [a] H H' → IAt X.K H' a C ns' ρo' → B.P H') (k : Fin X D.nx ρ (Jl L B)) (hsz : ns.length < 1000 := by decide) (hs : swapsWith e (some (.Attribute o f pos')) pos.line X.env = pure false := by rfl) :
    Fin X (cS X (.Assign [.Attribute o f pos'] e pos) D) ρ (Jl L A) := fun σ H s t j => by
  refine ⟨_, ps_fld pe_c pe_c hs, he σ H _ s t j fun y H1 s1 g1 => ho σ H1 _ (s.g0 g1 t) (t.up g1) ((Jl L A).up g1 t j) fun v H2 s2 g2 => ?_⟩
  cases s2
  have g := g1.trans g2
  have j2 := (Jl L A).up g t j
  obtain ⟨dx, vs, h1, h2, h3⟩ := hI H2 j2.2
  refine ⟨a, C, dx, _, rfl, h1, hc, hn, by rw [List.length_zip, h2, Nat.min_self]; exact hsz, ?_⟩
  have g3 : Gr G [a] H2 (upd H2 a (.ins C dx (putF f y (ns.zip vs)))) := Gr.put h1 trivial (by simp)
  exact k σ _ (Sl.at_ h1 trivial (fun _ z => by cases z) (s.g0 g t)) (t.up (g.wide.trans g3)) (Jl.step j2 g3 hm (hB _ _ j2.2 (t.up g) g3 (pt.do_ h1 h2 h3 (s1.g0 g2 (t.up g1)))))
/-- the value is a new list -/
theorem f_fldN {B : Addr → As G} {o e : Expr} {f : Str} {a C : Addr} {ns ns' : List Str} {ρo : List Sv} {ρo' : Addr → List Sv} {ds : List PyData} {pos pos' : Pos} (pt : ∀ p, PutAt f (.l p ds) ns ρo ns' (ρo' p)) (he : En X G e ρ (Jl L A) ds) (ho : Ed X G o ρ (Jl L A) (.v (.ref a))) (hI : ∀ H, A.P H → IAt X.K H a C ns ρo) (hc : Cls X.K C) (hn : NoAttr X.K C f) (hm : Mu L [a])
    (hB : ∀ p H H', A.P H → Tb G H → Gr G [a] H H' → IAt X.K H' a C ns' (ρo' p) → (B p).P H') (k : ∀ p, Mu L [p] → OffL [p] ρo → Fin X D.nx ρ (Jl L (B p))) (hsz : ns.length < 1000 := by decide) (hs : swapsWith e (some (.Attribute o f pos')) pos.line X.env = pure false := by rfl) :
    Fin X (cS X (.Assign [.Attribute o f pos'] e pos) D) ρ (Jl L A) := fun σ H s t j => by
  refine ⟨_, ps_fld pe_c pe_c hs, he σ H _ s t j fun p H1 np s1 g1 => ho σ H1 _ (s.g0 g1 t) (t.up g1) ((Jl L A).up g1 t j) fun v H2 s2 g2 => ?_⟩
  cases s2
  have g := g1.trans g2
  have j2 := (Jl L A).up g t j
  obtain ⟨dx0, vs0, _, _, h30⟩ := hI H j.2
  obtain ⟨dx, vs, h1, h2, h3⟩ := hI H2 j2.2
  refine ⟨a, C, dx, _, rfl, h1, hc, hn, by rw [List.length_zip, h2, Nat.min_self]; exact hsz, ?_⟩
  have g3 : Gr G [a] H2 (upd H2 a (.ins C dx (putF f (.ref p) (ns.zip vs)))) := Gr.put h1 trivial (by simp)
  exact k p (Jl.fresh j np) (OffL.newA np h30) σ _ (Sl.at_ h1 trivial (fun _ z => by cases z) (s.g0 g t)) (t.up (g.wide.trans g3)) (Jl.step j2 g3 hm (hB p _ _ j2.2 (t.up g) g3 ((pt p).do_ h1 h2 h3 (s1.g0 g2 (t.up g1)))))
/-- b.append(e), b a list that is known -/
theorem f_appO {B : As G} {b e : Expr} {p : Addr} {ds : List PyData} {d : PyData} {apos cpos pos : Pos} (hb : Ed X G b ρ (Jl L A) (.l p ds)) (he : Ed X G e ρ (Jl L A) (.d d)) (hl : ds.length ≤ 1000000) (hm : Mu L [p]) (ho : OffL [p] ρ)
    (hB : ∀ H H', A.P H → Tb G H → Gr G [p] H H' → SvOk X.K H' (.l p (ds ++ [d])) (some (.ref p)) → B.P H') (k : Fin X D.nx ρ (Jl L B))
    (hs : swapsWith (.Call (.Attribute b "append" apos) [e] [] cpos) none pos.line X.env = pure false := by rfl)
    (hbase : attributeBase b "append" X.env (eval b X.env) = eval b X.env := by rfl)
    (hfew : ((backTo cpos (starEach (e :: []) X.env)).all (fun x => !x.1) && (backToKw cpos (keywordEach [] X.env)).all (fun x => x.1.isSome)
      && decide ((e :: []).length + ([] : List Keyword).length + (if ([] : List Keyword).isEmpty then 0 else 1) < 30)) = true := by rfl)
    (hline : (apos.endLine == cpos.line) = true := by rfl) (hst : starEach (e :: []) X.env = (false, eval e X.env) :: starEach [] X.env := by rfl) (hplain : (backTo cpos (starEach [] X.env)).any (·.1) = false := by rfl) :
    Fin X (cS X (.Expr (.Call (.Attribute b "append" apos) [e] [] cpos) pos) D) ρ (Jl L A) := fun σ H s t j => by
  refine ⟨_, ps_expr (pe_bm PySem.F.plainAttrs_list PySem.F.slot_list_append PySem.F.type_list_append mt_append pe_c (pa_cons pe_c pa_nil hst) hbase hfew hline hst hplain) hs, hb σ H _ s t j fun v H1 s1 g1 => ?_⟩
  obtain ⟨e1, vs0, hH, _, _⟩ := s1
  cases e1
  refine ⟨.inl ⟨rfl, vs0, SqL.of hH⟩, he σ H1 _ (s.g0 g1 t) (t.up g1) ((Jl L A).up g1 t j) fun w H2 s2 g2 => ?_⟩
  obtain ⟨_, e3, d1⟩ := s2
  cases e3
  have g := g1.trans g2
  have j2 := (Jl L A).up g t j
  have s1' : SvOk X.K H1 (.l p ds) (some (.ref p)) := ⟨rfl, vs0, hH, by assumption, by assumption⟩
  obtain ⟨_, vs, hH2, hda, hz⟩ := s1'.g0 g2 (t.up g1)
  have hlen := hda.len
  refine ⟨p, vs, w, rfl, rfl, hH2, Nat.lt_of_le_of_lt (show vs.length ≤ 1000000 by omega) (by decide), ?_⟩
  have g3 : Gr G [p] H2 (upd H2 p (.lst (vs ++ [w]))) := Gr.put hH2 trivial (by simp)
  have ok : SvOk X.K (upd H2 p (.lst (vs ++ [w]))) (.l p (ds ++ [d])) (some (.ref p)) := ⟨rfl, vs ++ [w], upd_same, (hda.app (.cons d1 .nil)).up g3, by rw [List.length_append, List.length_singleton]; exact Nat.le_trans (show vs.length + 1 ≤ 1000001 by omega) (by decide)⟩
  exact k σ _ (Sl.up g3 (t.up g) ho.all (s.g0 g t)) ((t.up g).up g3) (Jl.step j2 g3 hm (hB _ _ j2.2 (t.up g) g3 ok))
theorem IAt.lst {K : PySem.W.Frag} {H H' : Hp} {a C p : Addr} {ns : List Str} {ρo : List Sv} {ds' : List PyData} (j : Nat) {ds : List PyData} (h : IAt K H a C ns ρo) (hj : ρo[j]? = some (.l p ds)) (ho : OffL [p] (ρo.set j .u)) (t : Tb G H) (g : Gr G [p] H H') (ok : SvOk K H' (.l p ds') (some (.ref p))) : IAt K H' a C ns (ρo.set j (.l p ds')) := by
  obtain ⟨dx, vs, h1, h2, h3⟩ := h
  obtain ⟨v, hv, e, ws, hp, _⟩ := h3.get hj
  injection e with e
  subst e
  have ne : a ∉ [p] := fun z => by
    rw [List.mem_singleton.mp z, hp] at h1
    cases h1
  refine ⟨dx, vs, g.keep a _ h1 (not_tab t h1 (fun q z => by cases z)) ne, h2, ?_⟩
  have h4 : SvA K H (ρo.set j .u) (vs.set j (.ref p)) := h3.set j trivial
  have h5 := (h4.up g t ho).set j ok
  rw [List.set_set, List.set_set] at h5
  have eσ : vs.set j (.ref p) = vs := by
    apply List.ext_getElem?
    intro n
    by_cases hn : n = j
    · subst hn
      obtain ⟨h1, h2⟩ := List.getElem?_eq_some_iff.mp hv
      rw [List.getElem?_set_self h1, hv]
    · rw [List.getElem?_set_ne (Ne.symm hn)]
  rw [eσ] at h5
  exact h5
/-! ### statements around expressions that change the heap -/
theorem f_setK (i : Nat) {e : Expr} {Post : Sv → As G → Prop} {x : Str} {pos pos' : Pos} (h : Ek X G e ρ J Post) (k : ∀ r J', Post r J' → Fin X D.nx (ρ.set i r) J') (hN : X.N.Nodup) (hi : X.N[i]? = some x := by rfl) (hx : Loc X.env.scope x := by first | exact Or.inl rfl | exact Or.inr rfl)
    (hs : swapsWith e (some (.Name x pos')) pos.line X.env = pure false := by rfl) (hf : X.fn x = true ∨ X.env.scope.names.lookup x = some .local := by first | exact .inl rfl | exact .inr rfl) : Fin X (cS X (.Assign [.Name x pos'] e pos) D) ρ J := fun σ H s t j =>
  ⟨_, ps_set hN hi hx pe_c hs hf, h σ H _ s t j fun r J' v H1 p s1 _ sl t1 _ _ j1 => k r J' p _ H1 (sl.set i s1) t1 j1⟩
theorem f_dropK {e : Expr} {Post : Sv → As G → Prop} {pos : Pos} (h : Ek X G e ρ J Post) (k : ∀ r J', Post r J' → Fin X D.nx ρ J') (hs : swapsWith e none pos.line X.env = pure false := by rfl) : Fin X (cS X (.Expr e pos) D) ρ J := fun σ H s t j =>
  ⟨_, ps_expr pe_c hs, h σ H _ s t j fun r J' v H1 p _ _ sl t1 _ _ j1 => k r J' p σ H1 sl t1 j1⟩
theorem f_retK {e : Expr} {Post : Sv → As G → Prop} {pos : Pos} (h : Ek X G e ρ J Post) (k : ∀ r J' v H0 H, Post r J' → J.P H0 → Fresh H0 r → SvOk X.K H r (some v) → Tb G H → J'.P H → D.rt v H) : Fin X (cS X (.Return (some e) pos) D) ρ J := fun σ H s t j =>
  ⟨_, ps_ret pe_c, h σ H _ s t j fun r J' v H1 p s1 f _ t1 _ _ j1 => k r J' v H H1 p j f s1 t1 j1⟩
/-- what is known beside the slots -/
theorem f_if' {c : Expr} {a b : List Stmt} {x : Bool} {pos : Pos} (h : Et X G c ρ J x) (k : if x then Fin X (cSs X a D) ρ J else Fin X (cSs X b D) ρ J) : Fin X (cS X (.If c a b pos) D) ρ J := f_if h (fun e => by subst e; exact k) (fun e => by subst e; exact k)
theorem f_mono {Y : L2.St → Hp → Prop} {J' : As G} (h : Fin X Y ρ J') (hj : ∀ H, J.P H → J'.P H) : Fin X Y ρ J := fun σ H s t j => h σ H s t (hj H j)
theorem f_ex {α : Type} {Y : L2.St → Hp → Prop} {J' : α → As G} (h : ∀ x, Fin X Y ρ (J' x)) (hj : ∀ H, J.P H → ∃ x, (J' x).P H) : Fin X Y ρ J := fun σ H s t j => let ⟨x, q⟩ := hj H j; h x σ H s t q
/-! ### expressions that change the heap -/
theorem ek_if {c a b : Expr} {x : Bool} {Post : Sv → As G → Prop} {pos : Pos} (h : Et X G c ρ J x) (h1 : x = true → Ek X G a ρ J Post) (h2 : x = false → Ek X G b ρ J Post) : Ek X G (.IfExp c a b pos) ρ J Post := fun σ H Q hs ht hj q =>
  ⟨_, pe_ifExp pt_c pe_c pe_c, h σ H _ hs ht hj fun H1 g1 => by
    have q' : ∀ r J' v H', Post r J' → SvOk X.K H' r (some v) → Fresh H1 r → Sl X.K H' ρ σ → Tb G H' → Tk H1 H' → (∀ b, H' b = none → H1 b = none) → J'.P H' → Q v H' := fun r J' v H' p s f sl t tk dm j =>
      q r J' v H' p s (Fresh.back g1 f) sl t ⟨fun c xs e => tk.1 c xs (g1.tk.1 c xs e), fun c o u e => tk.2 c o u (g1.tk.2 c o u e)⟩ (fun b e => g1.dom b (dm b e)) j
    cases x with
    | true => exact h1 rfl σ H1 Q (hs.g0 g1 ht) (ht.up g1) (J.up g1 ht hj) q'
    | false => exact h2 rfl σ H1 Q (hs.g0 g1 ht) (ht.up g1) (J.up g1 ht hj) q'⟩
theorem ek_one {op : BoolOp} {a : Expr} {Post : Sv → As G → Prop} {pos : Pos} (h : Ek X G a ρ J Post) : Ek X G (.BoolOp op [a] pos) ρ J Post := fun σ H Q hs ht hj q => ⟨_, pe_one pe_c, h σ H Q hs ht hj q⟩
theorem ek_and {a b : Expr} {rest : List Expr} {x : Bool} {Post : Sv → As G → Prop} {pos : Pos} (h : Ed X G a ρ J (.d (.bool x))) (h2 : x = true → Ek X G (.BoolOp .And (b :: rest) pos) ρ J Post) (h3 : x = false → Post (.d (.bool false)) J) : Ek X G (.BoolOp .And (a :: b :: rest) pos) ρ J Post := fun σ H Q hs ht hj q => by
  refine ⟨_, pe_and pe_c pe_c, h σ H _ hs ht hj fun v H1 s1 g1 => ?_⟩
  obtain ⟨_, e1, d1⟩ := s1
  cases e1; cases d1
  refine ⟨x, rfl, ?_⟩
  cases x with
  | false => exact q _ J _ H1 (h3 rfl) ⟨_, rfl, .bl _⟩ trivial (hs.g0 g1 ht) (ht.up g1) g1.tk g1.dom (J.up g1 ht hj)
  | true =>
    refine h2 rfl σ H1 Q (hs.g0 g1 ht) (ht.up g1) (J.up g1 ht hj) fun r J' v H' p s f sl t tk dm j => ?_
    exact q r J' v H' p s (Fresh.back g1 f) sl t ⟨fun c xs e => tk.1 c xs (g1.tk.1 c xs e), fun c o u e => tk.2 c o u (g1.tk.2 c o u e)⟩ (fun b e => g1.dom b (dm b e)) j
/-- a + b, a unchanging -/
theorem ek_add {a b : Expr} {i : Int} {Post : Sv → As G → Prop} {pos : Pos} (ha : Ed X G a ρ J (.d (.int i))) (hb : Ek X G b ρ J (fun r J' => ∃ j : Int, r = .d (.int j) ∧ Post (.d (.int (i + j))) J')) : Ek X G (.BinOp a .Add b pos) ρ J Post := fun σ H Q hs ht hj q =>
  ⟨_, pe_op op_add pe_c pe_c, ha σ H _ hs ht hj fun v H1 s1 g1 => by
    obtain ⟨_, e1, d1⟩ := s1
    cases e1; cases d1
    refine hb σ H1 _ (hs.g0 g1 ht) (ht.up g1) (J.up g1 ht hj) fun r J' w H2 p s2 _ sl t2 tk dm j2 => ?_
    obtain ⟨j, rfl, p⟩ := p
    obtain ⟨_, e2, d2⟩ := s2
    cases e2; cases d2
    exact ⟨i, j, rfl, rfl, q _ J' _ H2 p ⟨_, rfl, .int _⟩ trivial sl t2 ⟨fun c xs e => tk.1 c xs (g1.tk.1 c xs e), fun c o u e => tk.2 c o u (g1.tk.2 c o u e)⟩ (fun b e => g1.dom b (dm b e)) j2⟩⟩
/-- xs[e], xs the list in slot i -/
theorem ek_ix (i : Nat) {x : Str} {b : Expr} {a : Addr} {ds : List PyData} {Post : Sv → As G → Prop} {px pos : Pos} (hb : Ek X G b ρ J (fun r J' => ∃ (j : Nat) (d : PyData), r = .d (.int (j : Nat)) ∧ ds[j]? = some d ∧ Post (.d d) J'))
    (hr : ρ[i]? = some (.l a ds) := by rfl) (hN : X.N[i]? = some x := by rfl) (hv : Vis X.env.scope x := by first | exact Or.inl rfl | exact Or.inr (Or.inl rfl) | exact Or.inr (Or.inr rfl)) (hd : (x == ("__debug__" : Str)) = false := by decide) (hcd : (x == ("__classdict__" : Str)) = false := by decide)
    (hs : PlainIx b := by exact fun _ _ => rfl) : Ek X G (.Subscript (.Name x px) b pos) ρ J Post := fun σ H Q s t j q => by
  obtain ⟨o, e1, e2, _⟩ := s.get hr
  cases e2
  refine ⟨_, pe_ix ix_list (pe_var (i := i) hN hv hd hcd) pe_c hs, .ref a, e1, hb σ H _ s t j fun r J' w H2 p s2 _ sl t2 tk dm j2 => ?_⟩
  obtain ⟨n, d, rfl, hd', p⟩ := p
  obtain ⟨_, e3, d3⟩ := s2
  cases e3; cases d3
  obtain ⟨o', e1', e2', xs, hx, a1, _⟩ := sl.get hr
  obtain ⟨z, hz, q1⟩ := a1.get hd'
  exact ⟨a, xs, _, z, rfl, rfl, SqL.of hx, atI_nat hz, q _ J' _ H2 p ⟨_, rfl, q1⟩ trivial sl t2 tk dm j2⟩
end
/-! ### tests that change the heap -/
def Ekt (X : Cx) (G : Addr → Prop) (e : Expr) (ρ : List Sv) (J : As G) (Post : Bool → As G → Prop) : Prop := ∀ (σ : L2.St) (H : Hp) (Q : Bool → Hp → Prop), Sl X.K H ρ σ → Tb G H → J.P H → (∀ b J' H', Post b J' → Sl X.K H' ρ σ → Tb G H' → J'.P H' → Q b H') → cT X e σ H Q
def Ekw (X : Cx) (G : Addr → Prop) (e : Expr) (ρ : List Sv) (J : As G) (Post : Bool → As G → Prop) : Prop := ∀ (σ : L2.St) (H : Hp) (Q : Bool → Hp → Prop), Sl X.K H ρ σ → Tb G H → J.P H → (∀ b J' H', Post b J' → Sl X.K H' ρ σ → Tb G H' → J'.P H' → Q b H') → cW X e σ H Q
theorem kt_val {e : Expr} {Post : Bool → As G → Prop} (h : Ek X G e ρ J (fun r J' => ∃ b, r = .d (.bool b) ∧ Post b J')) (he : ∀ whole, isTrue e X.env whole = (do let v ← whole; standAt e.pos; holding [v] (truthy v)) := by intro _; rfl) : Ekt X G e ρ J Post := fun σ H Q hs ht hj q =>
  ⟨_, pt_val pe_c he, h σ H _ hs ht hj fun r J' v H1 p s1 _ sl t1 _ _ j1 => by
    obtain ⟨b, rfl, p⟩ := p
    obtain ⟨_, e1, d1⟩ := s1
    cases e1; cases d1
    exact ⟨b, rfl, q b J' H1 p sl t1 j1⟩⟩
theorem kt_not {e : Expr} {Post : Bool → As G → Prop} {pos : Pos} (h : Ekt X G e ρ J (fun b J' => Post (!b) J')) : Ekt X G (.UnaryOp .Not e pos) ρ J Post := fun σ H Q hs ht hj q => ⟨_, pt_not pt_c, h σ H _ hs ht hj fun b J' H1 p => q (!b) J' H1 p⟩
theorem kt_w {e : Expr} {Post : Bool → As G → Prop} (h : Ekw X G e ρ J Post) : Ekt X G e ρ J Post := fun σ H Q hs ht hj q => ⟨_, PW.pt pw_c, h σ H Q hs ht hj q⟩
theorem kw_and1 {a : Expr} {Post : Bool → As G → Prop} {pos : Pos} (h : Ekt X G a ρ J Post) : Ekw X G (.BoolOp .And [a] pos) ρ J Post := fun σ H Q hs ht hj q => ⟨_, pw_and1 pt_c, h σ H Q hs ht hj q⟩
theorem kw_and {a b : Expr} {rest : List Expr} {x : Bool} {Post : Bool → As G → Prop} {pos : Pos} (h : Et X G a ρ J x) (h2 : x = true → Ekw X G (.BoolOp .And (b :: rest) pos) ρ J Post) (h3 : x = false → Post false J) : Ekw X G (.BoolOp .And (a :: b :: rest) pos) ρ J Post := fun σ H Q hs ht hj q =>
  ⟨_, pw_and pt_c pw_c, h σ H _ hs ht hj fun H1 g1 => by
    cases x with
    | true => exact h2 rfl σ H1 Q (hs.g0 g1 ht) (ht.up g1) (J.up g1 ht hj) q
    | false => exact q false J H1 (h3 rfl) (hs.g0 g1 ht) (ht.up g1) (J.up g1 ht hj)⟩
/-- e > n -/
theorem kt_gt {a b : Expr} {j : Int} {pos : Pos} {Post : Bool → As G → Prop} (ha : Ek X G a ρ J (fun r J' => ∃ i : Int, r = .d (.int i) ∧ Post (decide (j < i)) J')) (hb : PE X b (tC (.int j))) (hm : behindInMarks .Gt b = false := by exact nomark _) : Ekt X G (.Compare a [.Gt] [b] pos) ρ J Post := fun σ H Q hs ht hj q =>
  ⟨_, pt_cmpR op_gt pe_c hb hm, ha σ H _ hs ht hj fun r J' v H1 p s1 _ sl t1 _ _ j1 => by
    obtain ⟨i, rfl, p⟩ := p
    obtain ⟨_, e1, d1⟩ := s1
    cases e1; cases d1
    exact ⟨i, j, rfl, rfl, _, rfl, q _ J' H1 p sl t1 j1⟩⟩
section
variable {D : Ends}
theorem f_ifK {c : Expr} {a b : List Stmt} {Post : Bool → As G → Prop} {pos : Pos} (h : Ekt X G c ρ J Post) (k : ∀ x J', Post x J' → if x then Fin X (cSs X a D) ρ J' else Fin X (cSs X b D) ρ J') : Fin X (cS X (.If c a b pos) D) ρ J := fun σ H s t j =>
  ⟨_, ps_if pt_c pss_c pss_c, h σ H _ s t j fun x J' H1 p sl t1 j1 => by
    have k' := k x J' p
    cases x with
    | true => exact k' σ H1 sl t1 j1
    | false => exact k' σ H1 sl t1 j1⟩
end
end
end Wb

/-! The logic's fifth part: comprehensions, generator expressions, isinstance, unpacking, dicts, methods. -/
namespace Wb
open PySem PySem.Spec PyProof.Rows L2

section
variable {X : Cx} {G : Addr → Prop} {ρ : List Sv} {J : As G}
/-! ### comprehensions: one name, in the slot i -/
def cTs (X : Cx) (es : List Expr) : TT := fun σ H Q => ∃ t, PTs X es t ∧ t σ H Q
theorem pts_c {es : List Expr} : PTs X es (cTs X es) := ⟨fun pins s σ H Q I h => let ⟨_, h1, h2⟩ := h; h1.run pins s σ H Q I h2⟩
/-- no test, or one -/
inductive Ets (X : Cx) (G : Addr → Prop) (ρ : List Sv) (J : As G) : List Expr → Bool → Prop
  | nil : Ets X G ρ J [] true
  | one {e : Expr} {b : Bool} : Et X G e ρ J b → Ets X G ρ J [e] b
theorem Ets.run {es : List Expr} {b : Bool} (h : Ets X G ρ J es b) : ∀ (σ : L2.St) (H : Hp) (Q : Bool → Hp → Prop), Sl X.K H ρ σ → Tb G H → J.P H → (∀ H', Gr G [] H H' → Q b H') → cTs X es σ H Q := fun σ H Q s t j q => by
  cases h with
  | nil => exact ⟨_, pts_nil, q H Gr.refl⟩
  | one h => exact ⟨_, pts_one pt_c, h σ H Q s t j q⟩
abbrev Bk (X : Cx) (scope : Scope) (s : Shared) (H : Hp) (C : Addr) (cl : List (Str × Addr)) (fp : List Addr) : Cx := X.blk s H scope (compEnvC scope cl C X.env) fp
def bE (X : Cx) (scope : Scope) (e : Expr) : TE := fun σ H Q => ∀ s H0 C cl fp, cE (Bk X scope s H0 C cl fp) e σ H Q
def bT (X : Cx) (scope : Scope) (es : List Expr) : TT := fun σ H Q => ∀ s H0 C cl fp, cTs (Bk X scope s H0 C cl fp) es σ H Q
theorem pe_b {scope : Scope} {e : Expr} (s : Shared) (H : Hp) (C : Addr) (cl : List (Str × Addr)) (fp : List Addr) : PE (Bk X scope s H C cl fp) e (bE X scope e) := ⟨fun pins s' σ H' Q I h => pe_c.run pins s' σ H' Q I (h s H C cl fp)⟩
theorem pts_b {scope : Scope} {es : List Expr} (s : Shared) (H : Hp) (C : Addr) (cl : List (Str × Addr)) (fp : List Addr) : PTs (Bk X scope s H C cl fp) es (bT X scope es) := ⟨fun pins s' σ H' Q I h => pts_c.run pins s' σ H' Q I (h s H C cl fp)⟩
abbrev Lc (X : Cx) (scope : Scope) (elt it : Expr) (ifs : List Expr) (x : Str) (px : Pos) (i : Nat) : TE := tLc (cI X (.Name x px) it) (gName i) (bT X scope ifs) (bE X scope elt) [i]
theorem pe_lcC {elt it : Expr} {ifs : List Expr} {scope : Scope} {x : Str} {px pos : Pos} {i : Nat} (hc : X.calm = true) (hN : X.N.Nodup) (ok : BlkOk X.N X.env.scope scope [(x, i)]) (hl : ∀ cl C, (compEnvC scope cl C X.env).scope.names.lookup x = some .local) (hsi : ∀ x, foldedSetIterable it X.env x = pure x) :
    PE X (.ListComp elt [{ target := .Name x px, iter := it, ifs := ifs, is_async := 0 }] scope pos) (Lc X scope elt it ifs x px i) :=
  pe_lc (own := [(x, i)]) hc hN pi_c ok (fun s H C cl fp => pg_name (i := i) hN (ok.ix (x, i) (by simp)) (.inl (hl _ _)) (.inr (hl _ _))) (fun s H C cl fp => pts_b s H C cl fp) (fun s H C cl fp => pe_b s H C cl fp) hsi
theorem Sl.wipe1 {K : PySem.W.Frag} {H : Hp} {σ : L2.St} {i : Nat} (h : Sl K H ρ σ) : Sl K H (ρ.set i .u) (wipe σ [i]) := h.set i trivial
/-- the items that pass -/
def keepM (p : PyData → Bool) (f : PyData → PyData) (ds : List PyData) : List PyData := (ds.filter p).map f
theorem keepM_snoc {p : PyData → Bool} {f : PyData → PyData} {ds : List PyData} {n : Nat} {d : PyData} (h : ds[n]? = some d) : keepM p f (ds.take (n + 1)) = keepM p f (ds.take n) ++ (if p d = true then [f d] else []) := by
  have e : ds.take (n + 1) = ds.take n ++ [d] := by
    obtain ⟨h1, h2⟩ := List.getElem?_eq_some_iff.mp h
    rw [List.take_succ_eq_append_getElem h1, h2]
  unfold keepM
  rw [e, List.filter_append, List.map_append]
  congr 1
  by_cases hp : p d = true
  · simp [List.filter, hp]
  · have : p d = false := by simpa using hp
    simp [List.filter, this]
theorem lc_pure {elt it : Expr} {ifs : List Expr} {scope : Scope} {x : Str} {px : Pos} {i : Nat} {ds : List PyData} (p : PyData → Bool) (f : PyData → PyData) (hsz : ds.length ≤ 1000000)
    (ht : ∀ d, d ∈ ds → ∀ s H0 C cl fp, Ets (Bk X scope s H0 C cl fp) G (ρ.set i (.d d)) J ifs (p d))
    (he : ∀ d, d ∈ ds → p d = true → ∀ s H0 C cl fp, Ed (Bk X scope s H0 C cl fp) G elt (ρ.set i (.d d)) J (.d (f d)))
    (σ : L2.St) (H : Hp) (Q : VK) (s : Sl X.K H ρ σ) (t : Tb G H) (j : J.P H) (q : ∀ a H', H a = none → SvOk X.K H' (.l a (keepM p f ds)) (some (.ref a)) → Gr G [] H H' → Q (.ref a) H') :
    (∀ T H1, Wk X.K G [] T H1 ds → Gr G [] H H1 → Sl X.K H1 ρ σ → Tb G H1 → J.P H1 → ∀ D : Addr, H1 D = none → ∃ W : Nat → Nat → Hp → Prop, (∃ m, W 0 m (upd H1 D (.lst []))) ∧ ∀ i' m H, W i' m H → T.stop i' H ∧ Q (.ref D) H ∨ T.go i' H ∧ ∃ Nx : Hp → Prop, (∀ H', Nx H' → ∃ m', m' < m ∧ W (i' + 1) m' H') ∧
      ∀ y H', T.yld i' H y H' → gName i y (wipe σ [i]) H' fun σ2 H2 => wipe σ2 [i] = wipe σ [i] ∧ bT X scope ifs σ2 H2 fun b H3 => if b = true then bE X scope elt σ2 H3 fun y H4 => ∃ acc, H4 D = some (.lst acc) ∧ acc.length < sizeLine ∧ Nx (upd H4 D (.lst (acc ++ [y]))) else Nx H3) := by
  intro T H1 wk gH s1 t1 j1 D hD
  let Pv : Nat → Hp → Prop := fun n H' => Gr G [] H1 H' ∧ ∃ vs, H' D = some (.lst vs) ∧ Da X.K H' vs (keepM p f (ds.take n))
  have hlen : ∀ n, (keepM p f (ds.take n)).length ≤ 1000000 := fun n => by
    unfold keepM
    rw [List.length_map]
    exact Nat.le_trans (List.length_filter_le _ _) (by rw [List.length_take]; omega)
  refine ⟨fun n m H' => m + n = ds.length ∧ Pv n H', ⟨ds.length, rfl, Gr.new hD, [], upd_same, by simp [keepM]; exact .nil⟩, fun n m H' hw => ?_⟩
  obtain ⟨hm, g', vs, hv, dv⟩ := hw
  have t' := t1.up g'
  obtain ⟨hstop, hgo⟩ := wk H' g' t'
  by_cases hn : n < ds.length
  · obtain ⟨hg, hy⟩ := hgo n hn
    refine .inr ⟨hg, Pv (n + 1), fun H'' h => ⟨m - 1, by omega, by omega, h⟩, fun y H'' hyd => ?_⟩
    obtain ⟨gy, d, hd, dy⟩ := hy y H'' hyd
    have hmem : d ∈ ds := List.mem_of_getElem? hd
    have g2 := g'.trans gy
    refine ⟨show (((wipe σ [i]).set i (some y)).set i none) = wipe σ [i] from by rw [List.set_set]; exact List.set_set .., fun sh H0 C cl fp => ?_⟩
    have sl : ∀ {H3 : Hp}, Gr G [] H'' H3 → Sl X.K H3 (ρ.set i (.d d)) ((wipe σ [i]).set i (some y)) := fun g3 => by
      have h3 := ((s1.g0 (g2.trans g3) t1).wipe1 (i := i)).set (r := .d d) (o := some y) i ⟨y, rfl, dy.up g3⟩
      rw [List.set_set] at h3
      exact h3
    refine (ht d hmem sh H0 C cl fp).run _ _ _ (sl Gr.refl) (t1.up g2) (J.up g2 t1 j1) fun H3 g3 => ?_
    have hv3 : ∀ {H4 : Hp}, Gr G [] H' H4 → H4 D = some (.lst vs) := fun g4 => g4.keep D _ hv (not_tab t' hv (fun q z => by cases z)) (by simp)
    by_cases hp : p d = true
    · rw [if_pos hp]
      intro sh H0 C cl fp
      refine (he d hmem hp sh H0 C cl fp) _ _ _ (sl g3) (t1.up (g2.trans g3)) (J.up (g2.trans g3) t1 j1) fun w H4 s4 g4 => ?_
      obtain ⟨_, e4, d4⟩ := s4
      cases e4
      have gA : Gr G [] H' H4 := gy.trans (g3.trans g4)
      have l := (dv.up gA).len
      have hl := hlen n
      have gB : Gr G [] H1 (upd H4 D (.lst (vs ++ [w]))) := Gr.mut (g2.trans (g3.trans g4)) hD (hv3 gA) trivial
      refine ⟨vs, hv3 gA, Nat.lt_of_le_of_lt (show vs.length ≤ 1000000 by omega) (by decide), gB, vs ++ [w], upd_same, ?_⟩
      have gC : Gr G [D] H4 (upd H4 D (.lst (vs ++ [w]))) := Gr.put (hv3 gA) trivial (by simp)
      rw [keepM_snoc hd, if_pos hp]
      exact ((dv.up gA).app (.cons d4 .nil)).up gC
    · rw [if_neg hp]
      have gA : Gr G [] H' H3 := gy.trans g3
      refine ⟨g2.trans g3, vs, hv3 gA, ?_⟩
      rw [keepM_snoc hd, if_neg hp, List.append_nil]
      exact dv.up gA
  · have e : n = ds.length := by omega
    subst e
    rw [List.take_length] at dv
    have l := dv.len
    have hl := hlen ds.length
    rw [List.take_length] at hl
    exact .inl ⟨hstop, q D H' (gH.free hD) ⟨rfl, vs, hv, dv, Nat.le_trans (show vs.length ≤ 1000000 by omega) (by decide)⟩ (gH.trans g')⟩
end
end Wb

/-! The logic's sixth part. -/
namespace Wb
open PySem PySem.Spec PyProof.Rows L2

/-- this list stands there -/
def As.one {G : Addr → Prop} (D : Addr) (vs : List V) : As G := ⟨fun H => H D = some (.lst vs), fun g t h => g.keep D _ h (not_tab t h (fun q z => by cases z)) (by simp)⟩
section
variable {X : Cx} {G : Addr → Prop} {ρ : List Sv} {J : As G}
section
variable {elt it : Expr} {ifs : List Expr} {scope : Scope} {x : Str} {px pos : Pos} {ds : List PyData}
theorem en_lc (i : Nat) (p : PyData → Bool) (f : PyData → PyData) (hit : Ep X G [] (.Name x px) it ρ J ds) (hsz : ds.length ≤ 1000000)
    (ht : ∀ d, d ∈ ds → ∀ s H0 C cl fp, Ets (Bk X scope s H0 C cl fp) G (ρ.set i (.d d)) J ifs (p d))
    (he : ∀ d, d ∈ ds → p d = true → ∀ s H0 C cl fp, Ed (Bk X scope s H0 C cl fp) G elt (ρ.set i (.d d)) J (.d (f d)))
    (hN : X.N.Nodup) (ok : BlkOk X.N X.env.scope scope [(x, i)]) (hc : X.calm = true := by rfl) (hl : ∀ cl C, (compEnvC scope cl C X.env).scope.names.lookup x = some .local := by intro _ _; rfl) (hsi : ∀ x, foldedSetIterable it X.env x = pure x := by intro _; rfl) :
    En X G (.ListComp elt [{ target := .Name x px, iter := it, ifs := ifs, is_async := 0 }] scope pos) ρ J (keepM p f ds) := fun σ H Q s t j q =>
  ⟨_, pe_lcC hc hN ok hl hsi, hit σ H _ s t j fun T H1 wk g D hD => lc_pure (x := x) (px := px) (it := it) p f hsz ht he σ H Q s t j q T H1 wk g (s.g0 g t) (t.up g) (J.up g t j) D hD⟩
theorem f_setLc (i k : Nat) {D : Ends} {y : Str} {py spos : Pos} (p : PyData → Bool) (f : PyData → PyData) (Fa : Addr → Prop) (hit : Ep X G [] (.Name x px) it ρ J ds) (hsz : ds.length ≤ 1000000)
    (ht : ∀ d, d ∈ ds → ∀ s H0 C cl fp, Ets (Bk X scope s H0 C cl fp) G (ρ.set i (.d d)) J ifs (p d))
    (he : ∀ d, d ∈ ds → p d = true → ∀ s H0 C cl fp, Ed (Bk X scope s H0 C cl fp) G elt (ρ.set i (.d d)) J (.d (f d)))
    (hfr : ∀ σ H a, Sl X.K H ρ σ → J.P H → H a = none → Fa a) (kk : ∀ a, Fa a → Fin X D.nx (ρ.set k (.l a (keepM p f ds))) J)
    (hN : X.N.Nodup) (ok : BlkOk X.N X.env.scope scope [(x, i)]) (hk : X.N[k]? = some y := by rfl) (hy : X.env.scope.names.lookup y = some .local := by rfl)
    (hs : swapsWith (.ListComp elt [{ target := .Name x px, iter := it, ifs := ifs, is_async := 0 }] scope pos) (some (.Name y py)) spos.line X.env = pure true := by exact sw_true rfl rfl rfl (by decide +kernel))
    (hc : X.calm = true := by rfl) (hl : ∀ cl C, (compEnvC scope cl C X.env).scope.names.lookup x = some .local := by intro _ _; rfl) (hsi : ∀ x, foldedSetIterable it X.env x = pure x := by intro _; rfl) :
    Fin X (cS X (.Assign [.Name y py] (.ListComp elt [{ target := .Name x px, iter := it, ifs := ifs, is_async := 0 }] scope pos) spos) D) ρ J := fun σ H s t j =>
  ⟨_, ps_setLc (own := [(x, i)]) (i := k) hc hN hk hy hs pi_c ok (fun s H C cl fp => pg_name (i := i) hN (ok.ix (x, i) (by simp)) (.inl (hl _ _)) (.inr (hl _ _))) (fun s H C cl fp => pts_b s H C cl fp) (fun s H C cl fp => pe_b s H C cl fp) hsi,
    hit σ H _ s t j fun T H1 wk g D' hD => lc_pure (x := x) (px := px) (it := it) (Q := fun v H2 => gName k v σ H2 D.nx) p f hsz ht he σ H s t j (fun a H2 ha s2 g2 => kk a (hfr σ H a s j ha) _ H2 ((s.g0 g2 t).set k s2) (t.up g2) (J.up g2 t j)) T H1 wk g (s.g0 g t) (t.up g) (J.up g t j) D' hD⟩
theorem bt_nil {scope : Scope} {σ : L2.St} {H : Hp} {Q : Bool → Hp → Prop} (q : Q true H) : bT X scope [] σ H Q := fun s H0 C cl fp => ⟨_, pts_nil, q⟩
/-- with elements that change the heap: A holds all along, I tells the items so far -/
theorem ek_lcK (i : Nat) (ms : List Addr) {Pi : List PyData → As G → Prop} {Post : Sv → As G → Prop} (hit : Ei X G ms (.Name x px) it ρ J Pi)
    (h : ∀ ds J1 σ H1, Pi ds J1 → Sl X.K H1 ρ σ → Tb G H1 → J1.P H1 → ds.length ≤ 1000000 ∧ ∃ (L : List (List Addr × Hp)) (A : As G) (I : Nat → List PyData → Prop), (Jl L A).P H1 ∧ I 0 [] ∧
      (∀ D H xs ys, H1 D = none → A.P H → H D = some (.lst xs) → A.P (upd H D (.lst ys))) ∧
      (∀ n d acc D vs, ds[n]? = some d → I n acc → H1 D = none → ∀ s H0 C cl fp, Ek (Bk X scope s H0 C cl fp) G elt (ρ.set i (.d d)) (Jl ((ms, H1) :: L) (A.and (As.one D vs))) (fun r J' => ∃ y, r = .d y ∧ I (n + 1) (acc ++ [y]) ∧ J' = Jl ((ms, H1) :: L) (A.and (As.one D vs)))) ∧
      ∀ acc D, I ds.length acc → acc.length = ds.length → Post (.l D acc) (Jl L A))
    (hu : ρ[i]? = some .u) (hN : X.N.Nodup) (ok : BlkOk X.N X.env.scope scope [(x, i)]) (hc : X.calm = true := by rfl) (hl : ∀ cl C, (compEnvC scope cl C X.env).scope.names.lookup x = some .local := by intro _ _; rfl) (hsi : ∀ x, foldedSetIterable it X.env x = pure x := by intro _; rfl) :
    Ek X G (.ListComp elt [{ target := .Name x px, iter := it, ifs := [], is_async := 0 }] scope pos) ρ J Post := fun σ H Q s t j q => by
  refine ⟨_, pe_lcC hc hN ok hl hsi, hit σ H _ s t j fun ds J1 T H1 hP wk s1 t1 tk1 dm1 j1 D hD => ?_⟩
  obtain ⟨hsz, L, A, I, jl, i0, hind, hstep, hend⟩ := h ds J1 σ H1 hP s1 t1 j1
  have fresh := Jl.fresh jl hD
  have offD := OffL.newS hD s1
  let Pv : Nat → Hp → Prop := fun n H' => (Jl ((ms, H1) :: L) A).P H' ∧ Sl X.K H' ρ σ ∧ Tb G H' ∧ ∃ acc vs, I n acc ∧ acc.length = n ∧ H' D = some (.lst vs) ∧ Da X.K H' vs acc
  have mu : Mu ((ms, H1) :: L) [D] := Mu.cons (fun b hb => .inr (by rw [List.mem_singleton.mp hb]; exact hD)) fresh
  have put : ∀ {H' : Hp} {vs ws : List V}, (Jl ((ms, H1) :: L) A).P H' → Tb G H' → H' D = some (.lst vs) → Gr G [D] H' (upd H' D (.lst ws)) ∧ (Jl ((ms, H1) :: L) A).P (upd H' D (.lst ws)) := by
    intro H' vs ws j' t' e
    have g : Gr G [D] H' (upd H' D (.lst ws)) := Gr.put e trivial (by simp)
    exact ⟨g, Jl.step j' g mu (hind D _ _ _ hD j'.2 e)⟩
  have g0 : Gr G [] H1 (upd H1 D (.lst [])) := Gr.new hD
  have jl1 : (Jl ((ms, H1) :: L) A).P (upd H1 D (.lst [])) := ⟨fun p hp => by
    rcases List.mem_cons.mp hp with e | hp
    · rw [e]; exact g0.wide
    · exact (jl.1 p hp).trans g0.wide, A.up g0 t1 jl.2⟩
  refine ⟨fun n m H' => m + n = ds.length ∧ Pv n H', ⟨ds.length, rfl, jl1, s1.g0 g0 t1, t1.up g0, [], [], i0, rfl, upd_same, .nil⟩, fun n m H' hw => ?_⟩
  obtain ⟨hm, jh, sh, th, acc, vs, hI, hal, hv, dv⟩ := hw
  have gh : Gr G ms H1 H' := jh.1 _ List.mem_cons_self
  obtain ⟨hstop, hgo⟩ := wk H' gh th
  by_cases hn : n < ds.length
  · obtain ⟨hg, hy⟩ := hgo n hn
    refine .inr ⟨hg, Pv (n + 1), fun H'' h => ⟨m - 1, by omega, by omega, h⟩, fun y H'' hyd => ?_⟩
    obtain ⟨gy, d, hd, dy⟩ := hy y H'' hyd
    have tY := th.up gy
    refine ⟨show (((wipe σ [i]).set i (some y)).set i none) = wipe σ [i] from by rw [List.set_set]; exact List.set_set .., bt_nil ?_⟩
    rw [if_pos rfl]
    intro s' H0 C cl fp
    have slY : Sl X.K H'' (ρ.set i (.d d)) ((wipe σ [i]).set i (some y)) := by
      have h3 := ((sh.g0 gy th).wipe1 (i := i)).set (r := .d d) (o := some y) i ⟨y, rfl, dy⟩
      rw [List.set_set] at h3
      exact h3
    have hvY : H'' D = some (.lst vs) := gy.keep D _ hv (not_tab th hv (fun q z => by cases z)) (by simp)
    have jY := (Jl ((ms, H1) :: L) A).up gy th jh
    refine hstep n d acc D vs hd hI hD s' H0 C cl fp _ _ _ slY tY ⟨jY.1, jY.2, hvY⟩ fun r J' w H4 p s4 _ sl4 t4 tk4 dm4 j4 => ?_
    obtain ⟨z, rfl, hI', rfl⟩ := p
    obtain ⟨_, e4, d4⟩ := s4
    cases e4
    obtain ⟨jA, jB, jC⟩ := j4
    have dv4 : Da X.K H4 vs acc := Da.tk tk4 _ _ (dv.up gy)
    have l := dv4.len
    obtain ⟨gP, jP⟩ := put (ws := vs ++ [w]) (show (Jl ((ms, H1) :: L) A).P H4 from ⟨jA, jB⟩) t4 jC
    refine ⟨vs, jC, Nat.lt_of_le_of_lt (show vs.length ≤ 1000000 by omega) (by decide), jP, ?_, t4.up gP, acc ++ [z], vs ++ [w], hI', by rw [List.length_append, List.length_singleton, hal], upd_same, (dv4.app (.cons d4 .nil)).up gP⟩
    refine Sl.up gP t4 offD.all ?_
    have h5 : Sl X.K H4 ((ρ.set i (.d d)).set i .u) (((wipe σ [i]).set i (some y)).set i ((σ[i]?).getD none)) := sl4.set i trivial
    rw [List.set_set, List.set_set] at h5
    have eρ : ρ.set i .u = ρ := by
      apply List.ext_getElem?
      intro k
      by_cases hk : k = i
      · subst hk
        obtain ⟨h1, h2⟩ := List.getElem?_eq_some_iff.mp hu
        rw [List.getElem?_set_self h1, hu]
      · rw [List.getElem?_set_ne (Ne.symm hk)]
    have eσ : (wipe σ [i]).set i ((σ[i]?).getD none) = σ := by
      show (σ.set i none).set i ((σ[i]?).getD none) = σ
      rw [List.set_set]
      apply List.ext_getElem?
      intro k
      by_cases hk : k = i
      · subst hk
        by_cases hl : k < σ.length
        · rw [List.getElem?_set_self hl, List.getElem?_eq_getElem hl] <;> rfl
        · rw [List.getElem?_eq_none (by rw [List.length_set]; omega), List.getElem?_eq_none (by omega)]
      · rw [List.getElem?_set_ne (Ne.symm hk)]
    rw [eρ, eσ] at h5
    exact h5
  · have e : n = ds.length := by
      have := hm
      omega
    subst e
    have l := dv.len
    refine .inl ⟨hstop, q (.l D acc) (Jl L A) _ H' (hend acc D hI hal) ⟨rfl, vs, hv, dv, Nat.le_trans (show vs.length ≤ 1000000 by omega) (by decide)⟩ (dm1 D hD) sh th ⟨fun c xs e => gh.tk.1 c xs (tk1.1 c xs e), fun c o u e => gh.tk.2 c o u (tk1.2 c o u e)⟩ (fun b e => dm1 b (gh.dom b e)) (Jl.pop jh)⟩
end
/-! ### any, all -/
abbrev GCx (X : Cx) (scope : Scope) (s : Shared) (H : Hp) (C : Addr) (code : Value) (fp : List Addr) (pn : List (Addr × Obj)) : Cx := Gx.genCx X s H scope C code fp pn
def gE (X : Cx) (k : Nat) (scope : Scope) (e : Expr) : TE := fun σ H Q => ∀ s H0 C code fp pn, Room k (GCx X scope s H0 C code fp pn).A → cE (GCx X scope s H0 C code fp pn) e σ H Q
theorem pe_g {k : Nat} {scope : Scope} {e : Expr} (s : Shared) (H : Hp) (C : Addr) (code : Value) (fp : List Addr) (pn : List (Addr × Obj)) (hr : Room k (GCx X scope s H C code fp pn).A) : PE (GCx X scope s H C code fp pn) e (gE X k scope e) := ⟨fun pins s' σ H' Q I h => pe_c.run pins s' σ H' Q I (h s H C code fp pn hr)⟩
section
variable {elt it : Expr} {scope : Scope} {x : Str} {px p pos gpos : Pos} {ds : List PyData} {c P : Addr} {k : Nat}
theorem turns {sv : Bool} (i : Nat) (f : PyData → Bool) (tP : G P) (he : ∀ d, d ∈ ds → ∀ s H C code fp pn, Room k (GCx X scope s H C code fp pn).A → Ed (GCx X scope s H C code fp pn) G elt (ρ.set i (.d d)) J (.d (.bool (f d))))
    (σ : L2.St) (H : Hp) (Q : VK) (s : Sl X.K H ρ σ) (t : Tb G H) (j : J.P H) (hit : Ep X G [] (.Name x px) it ρ J ds) (q : ∀ H', Gr G [] H H' → Q (.bl (if (ds.any fun d => f d == sv) = true then sv else !sv)) H') : Gx.tGen sv P (cI X (.Name x px) it) i (gE X k scope elt) σ H Q := by
  refine hit σ H _ s t j fun T H1 wk g => ⟨(t.up g) P tP, fun H1' tb => ?_⟩
  have g1 : Gr G [] H1 H1' := Gr.tabbed tP tb ((t.up g) P tP)
  have wk' : Wk X.K G [] T H1' ds := fun H2 g2 t2 => wk H2 (g1.trans g2) t2
  have gA := g.trans g1
  have tA := t.up gA
  refine ⟨fun n m H2 => m + n = ds.length ∧ Gr G [] H1' H2 ∧ ∀ d ∈ ds.take n, f d ≠ sv, ⟨ds.length, rfl, Gr.refl, by simp⟩, fun n m H2 hw => ?_⟩
  obtain ⟨hm, g2, hno⟩ := hw
  have t2 := tA.up g2
  obtain ⟨hstop, hgo⟩ := wk' H2 g2 t2
  by_cases hn : n < ds.length
  · obtain ⟨hg, hy⟩ := hgo n hn
    refine .inr ⟨hg, fun H3 => Gr G [] H1' H3 ∧ ∀ d ∈ ds.take (n + 1), f d ≠ sv, fun H3 h3 => ⟨m - 1, by omega, by omega, h3⟩, fun y H3 hyd => ?_⟩
    obtain ⟨g3, d, hd, dy⟩ := hy y H3 hyd
    have hmem : d ∈ ds := List.mem_of_getElem? hd
    intro sh H0 C code fp pn hr
    have gB := gA.trans (g2.trans g3)
    have sl : Sl X.K H3 (ρ.set i (.d d)) ((σ.set i none).set i (some y)) := by
      rw [List.set_set]
      exact (s.g0 gB t).set i ⟨y, rfl, dy⟩
    refine he d hmem sh H0 C code fp pn hr _ _ _ sl (t.up gB) (J.up gB t j) fun w H4 s4 g4 => ?_
    obtain ⟨_, e4, d4⟩ := s4
    cases e4; cases d4
    refine ⟨f d, rfl, ?_⟩
    by_cases hf : f d = sv
    · rw [if_pos hf]
      have e : (ds.any fun d => f d == sv) = true := List.any_eq_true.mpr ⟨d, hmem, by rw [hf]; exact beq_self_eq_true sv⟩
      have q' := q H4 (gB.trans g4)
      rw [if_pos e] at q'
      exact q'
    · rw [if_neg hf]
      refine ⟨g2.trans (g3.trans g4), fun e he' => ?_⟩
      obtain ⟨h1, h2⟩ := List.getElem?_eq_some_iff.mp hd
      rw [List.take_succ_eq_append_getElem h1, h2] at he'
      rcases List.mem_append.mp he' with z | z
      · exact hno e z
      · rw [List.mem_singleton.mp z]; exact hf
  · have e : n = ds.length := by omega
    subst e
    rw [List.take_length] at hno
    have e : ¬ (ds.any fun d => f d == sv) = true := fun z => by
      obtain ⟨d, h1, h2⟩ := List.any_eq_true.mp z
      exact hno d h1 (beq_iff_eq.mp h2)
    have q' := q H2 (gA.trans g2)
    rw [if_neg e] at q'
    exact .inl ⟨hstop, q'⟩
theorem ed_any (i : Nat) (f : PyData → Bool) (hit : Ep X G [] (.Name x px) it ρ J ds) (hr : Room (k + 1) X.A) (he : ∀ d, d ∈ ds → ∀ s H C code fp pn, Room k (GCx X scope s H C code fp pn).A → Ed (GCx X scope s H C code fp pn) G elt (ρ.set i (.d d)) J (.d (.bool (f d))))
    (tP : G P) (TB : GxR.TabB X.base X.mg c P) (hcode : X.env.code = .ref c) (hN : X.N.Nodup) (S : GxR.GenS X.env scope x) (ok : BlkOk X.N X.env.scope scope [(x, i)]) (hm : X.mg "any" = none) (hc : X.calm = true := by rfl) (hg : Gl X "any" := by rfl)
    (hs : ∀ v, genFold it X.env v = pure v := by intro _; rfl) (hst : starEach [.GeneratorExp elt [⟨.Name x px, it, [], 0⟩] scope gpos] X.env = (false, eval (.GeneratorExp elt [⟨.Name x px, it, [], 0⟩] scope gpos) X.env) :: starEach [] X.env := by rfl) :
    Ed X G (.Call (.Name "any" p) [.GeneratorExp elt [⟨.Name x px, it, [], 0⟩] scope gpos] [] pos) ρ J (.d (.bool (ds.any f))) := fun σ H Q s t j q =>
  ⟨_, Gx.pe_anyG hr hc hN hg hm TB hcode S ok pi_c (fun s H C code fp pn hr => pe_g s H C code fp pn hr) hs hst, turns (sv := true) i f tP he σ H Q s t j hit fun H' g => by
    have e : (if (ds.any fun d => f d == true) = true then true else !true) = ds.any f := by
      have e0 : (fun d => f d == true) = f := by funext d; cases f d <;> rfl
      rw [e0]
      cases ds.any f <;> rfl
    rw [e]
    exact q _ H' ⟨_, rfl, .bl _⟩ g⟩
theorem ed_all (i : Nat) (f : PyData → Bool) (hit : Ep X G [] (.Name x px) it ρ J ds) (hr : Room (k + 1) X.A) (he : ∀ d, d ∈ ds → ∀ s H C code fp pn, Room k (GCx X scope s H C code fp pn).A → Ed (GCx X scope s H C code fp pn) G elt (ρ.set i (.d d)) J (.d (.bool (f d))))
    (tP : G P) (TB : GxR.TabB X.base X.mg c P) (hcode : X.env.code = .ref c) (hN : X.N.Nodup) (S : GxR.GenS X.env scope x) (ok : BlkOk X.N X.env.scope scope [(x, i)]) (hm : X.mg "all" = none) (hc : X.calm = true := by rfl) (hg : Gl X "all" := by rfl)
    (hs : ∀ v, genFold it X.env v = pure v := by intro _; rfl) (hst : starEach [.GeneratorExp elt [⟨.Name x px, it, [], 0⟩] scope gpos] X.env = (false, eval (.GeneratorExp elt [⟨.Name x px, it, [], 0⟩] scope gpos) X.env) :: starEach [] X.env := by rfl) :
    Ed X G (.Call (.Name "all" p) [.GeneratorExp elt [⟨.Name x px, it, [], 0⟩] scope gpos] [] pos) ρ J (.d (.bool (ds.all f))) := fun σ H Q s t j q =>
  ⟨_, Gx.pe_allG hr hc hN hg hm (by decide +kernel) TB hcode S ok pi_c (fun s H C code fp pn hr => pe_g s H C code fp pn hr) hs hst, turns (sv := false) i f tP he σ H Q s t j hit fun H' g => by
    have e : (if (ds.any fun d => f d == false) = true then false else !false) = ds.all f := by
      have e0 : (fun d => f d == false) = fun d => !f d := by funext d; cases f d <;> rfl
      rw [e0, ← List.not_all_eq_any_not]
      cases ds.all f <;> rfl
    rw [e]
    exact q _ H' ⟨_, rfl, .bl _⟩ g⟩
end
end
end Wb

/-! The logic's seventh part: defs, methods, isinstance, unpacking, dicts. -/
namespace Wb
open PySem PySem.Spec PyProof.Rows L2

/-! ### a def by its body -/
/-- what the promise's way out asks -/
def Qok (K : PySem.W.Frag) (G : Addr → Prop) (ms : List Addr) (H : Hp) (Post : Sv → As G → Prop) (Q : VK) : Prop := ∀ r B v H', Post r B → SvOk K H' r (some v) → Fresh H r → Tb G H' → (Jl [(ms, H)] B).P H' → Q v H'
theorem SvA.st {K : PySem.W.Frag} {H : Hp} : ∀ {rs : List Sv} {vs : List V} (n : Nat), SvA K H rs vs → Sl K H (rs ++ List.replicate n .u) (vs.map some ++ List.replicate n none)
  | [], [], 0, _ => trivial
  | [], [], n + 1, h => ⟨trivial, SvA.st (rs := []) (vs := []) n h⟩
  | _ :: _, _ :: _, n, h => ⟨h.1, SvA.st n h.2⟩
  | [], _ :: _, _, h => h.elim
  | _ :: _, [], _, h => h.elim
section
variable {P : Program} {w : World} {K : PySem.W.Frag} {mg : Str → Option Value} {base : Heap} {x qual : Str} {params : Arguments} {body : List Stmt} {scope : Scope} {dvs : List V} {kws : List (Str × V)} {f : Addr} {fd : FuncData} {G : Addr → Prop}
theorem ok_S {N ps : List Str} {k : Nat} {R : List Sv → As G → List Addr → (Sv → As G → Prop) → Prop} (F : FunD K x qual params body scope dvs kws f fd) (S : FnScope N ps scope) (len : ∀ rs A ms Post, R rs A ms Post → rs.length = ps.length)
    (hbody : ∀ (c : Addr) (A' : Around) (outer : List Env) (s : Shared) (H : Hp) (E : XK), fd.code = .ref c → Room k (A'.deeper (envOfC qual scope s.heap.objs.size f (.ref c))) → ∀ rs A ms Post vs Q, R rs A ms Post → SvA K H rs vs → A.P H → Qok K G ms H Post Q →
      Fin (G := G) (cxOf CX0 P w K mg base N qual scope f (.ref c) A' outer s H E).nox (cSs (cxOf CX0 P w K mg base N qual scope f (.ref c) A' outer s H E).nox body { nx := fun _ H' => Q .non H', rt := Q }) (rs ++ List.replicate (N.length - ps.length) .u) (Jl [(ms, H)] A)) : FnOk P w K mg base CX0 (k + 1) f fd ps (spS K G R) := by
  obtain ⟨oc, od, dV, kV, doc, pm, an, cdv, ct, osl, rfl, lk, hcd, _, _⟩ := F.ex
  obtain ⟨c, rfl⟩ := He.codeIn_ref hcd
  refine fn_of lk hcd S (fun vs H Q E h => ?_) (fun A' outer s H vs Q E hr h => ?_)
  · obtain ⟨rs, A, ms, Post, hR, sa, _⟩ := h
    rw [sa.len]
    exact len rs A ms Post hR
  · obtain ⟨rs, A, ms, Post, hR, sa, tb, ha, q⟩ := h
    have hl : vs.length = ps.length := by rw [sa.len]; exact len rs A ms Post hR
    have q' : Qok K G ms H Post Q := fun r B v H' p s' fr t j => q r B v H' p s' fr (j.1 _ List.mem_cons_self) j.2
    obtain ⟨t, h1, h2⟩ := fin_ok (hbody c A' outer s H E rfl hr rs A ms Post vs Q hR sa ha q') (SvA.st (N.length - ps.length) sa) tb ⟨fun p hp => by rw [List.mem_singleton.mp hp]; exact Gr.refl, ha⟩
    refine ⟨t, h1.nox, ?_⟩
    have e : L2.start N vs = vs.map some ++ List.replicate (N.length - ps.length) none := by
      unfold L2.start
      rw [hl]
    rw [e]
    exact h2
end
theorem Jl.sub {G : Addr → Prop} {L L' : List (List Addr × Hp)} {A B : As G} {H : Hp} (h : (Jl L A).P H) (hl : ∀ p ∈ L', p ∈ L) (hb : A.P H → B.P H) : (Jl L' B).P H := ⟨fun p hp => h.1 p (hl p hp), hb h.2⟩

section
variable {X : Cx} {G : Addr → Prop} {ρ : List Sv} {J : As G} {D : Ends} {L : List (List Addr × Hp)} {A B : As G} {ms : List Addr} {H0 : Hp} {Post : Sv → As G → Prop}
theorem r_ed {e : Expr} {r : Sv} {pos : Pos} (q : Qok X.K G ms H0 Post D.rt) (h : Ed X G e ρ (Jl L A) r) (hP : Post r B) (hL : (ms, H0) ∈ L := by simp) (hAB : ∀ H, A.P H → B.P H := by exact fun _ h => h) (hF : Fresh H0 r := by exact trivial) : Fin X (cS X (.Return (some e) pos) D) ρ (Jl L A) :=
  f_ret h fun v H s t j => q r B v H hP s hF t (Jl.sub j (fun p hp => by rw [List.mem_singleton.mp hp]; exact hL) (hAB H))
theorem r_en {e : Expr} {ds : List PyData} {pos : Pos} (q : Qok X.K G ms H0 Post D.rt) (h : En X G e ρ (Jl L A) ds) (hP : ∀ a, Post (.l a ds) B) (hL : (ms, H0) ∈ L := by simp) (hAB : ∀ H, A.P H → B.P H := by exact fun _ h => h) : Fin X (cS X (.Return (some e) pos) D) ρ (Jl L A) :=
  f_retN h fun a H1 H ha j1 s t j => q (.l a ds) B (.ref a) H (hP a) s ((j1.1 _ hL).free ha) t (Jl.sub j (fun p hp => by rw [List.mem_singleton.mp hp]; exact hL) (hAB H))
theorem r_ek {e : Expr} {Post' : Sv → As G → Prop} {pos : Pos} (q : Qok X.K G ms H0 Post D.rt) (h : Ek X G e ρ (Jl L A) Post') (hP : ∀ r J', Post' r J' → ∃ B, Post r B ∧ ∀ H, J'.P H → (Jl [(ms, H0)] B).P H) (hL : (ms, H0) ∈ L := by simp) : Fin X (cS X (.Return (some e) pos) D) ρ (Jl L A) :=
  f_retK h fun r J' v H1 H p j1 f s t j => by
    obtain ⟨B, hB, hJ⟩ := hP r J' p
    refine q r B v H hB s ?_ t (hJ H j)
    exact Fresh.back (j1.1 _ hL) f
/-- the body's end without a return -/
theorem r_end {Q : VK} (q : Qok X.K G ms H0 Post Q) (hP : Post (.d .none) B) (hL : (ms, H0) ∈ L := by simp) (hAB : ∀ H, A.P H → B.P H := by exact fun _ h => h) : Fin X (fun _ H' => Q .non H') ρ (Jl L A) := fun σ H s t j =>
  q (.d .none) B .non H hP ⟨_, rfl, .non⟩ trivial t (Jl.sub j (fun p hp => by rw [List.mem_singleton.mp hp]; exact hL) (hAB H))
theorem Mu.fr {L : List (List Addr × Hp)} {a : Addr} {H0 : Hp} (h : Mu L [a]) (hL : ([], H0) ∈ L) {ds : List PyData} : Fresh H0 (.l a ds) := (h _ hL a (by simp)).elim (fun z => nomatch z) id
theorem Ew.to {e : Expr} {r r' : Bool} (h : Ew X G e ρ J r) (e' : r = r') : Ew X G e ρ J r' := e' ▸ h
/-! ### methods -/
/-- a method of the class C that may be called; dvs: the values of the defaults -/
def Mth (P : Program) (w : World) (K : PySem.W.Frag) (mg : Str → Option Value) (base : Heap) (k : Nat) (C : Addr) (m : Str) (sp : Sp) (dvs : List V) : Prop :=
  ∃ (f : Addr) (fd : FuncData) (ps : List Str) (ds : List Value), FnOk P w K mg base CX0 k f fd ps sp ∧ Cls K C ∧ Meth K C m f ∧ Binds K fd ps ds ∧ Vals dvs ds
section
variable {R : List Sv → As G → List Addr → (Sv → As G → Prop) → Prop} {rs ss : List Sv} {P0 : Sv → As G → Prop} {dvs : List V} {k : Nat} {m : Str} {C a : Addr} {ns : List Str} {ρo : List Sv} {o e : Expr} {es : List Expr} {apos pos : Pos} {pl : Sem Bool}
theorem ek_meth (M : Mth X.prog X.w X.K X.mg X.base k C m (spS X.K G R) dvs) (hr : Room k X.A) (ho : Ed X G o ρ J (.v (.ref a))) (hI : ∀ H, J.P H → IAt X.K H a C ns ρo) (ha : Ea X G (e :: es) ρ J rs) (hd : ∀ H, SvA X.K H ss dvs) (hR : R (.v (.ref a) :: (rs ++ ss)) A ms P0) (hJA : ∀ H, J.P H → A.P H) (hoff : OffL ms ρ)
    (hP : ∀ r B H H', P0 r B → J.P H → Tb G H → Gr G ms H H' → B.P H' → ∃ J', Post r J' ∧ J'.P H') (hns : m ∉ ns := by decide)
    (hst : starEach (e :: es) X.env = (false, eval e X.env) :: starEach es X.env := by rfl) (hpl : (backTo pos (starEach es X.env)).any (·.1) = false := by rfl)
    (ht : eval (.Call (.Attribute o m apos) (e :: es) [] pos) X.env = (do
      let ov ← eval o X.env
      standAt apos.atName
      let (f, first) ← holding [ov] (getMethod ov m pl)
      callWith pos f first (backTo pos (starEach (e :: es) X.env)) (backToKw pos (keywordEach [] X.env))) := by rfl) : Ek X G (.Call (.Attribute o m apos) (e :: es) [] pos) ρ J Post := fun σ H Q s t j q => by
  obtain ⟨f, fd, ps, ds, F, hc, hm, hb, hv⟩ := M
  refine ⟨_, pe_meth pe_c hc hm F hr hb hv pass0 pa_c hst hpl ht, ho σ H _ s t j fun v H1 s1 g1 => ?_⟩
  cases s1
  obtain ⟨dx, vs, h1, h2, h3⟩ := hI H1 (J.up g1 t j)
  refine ⟨a, dx, _, rfl, h1, lookup_zipN hns, ha σ H1 _ (s.g0 g1 t) (t.up g1) (J.up g1 t j) fun ws H2 s2 g2 => ?_⟩
  exact ret_k (rs := .v (.ref a) :: rs) (vs := .ref a :: ws) (dvs := dvs) hd hR hJA hoff hP s t j ⟨rfl, s2⟩ (g1.trans g2) q
theorem ek_meth0 (M : Mth X.prog X.w X.K X.mg X.base k C m (spS X.K G R) dvs) (hr : Room k X.A) (ho : Ed X G o ρ J (.v (.ref a))) (hI : ∀ H, J.P H → IAt X.K H a C ns ρo) (hd : ∀ H, SvA X.K H ss dvs) (hR : R (.v (.ref a) :: ss) A ms P0) (hJA : ∀ H, J.P H → A.P H) (hoff : OffL ms ρ)
    (hP : ∀ r B H H', P0 r B → J.P H → Tb G H → Gr G ms H H' → B.P H' → ∃ J', Post r J' ∧ J'.P H') (hns : m ∉ ns := by decide)
    (ht : eval (.Call (.Attribute o m apos) [] [] pos) X.env = (do
      let ov ← eval o X.env
      standAt apos.atName
      let (f, first) ← holding [ov] (getMethod ov m pl)
      callWith pos f first (backTo pos (starEach [] X.env)) (backToKw pos (keywordEach [] X.env))) := by rfl) : Ek X G (.Call (.Attribute o m apos) [] [] pos) ρ J Post := fun σ H Q s t j q => by
  obtain ⟨f, fd, ps, ds, F, hc, hm, hb, hv⟩ := M
  refine ⟨_, pe_meth0 pe_c hc hm F hr hb hv pass0 ht, ho σ H _ s t j fun v H1 s1 g1 => ?_⟩
  cases s1
  obtain ⟨dx, vs, h1, h2, h3⟩ := hI H1 (J.up g1 t j)
  refine ⟨a, dx, _, rfl, h1, lookup_zipN hns, ?_⟩
  exact ret_k (rs := [.v (.ref a)]) (vs := [.ref a]) (dvs := dvs) hd hR hJA hoff hP s t j ⟨rfl, trivial⟩ g1 q
theorem ed_meth {r : Sv} (M : Mth X.prog X.w X.K X.mg X.base k C m (spS X.K G R) dvs) (hr : Room k X.A) (ho : Ed X G o ρ J (.v (.ref a))) (hI : ∀ H, J.P H → IAt X.K H a C ns ρo) (ha : Ea X G (e :: es) ρ J rs) (hd : ∀ H, SvA X.K H ss dvs) (hR : R (.v (.ref a) :: (rs ++ ss)) A [] P0) (hJA : ∀ H, J.P H → A.P H)
    (hP : ∀ r' B, P0 r' B → r' = r) (hns : m ∉ ns := by decide)
    (hst : starEach (e :: es) X.env = (false, eval e X.env) :: starEach es X.env := by rfl) (hpl : (backTo pos (starEach es X.env)).any (·.1) = false := by rfl)
    (ht : eval (.Call (.Attribute o m apos) (e :: es) [] pos) X.env = (do
      let ov ← eval o X.env
      standAt apos.atName
      let (f, first) ← holding [ov] (getMethod ov m pl)
      callWith pos f first (backTo pos (starEach (e :: es) X.env)) (backToKw pos (keywordEach [] X.env))) := by rfl) : Ed X G (.Call (.Attribute o m apos) (e :: es) [] pos) ρ J r := fun σ H Q s t j q => by
  obtain ⟨f, fd, ps, ds, F, hc, hm, hb, hv⟩ := M
  refine ⟨_, pe_meth pe_c hc hm F hr hb hv pass0 pa_c hst hpl ht, ho σ H _ s t j fun v H1 s1 g1 => ?_⟩
  cases s1
  obtain ⟨dx, vs, h1, h2, h3⟩ := hI H1 (J.up g1 t j)
  refine ⟨a, dx, _, rfl, h1, lookup_zipN hns, ha σ H1 _ (s.g0 g1 t) (t.up g1) (J.up g1 t j) fun ws H2 s2 g2 => ?_⟩
  exact ret_d (rs := .v (.ref a) :: rs) (vs := .ref a :: ws) (dvs := dvs) hd hR hJA hP t j ⟨rfl, s2⟩ (g1.trans g2) q
theorem ed_meth0 {r : Sv} (M : Mth X.prog X.w X.K X.mg X.base k C m (spS X.K G R) dvs) (hr : Room k X.A) (ho : Ed X G o ρ J (.v (.ref a))) (hI : ∀ H, J.P H → IAt X.K H a C ns ρo) (hd : ∀ H, SvA X.K H ss dvs) (hR : R (.v (.ref a) :: ss) A [] P0) (hJA : ∀ H, J.P H → A.P H)
    (hP : ∀ r' B, P0 r' B → r' = r) (hns : m ∉ ns := by decide)
    (ht : eval (.Call (.Attribute o m apos) [] [] pos) X.env = (do
      let ov ← eval o X.env
      standAt apos.atName
      let (f, first) ← holding [ov] (getMethod ov m pl)
      callWith pos f first (backTo pos (starEach [] X.env)) (backToKw pos (keywordEach [] X.env))) := by rfl) : Ed X G (.Call (.Attribute o m apos) [] [] pos) ρ J r := fun σ H Q s t j q => by
  obtain ⟨f, fd, ps, ds, F, hc, hm, hb, hv⟩ := M
  refine ⟨_, pe_meth0 pe_c hc hm F hr hb hv pass0 ht, ho σ H _ s t j fun v H1 s1 g1 => ?_⟩
  cases s1
  obtain ⟨dx, vs, h1, h2, h3⟩ := hI H1 (J.up g1 t j)
  refine ⟨a, dx, _, rfl, h1, lookup_zipN hns, ?_⟩
  exact ret_d (rs := [.v (.ref a)]) (vs := [.ref a]) (dvs := dvs) hd hR hJA hP t j ⟨rfl, trivial⟩ g1 q
/-- o.f, a property -/
theorem ed_prop {r : Sv} {p g : Addr} {fd : FuncData} {ps : List Str} {ds : List Value} {f : Str} (hc : Cls X.K C) (hp : PropOf X.K C f p g) (F : FnOk X.prog X.w X.K X.mg X.base CX0 k g fd ps (spS X.K G R)) (hb : Binds X.K fd ps ds) (hv : Vals dvs ds) (hr : Room (k + 1) X.A) (ho : Ed X G o ρ J (.v (.ref a))) (hI : ∀ H, J.P H → IAt X.K H a C ns ρo) (hd : ∀ H, SvA X.K H ss dvs) (hR : R (.v (.ref a) :: ss) A [] P0) (hJA : ∀ H, J.P H → A.P H)
    (hP : ∀ r' B, P0 r' B → r' = r) (hab : attributeBase o f X.env (eval o X.env) = eval o X.env := by rfl) : Ed X G (.Attribute o f pos) ρ J r := fun σ H Q s t j q => by
  refine ⟨_, pe_prop pe_c hc hp F hr hb hv pass0 hab, ho σ H _ s t j fun v H1 s1 g1 => ?_⟩
  cases s1
  obtain ⟨dx, vs, h1, h2, h3⟩ := hI H1 (J.up g1 t j)
  refine ⟨a, dx, _, rfl, h1, ?_⟩
  exact ret_d (rs := [.v (.ref a)]) (vs := [.ref a]) (dvs := dvs) hd hR hJA hP t j ⟨rfl, trivial⟩ g1 q
end
/-! ### isinstance -/
def tyD : PyData → String
  | .none => "NoneType"
  | .bool _ => "bool"
  | .int _ => "int"
  | .str _ => "str"
  | .tuple _ => "tuple"
  | .list _ => "list"
  | .dict _ => "dict"
theorem Dt.ty {K : PySem.W.Frag} {H : Hp} {v : V} {d : PyData} (h : Dt K H v d) : TyX K H v (.type (tyD d)) := by
  cases h with
  | non => exact .base .non
  | bl b => exact .base (.bl b)
  | int i => exact .base (.int i)
  | str x => exact .base (.str x)
  | tup s _ =>
    rcases s with (s | ⟨o, s⟩) | ⟨o, its, n, h1, h2, _⟩
    · exact .base (.tup s)
    · exact .fTuple s
    · exact .kTuple h1 h2
/-- isinstance(e, T), T a built-in class -/
theorem ed_isi {e : Expr} {d : PyData} {ty T : String} {b : Bool} {p p2 pos : Pos} (h : Ed X G e ρ J (.d d)) (hk : kitB ty T = some b) (hm : X.mg "isinstance" = none) (hT : X.mg (Str.ofString T) = none) (hbt : bootBuiltins (Str.ofString T) = some (.type T)) (hn : (Str.ofString T) ≠ "__name__") (hdd : ((Str.ofString T) == ("__debug__" : Str)) = false)
    (hty : tyD d = ty := by rfl) (hgT : Gl X (Str.ofString T) := by rfl) (hg : Gl X "isinstance" := by rfl) (he : starEach [e, .Name (Str.ofString T) p2] X.env = (false, eval e X.env) :: starEach [.Name (Str.ofString T) p2] X.env := by rfl)
    (he2 : starEach [.Name (Str.ofString T) p2] X.env = (false, eval (.Name (Str.ofString T) p2) X.env) :: starEach [] X.env := by rfl) (hpl : (backTo pos (starEach [.Name (Str.ofString T) p2] X.env)).any (·.1) = false := by rfl) :
    Ed X G (.Call (.Name "isinstance" p) [e, .Name (Str.ofString T) p2] [] pos) ρ J (.d (.bool b)) :=
  ed_cb (xs := [.d d, .v (.ty T)]) (pe_callB call_isi hg hm (by decide +kernel) pa_c (by decide) (by decide) he hpl)
    (ea_cons h (ea_cons (fun σ H Q s t j q => ⟨_, pe_bltn (v := .ty T) hgT hT hbt rfl hn hdd, q _ H rfl Gr.refl⟩) ea_nil he2) he) fun vs H Q s _ _ q => by
    match vs, s with
    | [v, w], s =>
      obtain ⟨⟨_, e1, d1⟩, e2, _⟩ := s
      cases e1; cases e2
      exact ⟨v, .ty T, .type (tyD d), .type T, b, rfl, .ty T, d1.ty, kit_ty (by rw [hty]; exact hk), q _ H ⟨_, rfl, .bl b⟩ Gr.refl⟩
end
end Wb

/-! The mirror: machines, tables, lives, notes, the world of marks and what its steps do, in plain Lean; and how all that stands as data. -/
namespace Wb
open PySem PySem.Spec PyProof.Rows L2

/-! ### clean data: None, ints, texts, tuples, not deep -/
def cn : Nat → PyData → Bool
  | _, .none => true
  | _, .int _ => true
  | _, .str x => PyData.strOk x
  | 0, .tuple _ => false
  | n + 1, .tuple xs => xs.all (cn n)
  | _, _ => false
theorem cn_lay : ∀ (n : Nat) (d : PyData), cn n d = true → d.canLay0 = true ∧ d.depth ≤ n := by
  intro n
  induction n with
  | zero => intro d h; cases d <;> simp_all [cn, PyData.canLay0, PyData.depth]
  | succ n ih =>
    intro d h
    cases d with
    | tuple xs =>
      have h' : ∀ x ∈ xs, cn n x = true := by simpa [cn] using h
      have key : ∀ ys : List PyData, (∀ x ∈ ys, cn n x = true) → PyData.canLayAll0 ys = true ∧ PyData.depthAll ys ≤ n := by
        intro ys
        induction ys with
        | nil => intro _; simp [PyData.canLayAll0, PyData.depthAll]
        | cons y ys ihy =>
          intro hy
          obtain ⟨a, b⟩ := ih y (hy y List.mem_cons_self)
          obtain ⟨c, e⟩ := ihy fun x hx => hy x (List.mem_cons_of_mem _ hx)
          simp only [PyData.canLayAll0, PyData.depthAll, a, c, Bool.and_self, true_and]
          omega
      obtain ⟨a, b⟩ := key xs h'
      refine ⟨by simpa [PyData.canLay0] using a, by simp only [PyData.depth]; omega⟩
    | _ => simp_all [cn, PyData.canLay0, PyData.depth]
theorem cn_shaped {n : Nat} {d : PyData} (h : cn n d = true) (hn : n ≤ 60 := by decide) : SeqAt.shaped d = true := by
  obtain ⟨a, b⟩ := cn_lay n d h
  unfold SeqAt.shaped
  rw [a, Bool.true_and]
  exact decide_eq_true (by omega)
theorem cnl_lay {n : Nat} : ∀ {ds : List PyData}, (∀ d ∈ ds, cn n d = true) → PyData.canLayAll0 ds = true ∧ PyData.depthAll ds ≤ n
  | [], _ => by simp [PyData.canLayAll0, PyData.depthAll]
  | d :: ds, h => by
    obtain ⟨a, b⟩ := cn_lay n d (h d List.mem_cons_self)
    obtain ⟨c, e⟩ := cnl_lay fun x hx => h x (List.mem_cons_of_mem _ hx)
    simp only [PyData.canLayAll0, PyData.depthAll, a, c, Bool.and_self, true_and]
    omega
theorem cnl_shaped {n : Nat} {ds : List PyData} (h : ∀ d ∈ ds, cn n d = true) (hn : n ≤ 60 := by decide) : SeqAt.shaped (.list ds) = true := by
  obtain ⟨a, b⟩ := cnl_lay h
  have a' : PyData.canLay0 (.list ds) = true := by simpa [PyData.canLay0] using a
  unfold SeqAt.shaped
  rw [a', Bool.true_and]
  exact decide_eq_true (by simp only [PyData.depth]; omega)
theorem cn_eqv : ∀ (n : Nat) (d e : PyData), cn n d = true → cn n e = true → (PyData.eqv d e = true ↔ d = e) := by
  intro n
  induction n with
  | zero => intro d e h1 h2; cases d <;> cases e <;> simp_all [cn, PyData.eqv]
  | succ n ih =>
    intro d e h1 h2
    cases d <;> cases e <;> try simp_all [cn, PyData.eqv]
    rename_i xs ys
    have key : ∀ xs ys : List PyData, (∀ x ∈ xs, cn n x = true) → (∀ x ∈ ys, cn n x = true) → (PyData.eqvAll xs ys = true ↔ xs = ys) := by
      intro xs
      induction xs with
      | nil => intro ys _ _; cases ys <;> simp [PyData.eqvAll]
      | cons x xs ihx =>
        intro ys h1 h2
        cases ys with
        | nil => simp [PyData.eqvAll]
        | cons y ys =>
          simp only [PyData.eqvAll, Bool.and_eq_true, List.cons.injEq]
          rw [ih x y (h1 x List.mem_cons_self) (h2 y List.mem_cons_self), ihx ys (fun z hz => h1 z (List.mem_cons_of_mem _ hz)) fun z hz => h2 z (List.mem_cons_of_mem _ hz)]
    exact key xs ys h1 h2
theorem cn_eqvB {n : Nat} {d e : PyData} {p : Prop} [Decidable p] (h1 : cn n d = true) (h2 : cn n e = true) (hp : d = e ↔ p) : PyData.eqv d e = decide p := by
  have h := (cn_eqv n d e h1 h2).trans hp
  by_cases q : p
  · rw [decide_eq_true q]; exact h.mpr q
  · rw [decide_eq_false q]
    cases z : PyData.eqv d e with
    | false => rfl
    | true => exact absurd (h.mp z) q
theorem cn_mono : ∀ {n : Nat} {d : PyData}, cn n d = true → cn (n + 1) d = true := by
  intro n
  induction n with
  | zero => intro d h; cases d <;> simp_all [cn]
  | succ n ih =>
    intro d h
    cases d <;> try simp_all [cn]

/-! ### the types and their data -/
abbrev Word := Option Str
abbrev Mach := List (List (Nat × Word))
abbrev Tabl := List (List (List Nat))
abbrev Life := List Nat
structure Note where
  num : Nat
  mark : Option Nat
  life : Life
  done : Nat
deriving DecidableEq
inductive Stand where
  | off
  | mute
  | choice (l : Life)
  | sealed (n : Note)
  | ready (l : Life) (d : Nat)
  | bare (l : Life) (d : Nat)
deriving DecidableEq
structure Wd where
  wheel : Nat × Option Nat
  shelf : List Note
  stand : Stand
  heard : List (Nat × Str)
  spoken : List Life
inductive Man where
  | sealed | late | early | counted | opn
deriving DecidableEq
inductive Stp where
  | boot (n : Note)
  | ask (o : Nat)
  | turn
  | cut
  | sel
deriving DecidableEq
def eN (n : Nat) : PyData := .int (n : Int)
def eW : Word → PyData
  | none => .none
  | some x => .str x
def eOm : Option Nat → PyData
  | none => .none
  | some n => eN n
def eO (o : Nat × Word) : PyData := .tuple [eN o.1, eW o.2]
def eS (s : List (Nat × Word)) : PyData := .tuple (s.map eO)
def eM (m : Mach) : PyData := .tuple (m.map eS)
def eL (l : List Nat) : PyData := .tuple (l.map eN)
def eRs (rs : List (List Nat)) : PyData := .tuple (rs.map eL)
def eT (t : Tabl) : PyData := .tuple (t.map eRs)
def eNote (n : Note) : PyData := .tuple [eN n.num, eOm n.mark, eL n.life, eN n.done]
def eWh (w : Nat × Option Nat) : PyData := .tuple [eN w.1, eOm w.2]
def sS (x : Str) : PyData := .str x
def eSt : Stand → PyData
  | .off => .tuple [sS "off"]
  | .mute => .tuple [sS "mute"]
  | .choice l => .tuple [sS "choice", eL l]
  | .sealed n => .tuple [sS "sealed", eNote n]
  | .ready l d => .tuple [sS "ready", eL l, eN d]
  | .bare l d => .tuple [sS "bare", eL l, eN d]
def eH (h : Nat × Str) : PyData := .tuple [eN h.1, .str h.2]
def mS : Man → Str
  | .sealed => "sealed"
  | .late => "late"
  | .early => "early"
  | .counted => "counted"
  | .opn => "open"
def eMan (m : Man) : PyData := sS (mS m)
def eStp : Stp → PyData
  | .boot n => .tuple [sS "boot", eNote n]
  | .ask o => .tuple [sS "ask", eN o]
  | .turn => .tuple [sS "turn"]
  | .cut => .tuple [sS "cut"]
  | .sel => .tuple [sS "seal"]
/-! injective -/
theorem eN_inj {a b : Nat} (h : eN a = eN b) : a = b := by
  unfold eN at h
  injection h with h
  omega
theorem eOm_inj {a b : Option Nat} (h : eOm a = eOm b) : a = b := by
  cases a <;> cases b
  · rfl
  · cases h
  · cases h
  · exact congrArg some (eN_inj h)
theorem map_inj {α β : Type} {f : α → β} (hf : ∀ a b, f a = f b → a = b) : ∀ {xs ys : List α}, xs.map f = ys.map f → xs = ys
  | [], [], _ => rfl
  | [], _ :: _, h => by cases h
  | _ :: _, [], h => by cases h
  | x :: xs, y :: ys, h => by
    rw [List.map_cons, List.map_cons] at h
    injection h with h1 h2
    rw [hf _ _ h1, map_inj hf h2]
theorem eL_inj {a b : List Nat} (h : eL a = eL b) : a = b := by
  unfold eL at h
  injection h with h
  exact map_inj (fun _ _ => eN_inj) h
theorem eNote_inj {a b : Note} (h : eNote a = eNote b) : a = b := by
  obtain ⟨a1, a2, a3, a4⟩ := a
  obtain ⟨b1, b2, b3, b4⟩ := b
  unfold eNote at h
  injection h with h
  injection h with h1 h
  injection h with h2 h
  injection h with h3 h
  injection h with h4 h
  have e1 : a1 = b1 := eN_inj h1
  have e2 : a2 = b2 := eOm_inj h2
  have e3 : a3 = b3 := eL_inj h3
  have e4 : a4 = b4 := eN_inj h4
  subst e1 e2 e3 e4
  rfl
theorem eWh_inj {a b : Nat × Option Nat} (h : eWh a = eWh b) : a = b := by
  obtain ⟨a1, a2⟩ := a
  obtain ⟨b1, b2⟩ := b
  unfold eWh at h
  injection h with h
  injection h with h1 h
  injection h with h2 h
  have e1 : a1 = b1 := eN_inj h1
  have e2 : a2 = b2 := eOm_inj h2
  subst e1 e2
  rfl
theorem str_ne {a b : Str} (h : (a == b) = false) : ¬ sS a = sS b := fun z => by
  unfold sS at z
  injection z with z
  subst z
  simp at h
theorem tup2 {a b : PyData} {x y : List PyData} (h : PyData.tuple (a :: x) = .tuple (b :: y)) : a = b ∧ x = y := by
  injection h with h
  injection h with h1 h2
  exact ⟨h1, h2⟩
theorem eSt_inj {a b : Stand} (h : eSt a = eSt b) : a = b := by
  cases a <;> cases b <;> first
    | rfl
    | exact absurd (tup2 h).1 (str_ne (by decide))
    | (obtain ⟨_, h⟩ := tup2 h
       injection h with h1 h2
       first
         | rw [eL_inj h1]
         | rw [eNote_inj h1]
       try (injection h2 with h3 h4; rw [eN_inj h3]))
theorem eStp_inj {a b : Stp} (h : eStp a = eStp b) : a = b := by
  cases a <;> cases b <;> first
    | rfl
    | exact absurd (tup2 h).1 (str_ne (by decide))
    | (obtain ⟨_, h⟩ := tup2 h
       injection h with h1 h2
       first
         | rw [eN_inj h1]
         | rw [eNote_inj h1])
theorem mS_inj {a b : Man} (h : mS a = mS b) : a = b := by
  cases a <;> cases b <;> first
    | rfl
    | (exfalso; revert h; decide)
/-! clean -/
theorem cn_N (n : Nat) (a : Nat) : cn n (eN a) = true := by cases n <;> rfl
theorem cn_Om (n : Nat) (a : Option Nat) : cn n (eOm a) = true := by cases a <;> cases n <;> rfl
theorem cn_L (n : Nat) (l : List Nat) : cn (n + 1) (eL l) = true := by
  simp only [eL, cn, List.all_eq_true, List.mem_map]
  rintro x ⟨a, _, rfl⟩
  exact cn_N n a
theorem cn_Note (n : Nat) (a : Note) : cn (n + 2) (eNote a) = true := by simp [eNote, cn, cn_N, cn_Om, cn_L]
theorem cn_Wh (n : Nat) (a : Nat × Option Nat) : cn (n + 1) (eWh a) = true := by simp [eWh, cn, cn_N, cn_Om]
theorem cn_St (n : Nat) (a : Stand) : cn (n + 3) (eSt a) = true := by
  cases a <;> simp [eSt, sS, cn, cn_N, cn_Note, cn_L] <;> decide +kernel
theorem cn_Stp (n : Nat) (a : Stp) : cn (n + 3) (eStp a) = true := by
  cases a <;> simp [eStp, sS, cn, cn_N, cn_Note, cn_L] <;> decide +kernel
theorem cn_Man (n : Nat) (a : Man) : cn n (eMan a) = true := by
  have e : PyData.strOk (mS a) = true := by cases a <;> decide +kernel
  cases n <;> exact e
end Wb

/-! The logic's eighth part: comparisons, texts, lists. -/
namespace Wb
open PySem PySem.Spec PyProof.Rows L2
section
variable {X : Cx} {G : Addr → Prop} {ρ : List Sv} {J : As G}
/-! ### tests by comparisons -/
theorem et_eq {a b : Expr} {d e : PyData} {pos : Pos} {k : Nat} (hr : Room k X.A) (ha : Ed X G a ρ J (.d d)) (hb : Ed X G b ρ J (.d e)) (sd : SeqAt.shaped d = true) (se : SeqAt.shaped e = true) : Et X G (.Compare a [.Eq] [b] pos) ρ J (PyData.eqv d e) :=
  et_cmp (op_eqD (hu64 hr)) ha hb (nomark _) fun v w H Q h1 h2 _ _ q => by
    obtain ⟨_, e1, d1⟩ := h1
    obtain ⟨_, e2, d2⟩ := h2
    cases e1; cases e2
    exact ⟨d, e, Dt.dp _ _ d1, Dt.dp _ _ d2, sd, se, q _ H ⟨_, rfl, .bl _⟩ Gr.refl⟩
theorem et_ne {a b : Expr} {d e : PyData} {pos : Pos} {k : Nat} (hr : Room k X.A) (ha : Ed X G a ρ J (.d d)) (hb : Ed X G b ρ J (.d e)) (sd : SeqAt.shaped d = true) (se : SeqAt.shaped e = true) : Et X G (.Compare a [.NotEq] [b] pos) ρ J (!PyData.eqv d e) :=
  et_cmp (op_neD (hu64 hr)) ha hb (nomark _) fun v w H Q h1 h2 _ _ q => by
    obtain ⟨_, e1, d1⟩ := h1
    obtain ⟨_, e2, d2⟩ := h2
    cases e1; cases e2
    exact ⟨d, e, Dt.dp _ _ d1, Dt.dp _ _ d2, sd, se, q _ H ⟨_, rfl, .bl _⟩ Gr.refl⟩
theorem et_icmp {op : CmpOp} {a b : Expr} {i j : Int} {pos : Pos} {p : Int → Int → Bool} (ho : OpR X (compareOp op) (rI0 fun i j => .bl (p i j))) (ha : Ed X G a ρ J (.d (.int i))) (hb : Ed X G b ρ J (.d (.int j))) (hm : behindInMarks op b = false) : Et X G (.Compare a [op] [b] pos) ρ J (p i j) :=
  et_cmp ho ha hb hm fun v w H Q h1 h2 _ _ q => by
    obtain ⟨_, e1, d1⟩ := h1
    obtain ⟨_, e2, d2⟩ := h2
    cases e1; cases e2; cases d1; cases d2
    exact ⟨i, j, rfl, rfl, q _ H ⟨_, rfl, .bl _⟩ Gr.refl⟩
theorem et_lt {a b : Expr} {i j : Int} {pos : Pos} (ha : Ed X G a ρ J (.d (.int i))) (hb : Ed X G b ρ J (.d (.int j))) : Et X G (.Compare a [.Lt] [b] pos) ρ J (decide (i < j)) := et_icmp op_lt ha hb (nomark _)
theorem et_gt {a b : Expr} {i j : Int} {pos : Pos} (ha : Ed X G a ρ J (.d (.int i))) (hb : Ed X G b ρ J (.d (.int j))) : Et X G (.Compare a [.Gt] [b] pos) ρ J (decide (j < i)) := et_icmp op_gt ha hb (nomark _)
theorem et_ge {a b : Expr} {i j : Int} {pos : Pos} (ha : Ed X G a ρ J (.d (.int i))) (hb : Ed X G b ρ J (.d (.int j))) : Et X G (.Compare a [.GtE] [b] pos) ρ J (decide (j ≤ i)) := et_icmp op_ge ha hb (nomark _)
/-- a <= b <= c -/
theorem et_chain {a b c : Expr} {i j k : Int} {pos : Pos} (ha : Ed X G a ρ J (.d (.int i))) (hb : Ed X G b ρ J (.d (.int j))) (hc : Ed X G c ρ J (.d (.int k))) (hm : lastMarks [.LtE, .LtE] [b, c] = false := by with_unfolding_all rfl) :
    Et X G (.Compare a [.LtE, .LtE] [b, c] pos) ρ J (decide (i ≤ j) && decide (j ≤ k)) := fun σ H Q hs ht hj q => by
  refine ⟨_, pt_chain op_le op_le pe_c pe_c pe_c hm, ha σ H _ hs ht hj fun v H1 s1 g1 => hb σ H1 _ (hs.g0 g1 ht) (ht.up g1) (J.up g1 ht hj) fun w H2 s2 g2 => ?_⟩
  obtain ⟨_, e1, d1⟩ := s1
  obtain ⟨_, e2, d2⟩ := s2
  cases e1; cases e2; cases d1; cases d2
  have g12 := g1.trans g2
  refine ⟨i, j, rfl, rfl, _, rfl, ?_⟩
  by_cases h : i ≤ j
  · rw [if_pos (decide_eq_true h)]
    refine hc σ H2 _ (hs.g0 g12 ht) (ht.up g12) (J.up g12 ht hj) fun z H3 s3 g3 => ?_
    obtain ⟨_, e3, d3⟩ := s3
    cases e3; cases d3
    refine ⟨j, k, rfl, rfl, _, rfl, ?_⟩
    have q' := q H3 (g12.trans g3)
    rw [decide_eq_true h, Bool.true_and] at q'
    exact q'
  · rw [if_neg (by rw [decide_eq_false h]; exact Bool.false_ne_true)]
    have q' := q H2 g12
    rw [decide_eq_false h, Bool.false_and] at q'
    exact ⟨_, rfl, q'⟩
theorem et_isN {a : Expr} {d : PyData} {k : Nat} {pos p2 : Pos} (ha : Ed X G a ρ J (.d d)) : Et X G (.Compare a [.Is] [.Constant .none k p2] pos) ρ J (isN d) :=
  et_cmp op_isN ha ed_non (nomark _) fun v w H Q h1 h2 _ _ q => by
    obtain ⟨_, e1, d1⟩ := h1
    obtain ⟨_, e2, d2⟩ := h2
    cases e1; cases e2; cases d2
    refine ⟨rfl, q _ H ⟨_, rfl, ?_⟩ Gr.refl⟩
    rw [dec_non d1]
    exact .bl _
theorem et_notN {a : Expr} {d : PyData} {k : Nat} {pos p2 : Pos} (ha : Ed X G a ρ J (.d d)) : Et X G (.Compare a [.IsNot] [.Constant .none k p2] pos) ρ J (!isN d) :=
  et_cmp op_notN ha ed_non (nomark _) fun v w H Q h1 h2 _ _ q => by
    obtain ⟨_, e1, d1⟩ := h1
    obtain ⟨_, e2, d2⟩ := h2
    cases e1; cases e2; cases d2
    refine ⟨rfl, q _ H ⟨_, rfl, ?_⟩ Gr.refl⟩
    rw [dec_non d1]
    exact .bl _
/-! ### lists compared -/
theorem SvOk.lp {K : PySem.W.Frag} {H : Hp} {a : Addr} {ds : List PyData} {v : V} (h : SvOk K H (.l a ds) (some v)) : Dp K H v (.list ds) := by
  obtain ⟨e, xs, hx, da, _⟩ := h
  injection e with e
  subst e
  exact .lst (SqL.of hx) (Da.dp _ _ da)
/-- x in xs, x not in xs: xs a list that is known -/
theorem et_notInL {a b : Expr} {d : PyData} {p : Addr} {ds : List PyData} {pos : Pos} {k : Nat} (hu : X.A.units + 65 < cLine) (ha : Ed X G a ρ J (.d d)) (hb : Ed X G b ρ J (.l p ds)) (sd : SeqAt.shaped d = true) (se : SeqAt.shaped (.list ds) = true) (hm : behindInMarks .NotIn b = false := by rfl) : Et X G (.Compare a [.NotIn] [b] pos) ρ J (!(ds.any fun z => z.eqv d)) :=
  et_cmp (op_notInD hu) ha hb hm fun v w H Q h1 h2 _ _ q => by
    obtain ⟨_, e1, d1⟩ := h1
    cases e1
    exact ⟨d, ds, Dt.dp _ _ d1, h2.lp, sd, se, q _ H ⟨_, rfl, .bl _⟩ Gr.refl⟩
/-- xs != [], the right side a new list -/
theorem et_neL {a b : Expr} {p : Addr} {ds es : List PyData} {pos : Pos} {k : Nat} (hr : Room k X.A) (ha : Ed X G a ρ J (.l p ds)) (hb : En X G b ρ J es) (sd : SeqAt.shaped (.list ds) = true) (se : SeqAt.shaped (.list es) = true) : Et X G (.Compare a [.NotEq] [b] pos) ρ J (!PyData.eqv (.list ds) (.list es)) := fun σ H Q hs ht hj q =>
  ⟨_, pt_cmpR (op_neD (hu64 hr)) pe_c pe_c (nomark _), ha σ H _ hs ht hj fun v H1 s1 g1 => hb σ H1 _ (hs.g0 g1 ht) (ht.up g1) (J.up g1 ht hj) fun p H2 hp s2 g2 =>
    ⟨_, _, (s1.g0 g2 (ht.up g1)).lp, s2.lp, sd, se, _, rfl, q H2 (g1.trans g2)⟩⟩
/-- new == new -/
theorem ed_eqN {a b : Expr} {ds es : List PyData} {pos : Pos} {k : Nat} (hr : Room k X.A) (ha : En X G a ρ J ds) (hb : En X G b ρ J es) (sd : SeqAt.shaped (.list ds) = true) (se : SeqAt.shaped (.list es) = true) : Ed X G (.Compare a [.Eq] [b] pos) ρ J (.d (.bool (PyData.eqv (.list ds) (.list es)))) := fun σ H Q hs ht hj q =>
  ⟨_, pe_cmpR (op_eqD (hu64 hr)) pe_c pe_c (nomark _), ha σ H _ hs ht hj fun p0 H1 hp0 s1 g1 => hb σ H1 _ (hs.g0 g1 ht) (ht.up g1) (J.up g1 ht hj) fun p H2 hp s2 g2 =>
    ⟨_, _, (s1.g0 g2 (ht.up g1)).lp, s2.lp, sd, se, q _ H2 ⟨_, rfl, .bl _⟩ (g1.trans g2)⟩⟩
theorem et_eqN {a b : Expr} {ds es : List PyData} {pos : Pos} {k : Nat} (hr : Room k X.A) (ha : En X G a ρ J ds) (hb : En X G b ρ J es) (sd : SeqAt.shaped (.list ds) = true) (se : SeqAt.shaped (.list es) = true) : Et X G (.Compare a [.Eq] [b] pos) ρ J (PyData.eqv (.list ds) (.list es)) := fun σ H Q hs ht hj q =>
  ⟨_, pt_cmpR (op_eqD (hu64 hr)) pe_c pe_c (nomark _), ha σ H _ hs ht hj fun p0 H1 hp0 s1 g1 => hb σ H1 _ (hs.g0 g1 ht) (ht.up g1) (J.up g1 ht hj) fun p H2 hp s2 g2 =>
    ⟨_, _, (s1.g0 g2 (ht.up g1)).lp, s2.lp, sd, se, _, rfl, q H2 (g1.trans g2)⟩⟩
/-! ### texts -/
/-- c in s, c one sign -/
theorem ed_sign {a b : Expr} {c : Nat} {z : Str} {pos : Pos} (ha : Ed X G a ρ J (.d (.str ⟨#[c]⟩))) (hb : Ed X G b ρ J (.d (.str z))) (hm : behindInMarks .In b = false := by rfl) : Ed X G (.Compare a [.In] [b] pos) ρ J (.d (.bool (decide (c ∈ z.cps.toList)))) :=
  ed_bin (pe_cmpR op_in_sign pe_c pe_c hm) ha hb fun v w H Q h1 h2 _ _ q => by
    obtain ⟨_, e1, d1⟩ := h1
    obtain ⟨_, e2, d2⟩ := h2
    cases e1; cases e2; cases d1; cases d2
    exact ⟨c, z, rfl, rfl, q _ H ⟨_, rfl, .bl _⟩ Gr.refl⟩
theorem ed_lenS {e : Expr} {z : Str} {p pos : Pos} (hm : X.mg "len" = none) (h : Ed X G e ρ J (.d (.str z))) (hz : z.length ≤ 1000) (hg : Gl X "len" := by rfl) (he : starEach [e] X.env = (false, eval e X.env) :: starEach [] X.env := by rfl) (hpl : (backTo pos (starEach [] X.env)).any (·.1) = false := by rfl) :
    Ed X G (.Call (.Name "len" p) [e] [] pos) ρ J (.d (.int (z.length : Nat))) :=
  ed_cb (pe_callB call_len_str hg hm boot_len pa_c (by decide) (by decide) he hpl) (ea_cons h ea_nil he) fun vs H Q s _ _ q => by
    match vs, s with
    | [v], s =>
      obtain ⟨_, e1, d1⟩ := s.1
      cases e1; cases d1
      exact ⟨z, rfl, Nat.le_trans hz (by decide), q _ H ⟨_, rfl, .int _⟩ Gr.refl⟩
/-- x in t, x not in t: t a tuple of texts, x a text -/
def sT : PyData → Option Str
  | .str x => some x
  | _ => none
theorem Da.flat {K : PySem.W.Frag} {H : Hp} : ∀ {vs : List V} {ss : List Str}, Da K H vs (ss.map PyData.str) → vs = ss.map V.str
  | [], [], _ => rfl
  | v :: vs, z :: ss, h => by
    cases h with
    | cons h1 h2 =>
      cases h1
      rw [Da.flat h2] <;> rfl
  | [], _ :: _, h => by cases h
  | _ :: _, [], h => by cases h
theorem inV_str {x : Str} : ∀ {ss : List Str}, inV (.str x) (ss.map V.str) = decide (x ∈ ss)
  | [] => rfl
  | z :: ss => by
    have ih : inV (.str x) (ss.map V.str) = decide (x ∈ ss) := inV_str
    unfold inV at ih ⊢
    rw [List.map_cons, List.any_cons, ih]
    have e : eqV (.str z) (.str x) = decide (x = z) := by
      show (z == x) = decide (x = z)
      by_cases q : x = z
      · subst q; simp
      · rw [decide_eq_false q]
        cases r : (z == x) with
        | false => rfl
        | true => exact absurd (beq_iff_eq.mp r).symm q
    rw [e]
    by_cases q : x = z
    · simp [q]
    · simp [q]
theorem ed_inS {a b : Expr} {x : Str} {ss : List Str} {pos : Pos} (ha : Ed X G a ρ J (.d (.str x))) (hb : Ed X G b ρ J (.d (.tuple (ss.map PyData.str)))) (hm : behindInMarks .In b = false) : Ed X G (.Compare a [.In] [b] pos) ρ J (.d (.bool (decide (x ∈ ss)))) :=
  ed_bin (pe_cmpR op_in_seq pe_c pe_c hm) ha hb fun v w H Q h1 h2 _ _ q => by
    obtain ⟨_, e1, d1⟩ := h1
    obtain ⟨_, e2, d2⟩ := h2
    cases e1; cases e2; cases d1
    obtain ⟨p, xs, rfl, s1, a1⟩ := d2.tup_inv
    have e := Da.flat a1
    subst e
    refine ⟨p, _, rfl, .inr s1, rfl, by simp [flatV], q _ H ⟨_, rfl, ?_⟩ Gr.refl⟩
    rw [inV_str]
    simp
    exact .bl _
theorem et_inS {a b : Expr} {x : Str} {ss : List Str} {pos : Pos} (ha : Ed X G a ρ J (.d (.str x))) (hb : Ed X G b ρ J (.d (.tuple (ss.map PyData.str)))) (hm : behindInMarks .In b = false) : Et X G (.Compare a [.In] [b] pos) ρ J (decide (x ∈ ss)) :=
  et_cmp op_in_seq ha hb hm fun v w H Q h1 h2 _ _ q => by
    obtain ⟨_, e1, d1⟩ := h1
    obtain ⟨_, e2, d2⟩ := h2
    cases e1; cases e2; cases d1
    obtain ⟨p, xs, rfl, s1, a1⟩ := d2.tup_inv
    have e := Da.flat a1
    subst e
    refine ⟨p, _, rfl, .inr s1, rfl, by simp [flatV], q _ H ⟨_, rfl, ?_⟩ Gr.refl⟩
    rw [inV_str]
    simp
    exact .bl _
theorem et_notInS {a b : Expr} {x : Str} {ss : List Str} {pos : Pos} (ha : Ed X G a ρ J (.d (.str x))) (hb : Ed X G b ρ J (.d (.tuple (ss.map PyData.str)))) (hm : behindInMarks .NotIn b = false) : Et X G (.Compare a [.NotIn] [b] pos) ρ J (!decide (x ∈ ss)) :=
  et_cmp op_notIn_seq ha hb hm fun v w H Q h1 h2 _ _ q => by
    obtain ⟨_, e1, d1⟩ := h1
    obtain ⟨_, e2, d2⟩ := h2
    cases e1; cases e2; cases d1
    obtain ⟨p, xs, rfl, s1, a1⟩ := d2.tup_inv
    have e := Da.flat a1
    subst e
    refine ⟨p, _, rfl, .inr s1, rfl, by simp [flatV], q _ H ⟨_, rfl, ?_⟩ Gr.refl⟩
    rw [inV_str]
    simp
    exact .bl _
/-! ### calls of pure defs -/
/-- a pure def: from the arguments' readings to the answer's -/
def Pu (f : List Sv → Sv → Prop) : List Sv → As G → List Addr → (Sv → As G → Prop) → Prop := fun rs A ms Post => ∃ r, f rs r ∧ A = As.tt ∧ ms = [] ∧ Post = fun r' B => r' = r ∧ B = As.tt
/-- .. that hands back a new list -/
def PuN (f : List Sv → List PyData → Prop) : List Sv → As G → List Addr → (Sv → As G → Prop) → Prop := fun rs A ms Post => ∃ ds, f rs ds ∧ A = As.tt ∧ ms = [] ∧ Post = fun r' B => (∃ a, r' = .l a ds) ∧ B = As.tt
section
variable {f : List Sv → Sv → Prop} {g : List Sv → List PyData → Prop} {x : Str} {k : Nat} {p pos : Pos} {e : Expr} {es : List Expr} {rs ss : List Sv} {r : Sv} {dvs : List V}
theorem ed_pu (C : Cal X.prog X.w X.K X.mg X.base k x (spS X.K G (Pu f)) []) (hr : Room k X.A) (ha : Ea X G (e :: es) ρ J rs) (hf : f rs r)
    (hg : Gl X x := by rfl) (hdb : (x == ("__debug__" : Str)) = false := by decide) (he : starEach (e :: es) X.env = (false, eval e X.env) :: starEach es X.env := by rfl) (hpl : (backTo pos (starEach es X.env)).any (·.1) = false := by rfl) : Ed X G (.Call (.Name x p) (e :: es) [] pos) ρ J r :=
  ed_callS (ss := []) (A := As.tt) (P0 := fun r' B => r' = r ∧ B = As.tt) C hr ha (fun _ => trivial) (by rw [List.append_nil]; exact ⟨r, hf, rfl, rfl, rfl⟩) (fun _ _ => trivial) (fun _ _ h => h.1) hg hdb he hpl
theorem ed_puD (C : Cal X.prog X.w X.K X.mg X.base k x (spS X.K G (Pu f)) dvs) (hr : Room k X.A) (ha : Ea X G (e :: es) ρ J rs) (hd : ∀ H, SvA X.K H ss dvs) (hf : f (rs ++ ss) r)
    (hg : Gl X x := by rfl) (hdb : (x == ("__debug__" : Str)) = false := by decide) (he : starEach (e :: es) X.env = (false, eval e X.env) :: starEach es X.env := by rfl) (hpl : (backTo pos (starEach es X.env)).any (·.1) = false := by rfl) : Ed X G (.Call (.Name x p) (e :: es) [] pos) ρ J r :=
  ed_callS (ss := ss) (A := As.tt) (P0 := fun r' B => r' = r ∧ B = As.tt) C hr ha hd ⟨r, hf, rfl, rfl, rfl⟩ (fun _ _ => trivial) (fun _ _ h => h.1) hg hdb he hpl
theorem en_pu {ds : List PyData} (C : Cal X.prog X.w X.K X.mg X.base k x (spS X.K G (PuN g)) []) (hr : Room k X.A) (ha : Ea X G (e :: es) ρ J rs) (hf : g rs ds)
    (hg : Gl X x := by rfl) (hdb : (x == ("__debug__" : Str)) = false := by decide) (he : starEach (e :: es) X.env = (false, eval e X.env) :: starEach es X.env := by rfl) (hpl : (backTo pos (starEach es X.env)).any (·.1) = false := by rfl) : En X G (.Call (.Name x p) (e :: es) [] pos) ρ J ds :=
  en_callS (ss := []) (A := As.tt) (P0 := fun r' B => (∃ a, r' = .l a ds) ∧ B = As.tt) C hr ha (fun _ => trivial) (by rw [List.append_nil]; exact ⟨ds, hf, rfl, rfl, rfl⟩) (fun _ _ => trivial) (fun _ _ h => h.1) hg hdb he hpl
end
/-! ### a tuple taken apart -/
section
variable {D : Ends}
theorem f_unp2 (i j : Nat) {x y : Str} {e : Expr} {d1 d2 : PyData} {px py pt pos : Pos} {kt : Nat} (h : Ed X G e ρ J (.d (.tuple [d1, d2]))) (k : Fin X D.nx ((ρ.set i (.d d1)).set j (.d d2)) J) (hN : X.N.Nodup) (hc : X.calm = true := by rfl) (hi : X.N[i]? = some x := by rfl) (hj : X.N[j]? = some y := by rfl)
    (hx : Loc X.env.scope x := by first | exact Or.inl rfl | exact Or.inr rfl) (hy : Loc X.env.scope y := by first | exact Or.inl rfl | exact Or.inr rfl) (fx : X.fn x = true ∨ X.env.scope.names.lookup x = some .local := by first | exact .inl rfl | exact .inr rfl) (fy : X.fn y = true ∨ X.env.scope.names.lookup y = some .local := by first | exact .inl rfl | exact .inr rfl)
    (hs : swapsWithSole [.Tuple [.Name x px, .Name y py] kt pt] e pos.line X.env = pure false := by rfl) (hw : swappedStores [.Tuple [.Name x px, .Name y py] kt pt] e X.env = pure none := by rfl) (h1 : (assignEach [.Tuple [.Name x px, .Name y py] kt pt] X.env).map (·.2) = [assign (.Tuple [.Name x px, .Name y py] kt pt) X.env] := by rfl)
    (h2 : (assignEach [.Name x px, .Name y py] X.env).length = 2 := by rfl) (h3 : List.findIdx? (fun x => x.fst) (assignEach [.Name x px, .Name y py] X.env) = none := by rfl) (h4 : List.map (fun x => x.snd) (assignEach [.Name x px, .Name y py] X.env) = assign (.Name x px) X.env :: List.map (fun x => x.snd) (assignEach [.Name y py] X.env) := by rfl)
    (h5 : List.map (fun x => x.snd) (assignEach [.Name y py] X.env) = assign (.Name y py) X.env :: List.map (fun x => x.snd) (assignEach [] X.env) := by rfl) : Fin X (cS X (.Assign [.Tuple [.Name x px, .Name y py] kt pt] e pos) D) ρ J := fun σ H s t jj => by
  refine ⟨_, ps_asg pe_c (pg_tup hc (pgs_cons (pg_name (i := i) hN hi hx fx) (pgs_cons (pg_name (i := j) hN hj hy fy) pgs_nil h5) h4) h2 h3) hs hw h1, h σ H _ s t jj fun v H1 s1 g1 => ?_⟩
  obtain ⟨_, e1, dd⟩ := s1
  cases e1
  obtain ⟨a, xs, rfl, st, da⟩ := dd.tup_inv
  cases da with
  | cons q1 da =>
    cases da with
    | cons q2 da =>
      cases da
      exact ⟨a, _, rfl, st, rfl, _, _, rfl, _, _, rfl, rfl, k _ H1 (((s.g0 g1 t).set (r := .d d1) i ⟨_, rfl, q1⟩).set (r := .d d2) j ⟨_, rfl, q2⟩) (t.up g1) (J.up g1 t jj)⟩
end
end
end Wb

/-! for i, x in enumerate(t), t a tuple. -/
namespace PySem
open Sem (wp)
set_option maxHeartbeats 1000000 in
theorem meets_enum1 {v : Value} {o : Obj} {H : Heap → Prop} (B : Begins v o H) :
    Meets (Builtin.«enumerate.__new__» ⟨[.type "enumerate", v], []⟩) (fun _ R s => H s.heap ∧
      R (.ok (.ret (.ref (s.heap.push o).objs.size))) { s with heap := (s.heap.push o).push { cls := .type "enumerate", data := .fields #[.none, .bool false, .ref s.heap.objs.size, rawInt 0, .none, .none] } }) :=
  .of_wp fun prog w A R s h => by
    obtain ⟨hp, g, d, tk, os⟩ := s; obtain ⟨h1, h⟩ := h
    have hsub := sub_enumerate
    have q1 : ∀ {A' : Around} {E : Value → Shared → Prop} {Q : Value → Shared → Prop}, Q (.ref hp.objs.size) ⟨hp.push o, g, d, tk, os⟩ → wpAny (model prog w) A' (pyIter v) Q E ⟨hp, g, d, tk, os⟩ :=
      fun q => B.iter prog w _ _ ⟨hp, g, d, tk, os⟩ _ h1 q
    wp_walk using q1
    refine wpAny_stack_any fun st => wpAny_pure ?_
    split
    · rename_i c _ _ _ _ _
      cases (c == Value.type "enumerate")
      · wp_walk using q1
        exact ⟨_, rfl, h⟩
      · wp_walk using q1
        exact ⟨_, rfl, h⟩
    · wp_walk using q1
      exact ⟨_, rfl, h⟩
section
variable {prog : Program} {w : World} {A : Around} {E : Value → Shared → Prop} {s : Shared}
theorem enum_begins1 {v : Value} {o : Obj} {H : Heap → Prop} {Q : Value → Shared → Prop} (B : Begins v o H) (h1 : H s.heap)
    (h : ∀ h', IsEnum h' (s.heap.objs.size + 1) s.heap.objs.size 0 .none → h'.get? s.heap.objs.size = some o → h'.objs.size = s.heap.objs.size + 2 →
      (∀ b o, s.heap.get? b = some o → h'.get? b = some o) → Q (.ref (s.heap.objs.size + 1)) { s with heap := h' }) :
    wpAny (model prog w) A (call (.type "enumerate") [v]) Q E s := by
  refine callType_new F.called_enumerate (by decide) (F.typeCall_enumerate_1 _) (F.newCall_enumerate_1 _) (fun obj => F.args_object_init_2 obj _) F.entry_enumerate_new
    (meets_enum1 B) ⟨h1, ?_⟩
  have hz : (s.heap.push o).objs.size = s.heap.objs.size + 1 := Heap.size_push ..
  show _ ∧ _
  rw [hz]
  have he : IsEnum ((s.heap.push o).push { cls := .type "enumerate", data := .fields #[.none, .bool false, .ref s.heap.objs.size, rawInt 0, .none, .none] }) (s.heap.objs.size + 1) s.heap.objs.size 0 .none := by
    have := Heap.get?_push_size (s.heap.push o) (o := { cls := .type "enumerate", data := .fields #[.none, .bool false, .ref s.heap.objs.size, rawInt 0, .none, .none] }) rfl
    rw [hz] at this; exact this
  refine ⟨⟨_, he, rfl⟩, h _ he (Heap.get?_push_of_some _ (Heap.get?_push_size _ B.free)) (by rw [Heap.size_push, hz]) fun b o x => Heap.get?_push_of_some _ (Heap.get?_push_of_some _ x)⟩
end
end PySem
namespace Wb
open PySem PySem.Spec PyProof.Rows L2
def IteT (K : PySem.W.Frag) (a : Addr) : It :=
  ⟨fun i H => ∃ (xs : List V) (x : V), SqT K H a xs ∧ xs[i]? = some x, fun i H v H' => ∃ T x, v = .ref T ∧ H T = none ∧ H' = upd H T (.tup [.int (i : Nat), x]) ∧ ∀ xs, SqT K H a xs → xs[i]? = some x, fun i H => ∃ xs : List V, SqT K H a xs ∧ xs.length = i⟩
theorem turn_enumT {P : Program} {w : World} {K : PySem.W.Frag} {elts : List Expr} {kk : Nat} {tpos : Pos} (a e it : Addr) :
    Turn P w K (.Tuple elts kk tpos) (IteT K a) [e, it] e (fun i h => (∃ old, IsEnum h e it ((i : Nat) : Int) old) ∧ h.IsTupleIter it a i ∧ e ≠ it ∧ a ≠ it) where
  mem := by simp
  obj := fun i h st b hb => by
    obtain ⟨⟨old, he⟩, ⟨o, ho, hc, hd⟩, _⟩ := st
    have e' : b = e ∨ b = it := by simpa using hb
    rcases e' with z | z
    · rw [z]; exact ⟨_, he, fun v q => nomatch q⟩
    · rw [z]; exact ⟨o, ho, fun v q => by rw [hd] at q; cases q⟩
  keep := fun i h h' st k => let ⟨⟨old, he⟩, hi, hne⟩ := st; ⟨⟨old, k e (by simp) _ he⟩, hi.at fun o q => k it (by simp) o q, hne⟩
  item := by
    intro X hP hw hK hc i pins s σ H E I hf st hg
    subst hP hw hK
    obtain ⟨⟨old, he⟩, hit, hne, hai⟩ := st
    obtain ⟨xs, x, hq, hx⟩ := hg
    obtain ⟨its, rv, p, hz⟩ := I.tuple hq
    obtain ⟨u, hu, ru⟩ := rv.get hx
    have hel : e < s.heap.objs.size := Heap.lt_size he
    have hil : it < s.heap.objs.size := by obtain ⟨_, q, _⟩ := hit; exact Heap.lt_size q
    have hae : a ≠ e := fun z => by
      obtain ⟨o, q, c, n, d⟩ := p
      rw [z, he] at q
      cases q
      cases d
    have D : Draws X.prog X.w X.A.in1 it [it, a] its.toArray.size (fun j v => its.toArray[j]? = some v) (fun j h => h.IsTupleIter it a j ∧ h.IsTuple a its.toArray) := Draws.tuple (show X.A.in1.handled = none from I.ok.hd hc) it a hai its.toArray
    have hi : i < its.toArray.size := by
      obtain ⟨h1, _⟩ := List.getElem?_eq_some_iff.mp hu
      simpa using h1
    refine wpAny_pyNext_enum_itemC (c := (i : Int)) D he ⟨hit, p⟩ hi hne (by simp [hne, Ne.symm hae]) fun u' h' tk hP ho st' hT hsz hk => ?_
    obtain rfl : u' = u := by
      have e1 : its.toArray[i]? = some u := by simpa using hu
      rw [e1] at hP
      exact (Option.some.inj hP).symm
    refine ⟨_, rfl, wpAny_letOwnedTupleGo_enum (s := { s with heap := h', toks := tk + 1 }) ho fun h'' he' sb => ?_⟩
    have hT2 : h''.get? s.heap.objs.size = some { cls := .type "tuple", data := .seq #[.int i tk, u'] } := (sb.2 _ (Nat.ne_of_gt hel)).trans hT
    have new : ObjOk X.prog X.w (upd H s.heap.objs.size (.tup [.int (i : Nat), x])) h'' s.heap.objs.size (.tup [.int (i : Nat), x]) :=
      ⟨by show 2 ≤ sizeLine; decide, [.int i tk, u'], .cons ⟨_, rfl⟩ (.cons ru .nil), ⟨_, hT2, rfl, _, rfl⟩⟩
    have I1 : Inv X pins σ (upd H s.heap.objs.size (.tup [.int (i : Nat), x])) { s with heap := h'', toks := tk + 1 } :=
      I.turnedNew (ch := [e, it]) (fun b ob hb q => (sb.2 b (fun z => hb (by simp [z]))).trans (hk b ob (fun z => hb (by simp [z])) (fun z => hb (by simp [z])) q)) hf (Nat.le_refl _) new
    refine ⟨.ref s.heap.objs.size, _, I1, rfl, ⟨_, x, rfl, I.hok.fresh (Nat.le_refl _), rfl, fun ys hy => by rw [I.tuple_inj hy hq]; exact hx⟩, ⟨⟨u', ?_⟩, st'.1.at fun o q => (sb.2 it (Ne.symm hne)).trans q, hne, hai⟩, fun b hb => ?_⟩
    · have e1 : ((i + 1 : Nat) : Int) = (i : Int) + 1 := by omega
      rw [e1]; exact he'
    · have hb' : b < s.heap.objs.size := by
        have e' : b = e ∨ b = it := by simpa using hb
        rcases e' with z | z
        · rw [z]; exact hel
        · rw [z]; exact hil
      rw [upd_ne (Nat.ne_of_lt hb')]
      exact (hf b hb).1
  done := by
    intro X hP hw hK hc i pins s σ H E I hf st hg
    subst hP hw hK
    obtain ⟨⟨old, he⟩, hit, hne, hai⟩ := st
    obtain ⟨xs, hq, hx⟩ := hg
    obtain ⟨its, rv, p, hz⟩ := I.tuple hq
    obtain ⟨f0, f1, f2, f3, f4, f5⟩ := hf it (by simp)
    have hl := rv.length
    have D : Draws X.prog X.w X.A.in1 it [it, a] its.toArray.size (fun j v => its.toArray[j]? = some v) (fun j h => h.IsTupleIter it a j ∧ h.IsTuple a its.toArray) := Draws.tuple (show X.A.in1.handled = none from I.ok.hd hc) it a hai its.toArray
    have e1 : i = its.toArray.size := by
      have : its.toArray.size = its.length := by simp
      omega
    subst e1
    exact wpAny_pyNext_enum_endD D he ⟨hit, p⟩ fun h' eb => ⟨rfl, I.turned (t' := s.toks) (fun b o hb q => eb b o hb q) f0 f1 f3 f4 f5⟩
  self := fun A i s Q E st h => let ⟨⟨_, he⟩, _⟩ := st; wpAny_pyIter_enum he h
def iEnumT (K : PySem.W.Frag) (ta : TA) : TI := fun σ H R => ta σ H fun vs H1 => ∃ a xs, vs = [.ref a] ∧ SqT K H1 a xs ∧ R (IteT K a) H1
theorem pi_enumT {X : Cx} {e : Expr} {ta : TA} {p pos tpos : Pos} {elts : List Expr} {kk : Nat} (hg : Gl X "enumerate") (hm : X.mg "enumerate" = none) (ha : PA X [e] ta) (hs : starEach [e] X.env = [(false, eval e X.env)] := by rfl) :
    PI X (.Tuple elts kk tpos) (.Call (.Name "enumerate" p) [e] [] pos) (iEnumT X.K ta) := by
  refine ⟨fun pins s σ H R I h => ?_⟩
  refine Call_ (ld_blt I hg hm boot_enumerate (PyProof.Rows.callWith_type1 (thn (ha.run pos pins s σ H _ I h) fun us s1 ⟨vs, H1, I1, r1, q1⟩ => ?_) hs rfl))
  obtain ⟨a, xs, ex, hq, q⟩ := q1
  subst ex
  cases r1 with
  | cons r rr =>
    cases rr
    cases r
    obtain ⟨its, rv, p', hz⟩ := I1.tuple hq
    have ha : a < s1.heap.objs.size := by
      obtain ⟨o, q, _⟩ := p'
      exact Heap.lt_size q
    refine enum_begins1 (begins_tuple a its.toArray) p' fun h' he hit hsz hk => wpAny_pyIter_enum he ?_
    have I2 : Inv X pins σ H1 { s1 with heap := h' } := I1.kept (t' := s1.toks) hk
    refine ⟨s1.heap.objs.size + 1, [s1.heap.objs.size + 1, s1.heap.objs.size], _, _, H1, rfl, I2, turn_enumT a (s1.heap.objs.size + 1) s1.heap.objs.size, ⟨⟨.none, he⟩, ⟨_, hit, rfl, rfl⟩, Nat.succ_ne_self _, Nat.ne_of_lt ha⟩, fun b hb => ?_, q⟩
    have e' : b = s1.heap.objs.size + 1 ∨ b = s1.heap.objs.size := by simpa using hb
    have hle : s1.heap.objs.size ≤ b := by
      rcases e' with z | z
      · rw [z]; exact Nat.le_add_right _ _
      · rw [z]; exact Nat.le_refl _
    exact I1.fpOk hle (I1.hok.fresh hle)
section
variable {X : Cx} {G : Addr → Prop} {ρ : List Sv} {J : As G}
def enumD : Nat → List PyData → List PyData
  | _, [] => []
  | i, d :: ds => .tuple [.int (i : Nat), d] :: enumD (i + 1) ds
theorem enumD_len : ∀ (ds : List PyData) (i : Nat), (enumD i ds).length = ds.length
  | [], _ => rfl
  | _ :: ds, i => congrArg Nat.succ (enumD_len ds (i + 1))
theorem enumD_at : ∀ (ds : List PyData) (i n : Nat) (d : PyData), ds[n]? = some d → (enumD i ds)[n]? = some (.tuple [.int ((i + n : Nat) : Int), d])
  | [], _, _, _, h => by simp at h
  | e :: ds, i, 0, d, h => by simp at h; subst h; rfl
  | e :: ds, i, n + 1, d, h => by
    have := enumD_at ds (i + 1) n d (by simpa using h)
    simp only [enumD, List.getElem?_cons_succ, this]
    congr 4
    omega
theorem ep_enum {ms : List Addr} {e : Expr} {ds : List PyData} {elts : List Expr} {kk : Nat} {p pos tpos : Pos} (hm : X.mg "enumerate" = none) (h : Ed X G e ρ J (.d (.tuple ds))) (hg : Gl X "enumerate" := by rfl) (hs : starEach [e] X.env = [(false, eval e X.env)] := by rfl) :
    Ep X G ms (.Tuple elts kk tpos) (.Call (.Name "enumerate" p) [e] [] pos) ρ J (enumD 0 ds) := fun σ H R s t j q => by
  refine ⟨_, pi_enumT hg hm pa_c hs, ea_cons h ea_nil (by rw [hs] <;> rfl) σ H _ s t j fun vs H1 s1 g1 => ?_⟩
  match vs, s1 with
  | [v], s1 =>
    obtain ⟨_, e1, d1⟩ := s1.1
    cases e1
    obtain ⟨a, xs, rfl, st, da⟩ := d1.tup_inv
    have l := da.len
    refine ⟨a, xs, rfl, st, q _ H1 (fun H' g t => ⟨⟨xs, g.tk.sq st, by rw [enumD_len]; exact l⟩, fun i hi => ?_⟩) g1⟩
    rw [enumD_len] at hi
    have hx : xs[i]? = some (xs[i]'(by omega)) := List.getElem?_eq_getElem _
    refine ⟨⟨xs, _, g.tk.sq st, hx⟩, fun x H'' hy => ?_⟩
    obtain ⟨T, y, rfl, hT, rfl, hy⟩ := hy
    have hy' := hy xs (g.tk.sq st)
    obtain ⟨d, h3, h4⟩ := da.getV hy'
    have gn : Gr G [] H' (upd H' T (.tup [.int (i : Nat), y])) := Gr.new hT
    refine ⟨gn, .tuple [.int ((0 + i : Nat) : Int), d], enumD_at ds 0 i d h3, ?_⟩
    rw [Nat.zero_add]
    exact .tup (SqT.of upd_same) (.cons (.int _) (.cons (Dt.up gn (Dt.tk g.tk _ _ h4)) .nil))
end
end Wb

/-! The logic's ninth part: loops and lists within assertions of the form Jl. -/
namespace Wb
open PySem PySem.Spec PyProof.Rows L2
section
variable {X : Cx} {G : Addr → Prop} {ρ : List Sv} {D : Ends} {L : List (List Addr × Hp)} {A : As G}
abbrev Nxt (X : Cx) (ms : List Addr) (H1 : Hp) (L : List (List Addr × Hp)) (I : List Sv → As G → Prop) : L2.St → Hp → Prop := AnyF X ms H1 (fun ρ J => ∃ A, J = Jl L A ∧ I ρ A)
theorem f_forP (i : Nat) {x : Str} {it : Expr} {body : List Stmt} {ds : List PyData} {px pos : Pos} (ms : List Addr) (hit : Ep X G ms (.Name x px) it ρ (Jl L A) ds) (I : Nat → List Sv → As G → Prop) (i0 : I 0 ρ A)
    (hs : ∀ H1 n d ρ A', ds[n]? = some d → I n ρ A' → Fin X (cSs X body { D with nx := Nxt X ms H1 L (I (n + 1)), ct := Nxt X ms H1 L (I (n + 1)), bk := D.nx }) (ρ.set i (.d d)) (Jl ((ms, H1) :: L) A'))
    (hd : ∀ ρ A', I ds.length ρ A' → Fin X D.nx ρ (Jl L A'))
    (hN : X.N.Nodup) (hp : PassesOwn (model X.prog X.w) X.A X.env X.xe := by exact PassesOwn.never) (hc : X.calm = true := by rfl) (hi : X.N[i]? = some x := by rfl) (hx : Loc X.env.scope x := by first | exact Or.inl rfl | exact Or.inr rfl)
    (hf : X.fn x = true ∨ X.env.scope.names.lookup x = some .local := by first | exact .inl rfl | exact .inr rfl) (hsi : ∀ x, foldedSetIterable it X.env x = pure x := by intro _; rfl) :
    Fin X (cS X (.For (.Name x px) it body [] pos) D) ρ (Jl L A) :=
  f_for i ms (ei_p hit) (fun ds' J1 σ H1 hJ _ _ j1 => by
    obtain ⟨rfl, rfl⟩ := hJ
    exact ⟨L, I, ⟨A, i0, j1⟩, fun n d ρ A' hd hI => hs H1 n d ρ A' hd hI, fun ρ A' hI => hd ρ A' hI⟩) hp hN hc hi hx hf hsi
/-- for i, x in enumerate(t) -/
theorem f_forE (i j : Nat) {x y : Str} {e : Expr} {body : List Stmt} {ds : List PyData} {px py p pt pp pos : Pos} {kt : Nat} (ms : List Addr) (he : Ed X G e ρ (Jl L A) (.d (.tuple ds))) (hm : X.mg "enumerate" = none) (I : Nat → List Sv → As G → Prop) (i0 : I 0 ρ A)
    (hs : ∀ H1 n d ρ A', ds[n]? = some d → I n ρ A' → Fin X (cSs X body { D with nx := Nxt X ms H1 L (I (n + 1)), ct := Nxt X ms H1 L (I (n + 1)), bk := D.nx }) ((ρ.set i (.d (.int (n : Nat)))).set j (.d d)) (Jl ((ms, H1) :: L) A'))
    (hd : ∀ ρ A', I ds.length ρ A' → Fin X D.nx ρ (Jl L A'))
    (hN : X.N.Nodup) (hp : PassesOwn (model X.prog X.w) X.A X.env X.xe := by exact PassesOwn.never) (hc : X.calm = true := by rfl) (hi : X.N[i]? = some x := by rfl) (hj : X.N[j]? = some y := by rfl)
    (hx : Loc X.env.scope x := by first | exact Or.inl rfl | exact Or.inr rfl) (hy : Loc X.env.scope y := by first | exact Or.inl rfl | exact Or.inr rfl) (fx : X.fn x = true ∨ X.env.scope.names.lookup x = some .local := by first | exact .inl rfl | exact .inr rfl) (fy : X.fn y = true ∨ X.env.scope.names.lookup y = some .local := by first | exact .inl rfl | exact .inr rfl)
    (hg : Gl X "enumerate" := by rfl) (hst : starEach [e] X.env = [(false, eval e X.env)] := by rfl)
    (h2 : (assignEach [.Name x px, .Name y py] X.env).length = 2 := by rfl) (h3 : List.findIdx? (fun x => x.fst) (assignEach [.Name x px, .Name y py] X.env) = none := by rfl) (h4 : List.map (fun x => x.snd) (assignEach [.Name x px, .Name y py] X.env) = assign (.Name x px) X.env :: List.map (fun x => x.snd) (assignEach [.Name y py] X.env) := by rfl)
    (h5 : List.map (fun x => x.snd) (assignEach [.Name y py] X.env) = assign (.Name y py) X.env :: List.map (fun x => x.snd) (assignEach [] X.env) := by rfl)
    (hsi : ∀ x, foldedSetIterable (.Call (.Name "enumerate" pp) [e] [] p) X.env x = pure x := by intro _; rfl) :
    Fin X (cS X (.For (.Tuple [.Name x px, .Name y py] kt pt) (.Call (.Name "enumerate" pp) [e] [] p) body [] pos) D) ρ (Jl L A) :=
  f_fall ms (St := fun d ρ ρ' => ∃ (n : Nat) (d' : PyData), d = .tuple [.int (n : Nat), d'] ∧ ρ' = (ρ.set i (.d (.int (n : Nat)))).set j (.d d')) (gt := gTup X.K 2 (gCons (gName i) (gCons (gName j) gNil))) (Pi := Just (enumD 0 ds) (Jl L A)) (fun d => ∃ (n : Nat) (d' : PyData), d = .tuple [.int (n : Nat), d']) (ei_p (ep_enum hm he hg hst)) (pg_tup hc (pgs_cons (pg_name (i := i) hN hi hx fx) (pgs_cons (pg_name (i := j) hN hj hy fy) pgs_nil h5) h4) h2 h3)
    (fun d ρ σ v H Q hd s dv q => by
      obtain ⟨n, d', rfl⟩ := hd
      obtain ⟨a, xs, rfl, st, da⟩ := dv.tup_inv
      cases da with
      | cons q1 da =>
        cases da with
        | cons q2 da =>
          cases da
          exact ⟨a, _, rfl, st, rfl, _, _, rfl, _, _, rfl, rfl, q _ _ ⟨n, d', rfl, rfl⟩ ((s.set (r := .d (.int (n : Nat))) i ⟨_, rfl, q1⟩).set (r := .d d') j ⟨_, rfl, q2⟩)⟩)
    (fun ds' J1 σ H1 hJ s1 t1 j1 => by
      obtain ⟨rfl, rfl⟩ := hJ
      have key : ∀ (n : Nat) (d : PyData), (enumD 0 ds)[n]? = some d → ∃ d' : PyData, ds[n]? = some d' ∧ d = PyData.tuple [PyData.int (n : Nat), d'] := fun n d h => by
        have hn : n < ds.length := by
          have := (List.getElem?_eq_some_iff.mp h).1
          rwa [enumD_len] at this
        have h2 := enumD_at ds 0 n ds[n] (List.getElem?_eq_getElem hn)
        rw [h, Nat.zero_add] at h2
        exact ⟨ds[n], List.getElem?_eq_getElem hn, Option.some.inj h2⟩
      refine ⟨fun d hd => ?_, fun n ρ J => ∃ A, J = Jl L A ∧ I n ρ A, ⟨_, ⟨A, rfl, i0⟩, j1⟩, fun n d ρ ρ' J hd' hI hSt σ H s t j g => ?_, fun ρ J σ H hI s t j g => ?_⟩
      · obtain ⟨n, hn⟩ := List.mem_iff_getElem?.mp hd
        obtain ⟨d', _, e⟩ := key n d hn
        exact ⟨n, d', e⟩
      · obtain ⟨A', rfl, hI⟩ := hI
        obtain ⟨d2, h2, e2⟩ := key n d hd'
        obtain ⟨n', d', e3, e4⟩ := hSt
        rw [e2] at e3
        injection e3 with e3
        injection e3 with e5 e6
        injection e5 with e5
        injection e6 with e6
        have e7 : n' = n := by omega
        subst e7 e6
        rw [e4] at s
        exact hs H1 n' d2 ρ A' h2 hI σ H s t (Jl.push j g)
      · obtain ⟨A', rfl, hI⟩ := hI
        rw [enumD_len] at hI
        exact hd ρ A' hI σ H s t j) hp hc hsi
/-- x = [..]: a new list in the slot i -/
theorem f_newL (i : Nat) {e : Expr} {ds : List PyData} {x : Str} {pos pos' : Pos} (h : En X G e ρ (Jl L A) ds) (k : ∀ a, Mu L [a] → OffL [a] ρ → (∀ b, (∀ H, A.P H → ∃ o, H b = some o) → b ≠ a) → Fin X D.nx (ρ.set i (.l a ds)) (Jl L A)) (hN : X.N.Nodup) (hi : X.N[i]? = some x := by rfl) (hx : Loc X.env.scope x := by first | exact Or.inl rfl | exact Or.inr rfl)
    (hs : swapsWith e (some (.Name x pos')) pos.line X.env = pure false := by rfl) (hf : X.fn x = true ∨ X.env.scope.names.lookup x = some .local := by first | exact .inl rfl | exact .inr rfl) : Fin X (cS X (.Assign [.Name x pos'] e pos) D) ρ (Jl L A) :=
  f_setN i (fun a => Mu L [a] ∧ OffL [a] ρ ∧ ∀ b, (∀ H, A.P H → ∃ o, H b = some o) → b ≠ a) h (fun σ H a s j n => ⟨Jl.fresh j n, OffL.newS n s, fun b hb z => by
    obtain ⟨o, e⟩ := hb H j.2
    rw [z, n] at e
    cases e⟩) (fun a hF => k a hF.1 hF.2.1 hF.2.2) hN hi hx hs hf
/-- xs.append(e), xs in the slot i -/
theorem f_appJ (i : Nat) {x : Str} {e : Expr} {a : Addr} {ds : List PyData} {d : PyData} {p1 apos cpos pos : Pos} (he : Ed X G e ρ (Jl L A) (.d d)) (hl : ds.length ≤ 1000000) (hm : Mu L [a]) (hρ : OffL [a] (ρ.set i .u)) (hA : ∀ H xs ys, A.P H → H a = some (.lst xs) → A.P (upd H a (.lst ys))) (k : Fin X D.nx (ρ.set i (.l a (ds ++ [d]))) (Jl L A))
    (hr : ρ[i]? = some (.l a ds) := by rfl) (hN : X.N[i]? = some x := by rfl) (hv : Vis X.env.scope x := by first | exact Or.inl rfl | exact Or.inr (Or.inl rfl) | exact Or.inr (Or.inr rfl)) (hd : (x == ("__debug__" : Str)) = false := by decide) (hcd : (x == ("__classdict__" : Str)) = false := by decide)
    (hs : swapsWith (.Call (.Attribute (.Name x p1) "append" apos) [e] [] cpos) none pos.line X.env = pure false := by rfl)
    (hbase : attributeBase (.Name x p1) "append" X.env (eval (.Name x p1) X.env) = eval (.Name x p1) X.env := by rfl)
    (hfew : ((backTo cpos (starEach (e :: []) X.env)).all (fun x => !x.1) && (backToKw cpos (keywordEach [] X.env)).all (fun x => x.1.isSome)
      && decide ((e :: []).length + ([] : List Keyword).length + (if ([] : List Keyword).isEmpty then 0 else 1) < 30)) = true := by rfl)
    (hline : (apos.endLine == cpos.line) = true := by rfl) (hst : starEach (e :: []) X.env = (false, eval e X.env) :: starEach [] X.env := by rfl) (hplain : (backTo cpos (starEach [] X.env)).any (·.1) = false := by rfl) :
    Fin X (cS X (.Expr (.Call (.Attribute (.Name x p1) "append" apos) [e] [] cpos) pos) D) ρ (Jl L A) :=
  f_app i he hl (fun H xs ys j e => Jl.step j (Gr.put (ms := [a]) e trivial (by simp)) hm (hA H xs ys j.2 e)) hρ.all k hr hN hv hd hcd hs hbase hfew hline hst hplain
/-- a, b = e1, e2: e2 makes a new list -/
theorem f_parJ (i j : Nat) {x y : Str} {a b : Expr} {px py pt : Pos} {kt k2 pt2} {pos : Pos} {r : Sv} {ds : List PyData} (ha : Ed X G a ρ (Jl L A) r) (hb : En X G b ρ (Jl L A) ds) (k : ∀ a, Mu L [a] → OffL [a] ρ → (∀ b, (∀ H, A.P H → ∃ o, H b = some o) → b ≠ a) → Fin X D.nx ((ρ.set i r).set j (.l a ds)) (Jl L A)) (hN : X.N.Nodup) (hij : i ≠ j := by decide) (hc : X.calm = true := by rfl) (hi : X.N[i]? = some x := by rfl) (hj : X.N[j]? = some y := by rfl)
    (hx : X.env.scope.names.lookup x = some .local := by rfl) (hy : X.env.scope.names.lookup y = some .local := by rfl)
    (hw : swappedStores [.Tuple [.Name x px, .Name y py] kt pt] (.Tuple [a, b] k2 pt2) X.env = pure (some [x, y]) := by rfl) (h0 : starEach [a, b] X.env = (false, eval a X.env) :: starEach [b] X.env := by rfl) (h1 : starEach [b] X.env = (false, eval b X.env) :: starEach [] X.env := by rfl)
    (hs : swapsWithSole [.Tuple [.Name x px, .Name y py] kt pt] (.Tuple [a, b] k2 pt2) pos.line X.env = pure false := by rfl) : Fin X (cS X (.Assign [.Tuple [.Name x px, .Name y py] kt pt] (.Tuple [a, b] k2 pt2) pos) D) ρ (Jl L A) :=
  f_parN i j (fun a => Mu L [a] ∧ OffL [a] ρ ∧ ∀ b, (∀ H, A.P H → ∃ o, H b = some o) → b ≠ a) ha hb (fun σ H a s j n => ⟨Jl.fresh j n, OffL.newS n s, fun b hb z => by
    obtain ⟨o, e⟩ := hb H j.2
    rw [z, n] at e
    cases e⟩) (fun a hF => k a hF.1 hF.2.1 hF.2.2) hN hij hc hi hj hx hy hw h0 h1 hs
end
end Wb

/-! The mirror's functions and their laws. -/
namespace Wb
open PySem PySem.Spec PyProof.Rows L2

def optAt (m : Mach) (s o : Nat) : Nat × Word := (((m[s]?).getD [])[o]?).getD (0, none)
def nxt (m : Mach) (s o : Nat) : Nat := (optAt m s o).1
def behind (m : Mach) (l : Life) : Nat := l.foldl (nxt m) 0
def rowAt (t : Tabl) (s o : Nat) : List Nat := (((t[s]?).getD [])[o]?).getD []
def many (m : Mach) (s : Nat) : Nat := ((m[s]?).getD []).length
def wordOf (m : Mach) (l : Life) : Word := match l.getLast? with
  | none => none
  | some o => (optAt m (behind m l.dropLast) o).2
def rowOf (m : Mach) (t : Tabl) (l : Life) : List Nat := match l.getLast? with
  | none => []
  | some o => rowAt t (behind m l.dropLast) o
def WordOk : Word → Prop
  | none => True
  | some x => x ∈ (["a", "b", "yes", "no", "ab"] : List Str)
structure House (m : Mach) (k : Nat) (t : Tabl) : Prop where
  m1 : 1 ≤ m.length
  m2 : m.length ≤ 3
  st : ∀ s ∈ m, s.length ≤ 3 ∧ ∀ o ∈ s, o.1 < m.length ∧ WordOk o.2
  k1 : 1 ≤ k
  k2 : k ≤ 4
  tl : t.length = m.length
  rl : ∀ (i : Nat) (s : List (Nat × Word)) (rs : List (List Nat)), m[i]? = some s → t[i]? = some rs → rs.length = s.length
  ro : ∀ rs ∈ t, ∀ r ∈ rs, 1 ≤ r.length ∧ r.length ≤ 8 ∧ ∀ x ∈ r, x < k
/-- a life along the machine -/
def LvF (m : Mach) : Nat → Life → Prop
  | _, [] => True
  | s, o :: l => o < many m s ∧ LvF m (nxt m s o) l
def Lv (m : Mach) (l : Life) : Prop := LvF m 0 l
theorem LvF.app {m : Mach} : ∀ {l r : Life} {s : Nat}, LvF m s (l ++ r) ↔ LvF m s l ∧ LvF m (l.foldl (nxt m) s) r
  | [], r, s => by simp [LvF]
  | o :: l, r, s => by simp only [List.cons_append, LvF, List.foldl_cons, LvF.app (l := l), and_assoc]
theorem lv_snoc {m : Mach} {l : Life} {o : Nat} : Lv m (l ++ [o]) ↔ Lv m l ∧ o < many m (behind m l) := by
  unfold Lv behind
  rw [LvF.app]
  simp [LvF]
theorem lv_nil {m : Mach} : Lv m [] := trivial
theorem behind_snoc {m : Mach} {l : Life} {o : Nat} : behind m (l ++ [o]) = nxt m (behind m l) o := by simp [behind]
theorem take_snoc {α : Type} {l : List α} {i : Nat} {o : α} (h : l[i]? = some o) : l.take (i + 1) = l.take i ++ [o] := by
  obtain ⟨h1, h2⟩ := List.getElem?_eq_some_iff.mp h
  rw [List.take_succ_eq_append_getElem h1, h2]
theorem lv_take {m : Mach} {l : Life} (h : Lv m l) (i : Nat) : Lv m (l.take i) := by
  have e : l.take i ++ l.drop i = l := List.take_append_drop i l
  unfold Lv at h ⊢
  rw [← e, LvF.app] at h
  exact h.1
theorem lv_at {m : Mach} {l : Life} {i o : Nat} (h : Lv m l) (e : l[i]? = some o) : o < many m (behind m (l.take i)) := by
  have h2 := lv_take h (i + 1)
  rw [take_snoc e] at h2
  exact (lv_snoc.mp h2).2
theorem snoc_of {α : Type} {l : List α} (h : l ≠ []) : ∃ r o, l = r ++ [o] := ⟨l.dropLast, l.getLast h, (List.dropLast_concat_getLast h).symm⟩
theorem opt_of {m : Mach} {s o : Nat} (h : o < many m s) : ∃ st op, m[s]? = some st ∧ st[o]? = some op ∧ optAt m s o = op := by
  unfold many at h
  cases e : m[s]? with
  | none => rw [e] at h; simp at h
  | some st =>
    rw [e] at h
    have h' : o < st.length := h
    refine ⟨st, st[o], rfl, List.getElem?_eq_getElem h', ?_⟩
    simp [optAt, e, List.getElem?_eq_getElem h']
theorem many_of {m : Mach} {s : Nat} {st : List (Nat × Word)} (h : m[s]? = some st) : many m s = st.length := by simp [many, h]
section
variable {m : Mach} {k : Nat} {t : Tabl}
theorem House.lt (hs : House m k t) {l : Life} (h : Lv m l) : behind m l < m.length := by
  by_cases e : l = []
  · subst e; exact hs.m1
  · obtain ⟨r, o, rfl⟩ := snoc_of e
    rw [behind_snoc]
    obtain ⟨st, op, h1, h2, h3⟩ := opt_of (lv_snoc.mp h).2
    unfold nxt
    rw [h3]
    exact ((hs.st st (List.mem_of_getElem? h1)).2 op (List.mem_of_getElem? h2)).1
theorem House.row (hs : House m k t) {s o : Nat} (h : o < many m s) : ∃ rs r, t[s]? = some rs ∧ rs[o]? = some r ∧ rowAt t s o = r ∧ 1 ≤ r.length ∧ r.length ≤ 8 := by
  obtain ⟨st, op, h1, h2, _⟩ := opt_of h
  obtain ⟨a1, _⟩ := List.getElem?_eq_some_iff.mp h1
  obtain ⟨a2, _⟩ := List.getElem?_eq_some_iff.mp h2
  have e1 : t[s]? = some (t[s]'(by rw [hs.tl]; exact a1)) := List.getElem?_eq_getElem _
  have e3 := hs.rl s st _ h1 e1
  have e2 : (t[s]'(by rw [hs.tl]; exact a1))[o]? = some ((t[s]'(by rw [hs.tl]; exact a1))[o]'(by omega)) := List.getElem?_eq_getElem _
  have e4 := hs.ro _ (List.mem_of_getElem? e1) _ (List.mem_of_getElem? e2)
  exact ⟨_, _, e1, e2, by simp [rowAt, e1, e2], e4.1, e4.2.1⟩
theorem House.rowl (hs : House m k t) {l : Life} (h : Lv m l) : (rowOf m t l).length ≤ 8 := by
  by_cases e : l = []
  · subst e; simp [rowOf]
  · obtain ⟨r, o, rfl⟩ := snoc_of e
    obtain ⟨rs, r', h1, h2, h3, h4, h5⟩ := hs.row (lv_snoc.mp h).2
    simp [rowOf, h3, h5]
theorem House.few (hs : House m k t) (s : Nat) : many m s ≤ 3 := by
  unfold many
  cases e : m[s]? with
  | none => simp
  | some st => exact (hs.st st (List.mem_of_getElem? e)).1
theorem wordOf_snoc {l : Life} {o : Nat} : wordOf m (l ++ [o]) = (optAt m (behind m l) o).2 := by simp [wordOf]
theorem rowOf_snoc {l : Life} {o : Nat} : rowOf m t (l ++ [o]) = rowAt t (behind m l) o := by simp [rowOf]
theorem House.word (hs : House m k t) {l : Life} (h : Lv m l) : WordOk (wordOf m l) := by
  by_cases e : l = []
  · subst e; trivial
  · obtain ⟨r, o, rfl⟩ := snoc_of e
    obtain ⟨st, op, h1, h2, h3⟩ := opt_of (lv_snoc.mp h).2
    rw [wordOf_snoc, h3]
    exact ((hs.st st (List.mem_of_getElem? h1)).2 op (List.mem_of_getElem? h2)).2
end
/-! ### what a life tells -/
def tstep (m : Mach) (t : Tabl) (z : Nat × Nat × List (Nat × Str)) (o : Nat) : Nat × Nat × List (Nat × Str) :=
  (nxt m z.1 o, z.2.1 + (rowAt t z.1 o).length, z.2.2 ++ match (optAt m z.1 o).2 with
    | none => []
    | some x => [(z.2.1 + (rowAt t z.1 o).length, x)])
def tfold (m : Mach) (t : Tabl) (l : Life) : Nat × Nat × List (Nat × Str) := l.foldl (tstep m t) (0, 0, [])
def told (m : Mach) (t : Tabl) (l : Life) : List (Nat × Str) := (tfold m t l).2.2
theorem tfold_snoc {m : Mach} {t : Tabl} {l : Life} {o : Nat} : tfold m t (l ++ [o]) = tstep m t (tfold m t l) o := by simp [tfold]
theorem tfold_st {m : Mach} {t : Tabl} (l : Life) : (tfold m t l).1 = behind m l := by
  have key : ∀ (l : Life) (z : Nat × Nat × List (Nat × Str)), (l.foldl (tstep m t) z).1 = l.foldl (nxt m) z.1 := by
    intro l
    induction l with
    | nil => intro z; rfl
    | cons o l ih => intro z; rw [List.foldl_cons, List.foldl_cons, ih] <;> rfl
  exact key l _
theorem told_len {m : Mach} {t : Tabl} (l : Life) : (told m t l).length ≤ l.length := by
  have key : ∀ (l : Life) (z : Nat × Nat × List (Nat × Str)), (l.foldl (tstep m t) z).2.2.length ≤ z.2.2.length + l.length := by
    intro l
    induction l with
    | nil => intro z; simp
    | cons o l ih =>
      intro z
      rw [List.foldl_cons]
      refine Nat.le_trans (ih _) ?_
      have : (tstep m t z o).2.2.length ≤ z.2.2.length + 1 := by
        unfold tstep
        simp only [List.length_append]
        cases (optAt m z.1 o).2 <;> simp
      simp only [List.length_cons]
      omega
  simpa [told, tfold] using key l (0, 0, [])
def alongB (a b : List (Nat × Str)) : Bool := decide (b.take a.length = a) || decide (a.take b.length = b)
theorem along_law (a b : List (Nat × Str)) : decide (a.take (min a.length b.length) = b.take (min a.length b.length)) = alongB b a := by
  unfold alongB
  rcases Nat.le_total a.length b.length with h | h
  · rw [Nat.min_eq_left h, List.take_length]
    by_cases e : b.take a.length = a
    · have e1 : a = b.take a.length := e.symm
      rw [decide_eq_true e1, decide_eq_true e, Bool.or_true]
    · rw [decide_eq_false (fun z => e z.symm), decide_eq_false e, Bool.or_false]
      refine (decide_eq_false fun z => e ?_).symm
      have l := congrArg List.length z
      rw [List.length_take, Nat.min_eq_right h] at l
      have : a = b := by rw [← z, List.take_of_length_le (by omega)]
      rw [this, List.take_length]
  · rw [Nat.min_eq_right h, List.take_length]
    by_cases e : a.take b.length = b
    · rw [decide_eq_true e, Bool.true_or]
    · rw [decide_eq_false e, Bool.false_or]
      refine (decide_eq_false fun z => e ?_).symm
      have l := congrArg List.length z
      rw [List.length_take, Nat.min_eq_right h] at l
      have : b = a := by rw [← z, List.take_of_length_le (by omega)]
      rw [this, List.take_length]
/-- the first two lives that part -/
def twoI (m : Mach) (t : Tabl) (ls : List Life) (i j : Nat) : Option (Life × Life) := if alongB (told m t ((ls[j]?).getD [])) (told m t ((ls[i]?).getD [])) = true then none else some ((ls[j]?).getD [], (ls[i]?).getD [])
def twoO (m : Mach) (t : Tabl) (ls : List Life) (i : Nat) : Option (Life × Life) := (List.range i).findSome? (twoI m t ls i)
def two (m : Mach) (t : Tabl) (ls : List Life) : Option (Life × Life) := (List.range ls.length).findSome? (twoO m t ls)
theorem find_none {α : Type} {f : Nat → Option α} {n : Nat} (h : ∀ i, i < n → f i = none) : (List.range n).findSome? f = none := by
  rw [List.findSome?_eq_none_iff]
  intro i hi
  exact h i (List.mem_range.mp hi)
theorem find_first {α : Type} {f : Nat → Option α} {n k : Nat} {x : α} (h : ∀ i, i < k → f i = none) (hk : k < n) (e : f k = some x) : (List.range n).findSome? f = some x := by
  induction n with
  | zero => omega
  | succ n ih =>
    rw [List.range_succ, List.findSome?_append]
    by_cases q : k < n
    · rw [ih q] <;> rfl
    · have : k = n := by omega
      subst this
      rw [find_none h]
      simp [e]
/-! ### the world of marks -/
def fits (mn : Man) (w : Wd) (n : Note) : Bool := match mn with
  | .opn => true
  | .counted => decide (n.num = w.wheel.1)
  | _ => decide ((n.num, n.mark) = w.wheel)
def say (m : Mach) (l : Life) (n : Nat) (w : Wd) : Wd := match wordOf m l with
  | none => w
  | some x => { w with heard := w.heard ++ [(n, x)], spoken := if l ∈ w.spoken then w.spoken else w.spoken ++ [l] }
def sealN (n : Note) (w : Wd) : Wd := { w with shelf := if n ∈ w.shelf then w.shelf else w.shelf ++ [n] }
def come (mn : Man) (m : Mach) (t : Tabl) (l : Life) (d : Nat) (w : Wd) : Wd :=
  if d = (rowOf m t l).length then { (if mn = .early then w else say m l w.wheel.1 w) with stand := .choice l }
  else if mn = .late then { w with stand := .ready l d }
  else { (if mn = .early ∧ d + 1 = (rowOf m t l).length then say m l (w.wheel.1 + 1) (sealN ⟨w.wheel.1 + 1, (rowOf m t l)[d]?, l, d + 1⟩ w) else sealN ⟨w.wheel.1 + 1, (rowOf m t l)[d]?, l, d + 1⟩ w) with stand := .sealed ⟨w.wheel.1 + 1, (rowOf m t l)[d]?, l, d + 1⟩ }
def isOff : Stand → Bool
  | .off => true
  | _ => false
/-- what the bench takes -/
def doable (m : Mach) (w : Wd) : Stp → Bool
  | .boot n => isOff w.stand && decide (n ∈ w.shelf)
  | .ask o => match w.stand with
    | .choice l => decide (o < many m (behind m l))
    | _ => false
  | .turn => match w.stand with
    | .sealed _ => true
    | .ready _ _ => true
    | _ => false
  | .cut => !isOff w.stand
  | .sel => match w.stand with
    | .bare _ _ => true
    | _ => false
def stp (mn : Man) (m : Mach) (t : Tabl) (s : Stp) (w : Wd) : Wd := match s with
  | .boot n => if fits mn w n = true then come mn m t n.life n.done w else { w with stand := .mute }
  | .ask o => match w.stand with
    | .choice l => come mn m t (l ++ [o]) 0 w
    | _ => w
  | .turn => match w.stand with
    | .sealed n => come mn m t n.life n.done { w with wheel := (w.wheel.1 + 1, n.mark) }
    | .ready l d => { w with wheel := (w.wheel.1 + 1, (rowOf m t l)[d]?), stand := .bare l (d + 1) }
    | _ => w
  | .cut => { w with stand := .off }
  | .sel => match w.stand with
    | .bare l d => come mn m t l d (sealN ⟨w.wheel.1, w.wheel.2, l, d⟩ w)
    | _ => w
/-- the steps that the law finds open -/
def can (m : Mach) (w : Wd) : List Stp := if isOff w.stand = true then w.shelf.map .boot else
  [.cut] ++ (match w.stand with
    | .choice l => (List.range (many m (behind m l))).map .ask
    | _ => []) ++ (match w.stand with
    | .sealed _ => [.turn]
    | .ready _ _ => [.turn]
    | _ => []) ++ (match w.stand with
    | .bare _ _ => [.sel]
    | _ => [])
theorem can_iff {m : Mach} {w : Wd} {s : Stp} : s ∈ can m w ↔ doable m w s = true := by
  unfold can
  cases hw : w.stand <;> cases s <;> simp [isOff, doable, hw]
def w0 : Wd := ⟨(0, none), [⟨0, none, [], 0⟩], .off, [], []⟩
def dead (mn : Man) (w : Wd) : Bool := !w.shelf.any (fits mn w)
def harm (mn : Man) (m : Mach) (t : Tabl) (w : Wd) : Option Str := if (two m t w.spoken).isSome = true then some "two lives" else if dead mn w = true then some "dead" else none
/-! ### what holds of it after n steps -/
def NoteOk (m : Mach) (t : Tabl) (n : Nat) (x : Note) : Prop := Lv m x.life ∧ x.done ≤ (rowOf m t x.life).length ∧ x.life.length ≤ n
def StandOk (m : Mach) (t : Tabl) (n : Nat) : Stand → Prop
  | .off => True
  | .mute => True
  | .choice l => Lv m l ∧ l.length ≤ n
  | .sealed x => NoteOk m t n x
  | .ready l d => Lv m l ∧ l.length ≤ n ∧ d < (rowOf m t l).length
  | .bare l d => Lv m l ∧ l.length ≤ n ∧ d ≤ (rowOf m t l).length
structure Ok (m : Mach) (t : Tabl) (n : Nat) (w : Wd) : Prop where
  sh : ∀ x ∈ w.shelf, NoteOk m t n x
  shl : w.shelf.length ≤ n * 2 + 1
  st : StandOk m t n w.stand
  he : w.heard.length ≤ n
  hs : ∀ x ∈ w.heard, WordOk (some x.2)
  sp : ∀ l ∈ w.spoken, Lv m l ∧ l.length ≤ n
  spl : w.spoken.length ≤ n
theorem NoteOk.mono {m : Mach} {t : Tabl} {n k : Nat} {x : Note} (h : NoteOk m t n x) (hk : n ≤ k) : NoteOk m t k x := ⟨h.1, h.2.1, Nat.le_trans h.2.2 hk⟩
theorem StandOk.mono {m : Mach} {t : Tabl} {n k : Nat} {s : Stand} (h : StandOk m t n s) (hk : n ≤ k) : StandOk m t k s := by
  cases s with
  | off => trivial
  | mute => trivial
  | choice l => exact ⟨h.1, Nat.le_trans h.2 hk⟩
  | sealed x => exact NoteOk.mono h hk
  | ready l d => exact ⟨h.1, Nat.le_trans h.2.1 hk, h.2.2⟩
  | bare l d => exact ⟨h.1, Nat.le_trans h.2.1 hk, h.2.2⟩
section
variable {mn : Man} {m : Mach} {t : Tabl} {k n : Nat} {w : Wd}
theorem ok0 : Ok m t 0 w0 := ⟨by simp [w0, NoteOk, lv_nil, rowOf], by simp [w0], trivial, by simp [w0], by simp [w0], by simp [w0], by simp [w0]⟩
theorem Ok.sealN {x : Note} (h : Ok m t n w) (hx : NoteOk m t n x) : (∀ y ∈ (sealN x w).shelf, NoteOk m t n y) ∧ (sealN x w).shelf.length ≤ w.shelf.length + 1 := by
  unfold Wb.sealN
  simp only
  by_cases e : x ∈ w.shelf
  · rw [if_pos e]; exact ⟨h.sh, by omega⟩
  · rw [if_neg e]
    refine ⟨fun y hy => ?_, by simp⟩
    rcases List.mem_append.mp hy with q | q
    · exact h.sh y q
    · rw [List.mem_singleton.mp q]; exact hx
theorem say_ok (hs : House m k t) {l : Life} {j : Nat} (hl : Lv m l) (h5 : l.length ≤ n + 1) (h1 : w.heard.length ≤ n) (h2 : ∀ x ∈ w.heard, WordOk (some x.2)) (h3 : ∀ l ∈ w.spoken, Lv m l ∧ l.length ≤ n + 1) (h4 : w.spoken.length ≤ n) :
    (say m l j w).shelf = w.shelf ∧ (say m l j w).wheel = w.wheel ∧ (say m l j w).stand = w.stand ∧ (say m l j w).heard.length ≤ n + 1 ∧ (∀ x ∈ (say m l j w).heard, WordOk (some x.2)) ∧ (∀ l' ∈ (say m l j w).spoken, Lv m l' ∧ l'.length ≤ n + 1) ∧ (say m l j w).spoken.length ≤ n + 1 := by
  have hw := hs.word hl
  unfold say
  cases e : wordOf m l with
  | none => exact ⟨rfl, rfl, rfl, Nat.le_succ_of_le h1, h2, h3, Nat.le_succ_of_le h4⟩
  | some x =>
    rw [e] at hw
    refine ⟨rfl, rfl, rfl, by simp; omega, fun y hy => ?_, fun l' hl' => ?_, ?_⟩
    · rcases List.mem_append.mp hy with q | q
      · exact h2 y q
      · rw [List.mem_singleton.mp q]; exact hw
    · simp only at hl'
      by_cases q : l ∈ w.spoken
      · rw [if_pos q] at hl'; exact h3 l' hl'
      · rw [if_neg q] at hl'
        rcases List.mem_append.mp hl' with z | z
        · exact h3 l' z
        · rw [List.mem_singleton.mp z]; exact ⟨hl, h5⟩
    · simp only
      by_cases q : l ∈ w.spoken
      · rw [if_pos q]; omega
      · rw [if_neg q]; simp; omega
/-- w: one behind n steps as to its shelf -/
theorem come_ok (hs : House m k t) {l : Life} {d : Nat} (hl : Lv m l) (hd : d ≤ (rowOf m t l).length) (h5 : l.length ≤ n + 1) (h0 : ∀ x ∈ w.shelf, NoteOk m t (n + 1) x) (h00 : w.shelf.length ≤ n * 2 + 2) (h1 : w.heard.length ≤ n) (h2 : ∀ x ∈ w.heard, WordOk (some x.2)) (h3 : ∀ l ∈ w.spoken, Lv m l ∧ l.length ≤ n + 1) (h4 : w.spoken.length ≤ n) : Ok m t (n + 1) (come mn m t l d w) := by
  unfold come
  by_cases e : d = (rowOf m t l).length
  · rw [if_pos e]
    by_cases q : mn = .early
    · rw [if_pos q]
      exact ⟨h0, by simp only; omega, ⟨hl, h5⟩, Nat.le_succ_of_le h1, h2, h3, Nat.le_succ_of_le h4⟩
    · rw [if_neg q]
      obtain ⟨a1, a2, a3, a4, a5, a6, a7⟩ := say_ok (j := w.wheel.1) hs hl h5 h1 h2 h3 h4
      exact ⟨by rw [show (_ : Wd).shelf = (say m l w.wheel.1 w).shelf from rfl, a1]; exact h0, by show (say m l w.wheel.1 w).shelf.length ≤ _; rw [a1]; omega, ⟨hl, h5⟩, a4, a5, a6, a7⟩
  · rw [if_neg e]
    by_cases q : mn = .late
    · rw [if_pos q]
      exact ⟨h0, by simp only; omega, ⟨hl, h5, by omega⟩, Nat.le_succ_of_le h1, h2, h3, Nat.le_succ_of_le h4⟩
    · rw [if_neg q]
      have hx : NoteOk m t (n + 1) ⟨w.wheel.1 + 1, (rowOf m t l)[d]?, l, d + 1⟩ := ⟨hl, by show d + 1 ≤ (rowOf m t l).length; omega, h5⟩
      have b1 : ∀ y ∈ (Wb.sealN ⟨w.wheel.1 + 1, (rowOf m t l)[d]?, l, d + 1⟩ w).shelf, NoteOk m t (n + 1) y := by
        unfold Wb.sealN
        simp only
        intro y hy
        by_cases z : (⟨w.wheel.1 + 1, (rowOf m t l)[d]?, l, d + 1⟩ : Note) ∈ w.shelf
        · rw [if_pos z] at hy; exact h0 y hy
        · rw [if_neg z] at hy
          rcases List.mem_append.mp hy with z | z
          · exact h0 y z
          · rw [List.mem_singleton.mp z]; exact hx
      have b2 : (Wb.sealN ⟨w.wheel.1 + 1, (rowOf m t l)[d]?, l, d + 1⟩ w).shelf.length ≤ (n + 1) * 2 + 1 := by
        unfold Wb.sealN
        simp only
        by_cases z : (⟨w.wheel.1 + 1, (rowOf m t l)[d]?, l, d + 1⟩ : Note) ∈ w.shelf
        · rw [if_pos z]; omega
        · rw [if_neg z]; simp; omega
      by_cases z : mn = .early ∧ d + 1 = (rowOf m t l).length
      · rw [if_pos z]
        obtain ⟨a1, a2, a3, a4, a5, a6, a7⟩ := say_ok (j := w.wheel.1 + 1) (w := Wb.sealN ⟨w.wheel.1 + 1, (rowOf m t l)[d]?, l, d + 1⟩ w) hs hl h5 h1 h2 h3 h4
        exact ⟨by show ∀ x ∈ (say m l (w.wheel.1 + 1) _).shelf, _; rw [a1]; exact b1, by show (say m l (w.wheel.1 + 1) _).shelf.length ≤ _; rw [a1]; exact b2, hx, a4, a5, a6, a7⟩
      · rw [if_neg z]
        exact ⟨b1, b2, hx, Nat.le_succ_of_le h1, h2, h3, Nat.le_succ_of_le h4⟩
theorem stp_ok (hs : House m k t) {s : Stp} (h : Ok m t n w) (hd : doable m w s = true) : Ok m t (n + 1) (stp mn m t s w) := by
  have m0 : ∀ x ∈ w.shelf, NoteOk m t (n + 1) x := fun x hx => (h.sh x hx).mono (Nat.le_succ n)
  have m3 : ∀ l ∈ w.spoken, Lv m l ∧ l.length ≤ n + 1 := fun l hl => ⟨(h.sp l hl).1, Nat.le_succ_of_le (h.sp l hl).2⟩
  have hl := h.shl
  cases s with
  | boot x =>
    have hx : x ∈ w.shelf := by simp [doable] at hd; exact hd.2
    have o := h.sh x hx
    unfold stp
    simp only
    by_cases q : fits mn w x = true
    · rw [if_pos q]
      exact come_ok hs o.1 o.2.1 (Nat.le_succ_of_le o.2.2) m0 (by omega) h.he h.hs m3 h.spl
    · rw [if_neg q]
      exact ⟨m0, by simp only; omega, trivial, Nat.le_succ_of_le h.he, h.hs, m3, Nat.le_succ_of_le h.spl⟩
  | ask o =>
    have st := h.st
    cases e : w.stand with
    | choice l =>
      rw [e] at st
      simp [doable, e] at hd
      simp only [stp, e]
      exact come_ok hs (lv_snoc.mpr ⟨st.1, hd⟩) (Nat.zero_le _) (by have := st.2; simp; omega) m0 (by omega) h.he h.hs m3 h.spl
    | _ => simp [doable, e] at hd
  | turn =>
    have st := h.st
    cases e : w.stand with
    | sealed x =>
      rw [e] at st
      simp only [stp, e]
      exact come_ok (w := { w with wheel := (w.wheel.1 + 1, x.mark), stand := .sealed x }) hs st.1 st.2.1 (Nat.le_succ_of_le st.2.2) m0 (by simp only; omega) h.he h.hs m3 h.spl
    | ready l d =>
      rw [e] at st
      simp only [stp, e]
      exact ⟨m0, by simp only; omega, ⟨st.1, Nat.le_succ_of_le st.2.1, st.2.2⟩, Nat.le_succ_of_le h.he, h.hs, m3, Nat.le_succ_of_le h.spl⟩
    | _ => simp [doable, e] at hd
  | cut => exact ⟨m0, by simp only [stp]; omega, trivial, Nat.le_succ_of_le h.he, h.hs, m3, Nat.le_succ_of_le h.spl⟩
  | sel =>
    have st := h.st
    cases e : w.stand with
    | bare l d =>
      rw [e] at st
      simp only [stp, e]
      have o := h.sealN (x := ⟨w.wheel.1, w.wheel.2, l, d⟩) ⟨st.1, st.2.2, st.2.1⟩
      exact come_ok hs st.1 st.2.2 (Nat.le_succ_of_le st.2.1) (fun x hx => (o.1 x hx).mono (Nat.le_succ n)) (by have := o.2; omega) h.he h.hs m3 h.spl
    | _ => simp [doable, e] at hd
end
end Wb

/-! The program's first defs. -/
namespace Wb
open PySem PySem.Spec PyProof.Rows L2
/-- the module's names -/
structure Ev (K : PySem.W.Frag) (mg : Str → Option Value) : Prop where
  len : mg "len" = none
  range : mg "range" = none
  tuple : mg "tuple" = none
  isin : mg "isinstance" = none
  int : mg "int" = none
  bool : mg "bool" = none
  str : mg "str" = none
  list : mg "list" = none
  any : mg "any" = none
  all : mg "all" = none
  min : mg "min" = none
  enum : mg "enumerate" = none
  mStates : ∃ t, mg "MOST_STATES" = some (.int 40 t)
  mOptions : ∃ t, mg "MOST_OPTIONS" = some (.int 6 t)
  mLetters : ∃ t, mg "MOST_LETTERS" = some (.int 8 t)
  letters : ∃ t, mg "LETTERS" = some (.str "abcdefghijklmnopqrstuvwxyz" t)
  mMarks : ∃ t, mg "MOST_MARKS" = some (.int 4 t)
  birth : ∃ a, mg "BIRTH" = some (.ref a) ∧ ∀ H, Dt K H (.ref a) (.tuple [.int 0, .none, .tuple [], .int 0])
  off : ∃ a, mg "OFF" = some (.ref a) ∧ ∀ H, Dt K H (.ref a) (.tuple [sS "off"])
  mute : ∃ a, mg "MUTE" = some (.ref a) ∧ ∀ H, Dt K H (.ref a) (.tuple [sS "mute"])
  manners : ∃ a, mg "MANNERS" = some (.ref a) ∧ ∀ H, Dt K H (.ref a) (.tuple [sS "sealed", sS "late", sS "early", sS "counted", sS "open"])
/-- the def st stands under the module's name x -/
def Dg (K : PySem.W.Frag) (mg : Str → Option Value) (x : Str) (st : Stmt) : Prop := ∃ f fd, FunD K x x (defArgs st) (defBody st) (defScope st) [] [] f fd ∧ mg x = some (.ref f)
/-- .. with generator expressions in it: its table is one of G's -/
def Dgt (K : PySem.W.Frag) (mg : Str → Option Value) (base : Heap) (G : Addr → Prop) (x : Str) (st : Stmt) (dvs : List V) : Prop := ∃ f fd, FunD K x x (defArgs st) (defBody st) (defScope st) dvs [] f fd ∧ mg x = some (.ref f) ∧ ∀ c, fd.code = .ref c → ∃ P, G P ∧ GxR.TabB base mg c P
section
variable {X : Cx} {G : Addr → Prop} {ρ : List Sv} {J : As G}
theorem ed_glob {x : Str} {u : Value} {v : V} {r : Sv} {pos : Pos} (hm : X.mg x = some u) (hr : RelV v u) (h : ∀ H, SvOk X.K H r (some v)) (hg : Gl X x) (hd : (x == ("__debug__" : Str)) = false) : Ed X G (.Name x pos) ρ J r := fun σ H Q s t j q => ⟨_, pe_glob hg hm hr hd, q v H (h H) Gr.refl⟩
theorem ed_gint {x : Str} {i : Int} {pos : Pos} (hm : ∃ t, X.mg x = some (.int i t)) (hg : Gl X x := by rfl) (hd : (x == ("__debug__" : Str)) = false := by decide) : Ed X G (.Name x pos) ρ J (.d (.int i)) := by
  obtain ⟨t, hm⟩ := hm
  exact ed_glob (v := .int i) hm ⟨t, rfl⟩ (fun H => ⟨_, rfl, .int i⟩) hg hd
theorem ed_gstr {x z : Str} {pos : Pos} (hm : ∃ t, X.mg x = some (.str z t)) (hg : Gl X x := by rfl) (hd : (x == ("__debug__" : Str)) = false := by decide) : Ed X G (.Name x pos) ρ J (.d (.str z)) := by
  obtain ⟨t, hm⟩ := hm
  exact ed_glob (v := .str z) hm ⟨t, rfl⟩ (fun H => ⟨_, rfl, .str z⟩) hg hd
theorem ed_gtup {x : Str} {d : PyData} {pos : Pos} (hm : ∃ a, X.mg x = some (.ref a) ∧ ∀ H, Dt X.K H (.ref a) d) (hg : Gl X x := by rfl) (hd : (x == ("__debug__" : Str)) = false := by decide) : Ed X G (.Name x pos) ρ J (.d d) := by
  obtain ⟨a, hm, h⟩ := hm
  exact ed_glob (v := .ref a) hm rfl (fun H => ⟨_, rfl, h H⟩) hg hd
end
theorem k_ii : kitB "int" "int" = some true := by decide +kernel
theorem k_ib : kitB "int" "bool" = some false := by decide +kernel
theorem k_nb : kitB "NoneType" "bool" = some false := by decide +kernel
theorem k_tb : kitB "tuple" "bool" = some false := by decide +kernel
theorem k_sb : kitB "str" "bool" = some false := by decide +kernel
theorem k_tt : kitB "tuple" "tuple" = some true := by decide +kernel
theorem k_ss : kitB "str" "str" = some true := by decide +kernel
theorem k_is : kitB "int" "str" = some false := by decide +kernel
theorem k_ns : kitB "NoneType" "str" = some false := by decide +kernel
theorem k_it : kitB "int" "tuple" = some false := by decide +kernel
theorem k_nt : kitB "NoneType" "tuple" = some false := by decide +kernel
theorem k_st : kitB "str" "tuple" = some false := by decide +kernel
theorem k_il : kitB "int" "list" = some false := by decide +kernel
theorem k_nl : kitB "NoneType" "list" = some false := by decide +kernel
theorem k_sl : kitB "str" "list" = some false := by decide +kernel
theorem k_tl : kitB "tuple" "list" = some false := by decide +kernel
theorem k_ll : kitB "list" "list" = some true := by decide +kernel
theorem k_lt : kitB "list" "tuple" = some false := by decide +kernel
section
variable {P : Program} {w : World} {K : PySem.W.Frag} {mg : Str → Option Value} {base : Heap} {G : Addr → Prop}
theorem cal_of {x : Str} {st : Stmt} {ps : List Str} {k : Nat} {sp : Sp} (h : Dg K mg x st) (hok : ∀ f fd, FunD K x x (defArgs st) (defBody st) (defScope st) [] [] f fd → FnOk P w K mg base CX0 k f fd ps sp)
    (hb : ∀ (kV doc pm : Value) (an : Option Addr) (cdv ct : Value) (us : List Value), us.length = ps.length → bindArgs (PySem.W.fnOf x x (defArgs st) (defBody st) (defScope st) .none kV doc pm an cdv ct) { pos := us } = pure (ps.zip us)) : Cal P w K mg base k x sp [] := by
  obtain ⟨f, fd, F, g⟩ := h
  exact ⟨f, fd, ps, [], hok f fd F, g, F.kp, F.bindsN hb, .nil⟩
theorem cal_ofT {x : Str} {st : Stmt} {ps : List Str} {k : Nat} {sp : Sp} (h : Dgt K mg base G x st []) (hok : ∀ f fd, FunD K x x (defArgs st) (defBody st) (defScope st) [] [] f fd → (∀ c, fd.code = .ref c → ∃ P, G P ∧ GxR.TabB base mg c P) → FnOk P w K mg base CX0 k f fd ps sp)
    (hb : ∀ (kV doc pm : Value) (an : Option Addr) (cdv ct : Value) (us : List Value), us.length = ps.length → bindArgs (PySem.W.fnOf x x (defArgs st) (defBody st) (defScope st) .none kV doc pm an cdv ct) { pos := us } = pure (ps.zip us)) : Cal P w K mg base k x sp [] := by
  obtain ⟨f, fd, F, g, ht⟩ := h
  exact ⟨f, fd, ps, [], hok f fd F ht, g, F.kp, F.bindsN hb, .nil⟩

/-! ### is_number -/
def fNumber (rs : List Sv) (r : Sv) : Prop := ∃ (i lo hi : Int), rs = [.d (.int i), .d (.int lo), .d (.int hi)] ∧ r = .d (.bool (decide (lo ≤ i) && decide (i ≤ hi)))
theorem scNumber : FnScope ["value", "low", "high"] ["value", "low", "high"] (defScope (top 13)) := ⟨rfl, rfl, rfl, by decide +kernel, rfl, by decide +kernel, by decide +kernel⟩
theorem ok_number (E : Ev K mg) (h : Dg K mg "is_number" (top 13)) : Cal P w K mg base 1 "is_number" (spS K G (Pu fNumber)) [] :=
  cal_of h (fun f fd F => ok_S F scNumber (fun rs A ms Post ⟨r, ⟨i, lo, hi, e, _⟩, _⟩ => by rw [e] <;> rfl) fun c A' outer s H E0 hcd hr rs A ms Post vs Q hR sa ha q => by
    obtain ⟨r, ⟨i, lo, hi, rfl, rfl⟩, rfl, rfl, rfl⟩ := hR
    refine f_one (r_ed q (Ed.to (ed_and (x := true) (ed_isi (T := "int") (ed_name 0) k_ii E.isin E.int (by decide +kernel) (by decide) (by decide)) fun _ =>
      ed_and (x := true) (ed_not (x := false) (ed_isi (T := "bool") (ed_name 0) k_ib E.isin E.bool (by decide +kernel) (by decide) (by decide))) fun _ => ed_one (ed_chain (ed_name 1) (ed_name 0) (ed_name 2))) ?_) ⟨rfl, rfl⟩)
    simp)
    fun _ _ _ _ _ _ us hl => match us, hl with | [_, _, _], _ => rfl
theorem gens_of {env : Env} {scope : Scope} {x : Str} (h1 : scope.kind = .function) (h2 : scope.isCoroutine = false) (h3 : ∀ y ∈ scope.names, y.2 ≠ .cell) (h4 : scope.names.lookup (".0" : Str) = some NameKind.local) (h5 : scope.names.lookup x = some .local) (h6 : ∀ y ∈ scope.names, y.2 = .free → ∃ c, env.cells.lookup y.1 = some c) : GxR.GenS env scope x := ⟨h1, h2, h3, h4, h5, h6⟩
theorem nofree {env : Env} {scope : Scope} (h : ∀ y ∈ scope.names, y.2 ≠ .free) : ∀ y ∈ scope.names, y.2 = .free → ∃ c, env.cells.lookup y.1 = some c := fun y hy e => absurd e (h y hy)
/-! ### is_word -/
def fWord (rs : List Sv) (r : Sv) : Prop := ∃ x : Str, WordOk (some x) ∧ rs = [.d (.str x)] ∧ r = .d (.bool true)
theorem scWord : FnScope ["value", "sign"] ["value"] (defScope (top 14)) := ⟨rfl, rfl, rfl, by decide +kernel, rfl, by decide +kernel, by decide +kernel⟩
def inLetters (d : PyData) : Bool := match d with
  | .str z => match z.cps.toList with
    | [c] => decide (c ∈ ("abcdefghijklmnopqrstuvwxyz" : Str).cps.toList)
    | _ => false
  | _ => false
theorem word_facts {x : Str} (h : WordOk (some x)) : (1 ≤ x.length ∧ x.length ≤ 5) ∧ (sgnD x).all inLetters = true := by
  have h' : x ∈ (["a", "b", "yes", "no", "ab"] : List Str) := h
  simp only [List.mem_cons, List.not_mem_nil, or_false] at h'
  rcases h' with e | e | e | e | e <;> subst e <;> decide +kernel
theorem ok_word (E : Ev K mg) (h : Dgt K mg base G "is_word" (top 14) []) : Cal P w K mg base 3 "is_word" (spS K G (Pu fWord)) [] :=
  cal_ofT h (fun f fd F hT => ok_S F scWord (fun rs A ms Post ⟨r, ⟨x, _, e, _⟩, _⟩ => by rw [e] <;> rfl) fun c A' outer s H E0 hcd hr rs A ms Post vs Q hR sa ha q => by
    obtain ⟨r, ⟨x, hx, rfl, rfl⟩, rfl, rfl, rfl⟩ := hR
    obtain ⟨Pt, hP, TB⟩ := hT c hcd
    obtain ⟨⟨h1, h5⟩, hall⟩ := word_facts hx
    refine f_one (r_ed q (Ed.to (ed_and (x := true) (ed_isi (T := "str") (ed_name 0) k_ss E.isin E.str (by decide +kernel) (by decide) (by decide)) fun _ =>
      ed_and (x := decide ((1 : Int) ≤ (x.length : Nat)) && decide (((x.length : Nat) : Int) ≤ 8)) (ed_chain ed_int (ed_lenS E.len (ed_name 0) (by omega)) (ed_gint E.mLetters)) fun _ =>
      ed_one (ed_all 1 inLetters (ep_str (x := x) (ed_name 0)) hr (fun d hd s H C code fp pn hr => ?_) hP TB rfl scWord.nd (gens_of rfl rfl (by decide +kernel) rfl rfl (nofree (by decide +kernel))) (blkOk_by (N := ["value", "sign"]) (sc := defScope (top 14)) (by decide +kernel)) E.all)) ?_) ⟨rfl, rfl⟩)
    · unfold sgnD at hd
      obtain ⟨cc, _, rfl⟩ := List.mem_map.mp hd
      exact ed_sign (ed_name 1) (ed_gstr E.letters)
    · rw [hall]
      have e1 : decide ((1 : Int) ≤ (x.length : Nat)) = true := decide_eq_true (by omega)
      have e2 : decide (((x.length : Nat) : Int) ≤ 8) = true := decide_eq_true (by omega)
      rw [e1, e2] <;> rfl)
    fun _ _ _ _ _ _ us hl => match us, hl with | [_], _ => rfl
end
end Wb

namespace Wb
open PySem PySem.Spec PyProof.Rows L2
section
variable {X : Cx} {G : Addr → Prop} {ρ : List Sv} {J : As G} {D : Ends}
/-- an if that does not hold, without else -/
theorem f_skip {c : Expr} {a rest : List Stmt} {x : Bool} {pos : Pos} (h : Et X G c ρ J x) (k : Fin X (cSs X rest D) ρ J) (hx : x = false) : Fin X (cSs X (.If c a [] pos :: rest) D) ρ J :=
  f_cons (f_if h (fun e => by rw [hx] at e; cases e) fun _ => f_nil k)
end
section
variable {P : Program} {w : World} {K : PySem.W.Frag} {mg : Str → Option Value} {base : Heap} {G : Addr → Prop}
/-! ### is_option -/
def fOption (rs : List Sv) (r : Sv) : Prop := ∃ (o : Nat × Word) (n : Nat), o.1 < n ∧ WordOk o.2 ∧ rs = [.d (eO o), .d (eN n)] ∧ r = .d (.bool true)
theorem scOption : FnScope ["value", "many"] ["value", "many"] (defScope (top 15)) := ⟨rfl, rfl, rfl, by decide +kernel, rfl, by decide +kernel, by decide +kernel⟩
theorem ok_option (E : Ev K mg) (cNumber : Cal P w K mg base 1 "is_number" (spS K G (Pu fNumber)) []) (cWord : Cal P w K mg base 3 "is_word" (spS K G (Pu fWord)) []) (h : Dg K mg "is_option" (top 15)) : Cal P w K mg base 4 "is_option" (spS K G (Pu fOption)) [] :=
  cal_of h (fun f fd F => ok_S F scOption (fun rs A ms Post ⟨r, ⟨_, _, _, _, e, _⟩, _⟩ => by rw [e] <;> rfl) fun c A' outer s H E0 hcd hr rs A ms Post vs Q hR sa ha q => by
    obtain ⟨r, ⟨⟨i, wd⟩, n, h1, h2, rfl, rfl⟩, rfl, rfl, rfl⟩ := hR
    have h1' : i < n := h1
    refine f_skip (x := false) (Et.to (et_w (ew_or (y := false) (et_not (et_val (ed_isi (T := "tuple") (ed_name 0) k_tt E.isin E.tuple (by decide +kernel) (by decide) (by decide)))) fun _ =>
      ew_or (y := false) (et_ne hr (ed_lenT (ds := [eN i, eW wd]) E.len (ed_name 0)) ed_int rfl rfl) fun _ =>
      Ew.to (ew_or1 (et_not (et_val (ed_pu (rs := [.d (eN i), .d (.int 0), .d (.int ((n : Nat) - 1))]) (r := .d (.bool true)) cNumber (hr.mono (by decide)) (ea_cons (ed_ixc (ds := [eN i, eW wd]) (d := eN i) (ed_name 0) rfl) (ea_cons ed_int (ea_cons (ed_sub (ed_name 1) ed_int) ea_nil))) ?_)))) rfl)) ?_) ?_ rfl
    · refine ⟨i, 0, n - 1, rfl, ?_⟩
      rw [decide_eq_true (by omega), decide_eq_true (by omega)] <;> rfl
    · rfl
    · cases wd with
      | none => exact f_one (r_ed q (Ed.to (ed_or (x := true) (y := true) (ed_isN (ed_ixc (ds := [eN i, eW none]) (d := .none) (ed_name 0) rfl)) fun e => by cases e) rfl) ⟨rfl, rfl⟩)
      | some x =>
        exact f_one (r_ed q (Ed.to (ed_or (x := false) (ed_isN (ed_ixc (ds := [eN i, eW (some x)]) (d := .str x) (ed_name 0) rfl)) fun e => ed_one (ed_pu (rs := [.d (.str x)]) (r := .d (.bool true)) cWord hr (ea_cons (ed_ixc (ds := [eN i, eW (some x)]) (d := .str x) (ed_name 0) rfl) ea_nil) ⟨x, h2, rfl, rfl⟩)) rfl) ⟨rfl, rfl⟩))
    fun _ _ _ _ _ _ us hl => match us, hl with | [_, _], _ => rfl
/-! ### way_of -/
def wayL (m : Mach) (l : Life) (n : Nat) : List PyData := (List.range (n + 1)).map fun k => eN (behind m (l.take k))
theorem wayL_last (m : Mach) (l : Life) (n : Nat) : (wayL m l n).getLast? = some (eN (behind m (l.take n))) := by
  unfold wayL
  rw [List.range_succ, List.map_append]
  simp
theorem wayL_succ (m : Mach) (l : Life) (n : Nat) : wayL m l (n + 1) = wayL m l n ++ [eN (behind m (l.take (n + 1)))] := by
  unfold wayL
  rw [List.range_succ, List.map_append] <;> rfl
def fWay (rs : List Sv) (ds : List PyData) : Prop := ∃ (m : Mach) (l : Life), Lv m l ∧ l.length ≤ 1000 ∧ rs = [.d (eM m), .d (eL l)] ∧ ds = wayL m l l.length
theorem scWay : FnScope ["machine", "life", "found", "option", "state"] ["machine", "life"] (defScope (top 17)) := ⟨rfl, rfl, rfl, by decide +kernel, rfl, by decide +kernel, by decide +kernel⟩
theorem map_at {α β : Type} {f : α → β} {xs : List α} {i : Nat} {x : α} (h : xs[i]? = some x) : (xs.map f)[i]? = some (f x) := by rw [List.getElem?_map, h] <;> rfl
theorem map_at' {α β : Type} {f : α → β} {xs : List α} {i : Nat} {y : β} (h : (xs.map f)[i]? = some y) : ∃ x, xs[i]? = some x ∧ y = f x := by
  rw [List.getElem?_map] at h
  cases e : xs[i]? with
  | none => rw [e] at h; cases h
  | some x => rw [e] at h; exact ⟨x, rfl, (Option.some.inj h).symm⟩
theorem ok_way (E : Ev K mg) (cNumber : Cal P w K mg base 1 "is_number" (spS K G (Pu fNumber)) []) (h : Dg K mg "way_of" (top 17)) : Cal P w K mg base 2 "way_of" (spS K G (PuN fWay)) [] :=
  cal_of h (fun f fd F => ok_S F scWay (fun rs A ms Post ⟨r, ⟨_, _, _, _, e, _⟩, _⟩ => by rw [e] <;> rfl) fun c A' outer s H E0 hcd hr rs A ms Post vs Q hR sa ha q => by
    obtain ⟨ds, ⟨m, l, hl, hl2, rfl, rfl⟩, rfl, rfl, rfl⟩ := hR
    refine f_cons (f_newL 2 (en_lst (ds := [eN 0]) (ea_cons ed_int ea_nil) (by decide)) (fun a mu off _ => ?_) scWay.nd)
    refine f_cons (f_forP 3 [a] (ep_tup (ds := l.map eN) (ed_name 1)) (fun n ρ A => A = As.tt ∧ ∃ u v, ρ = [.d (eM m), .d (eL l), .l a (wayL m l n), u, v]) ⟨rfl, .u, .u, by simp [wayL, behind]⟩ (fun H1 n d ρ A' hd hI => ?_) (fun ρ A' hI => ?_) scWay.nd)
    · obtain ⟨rfl, u, v, rfl⟩ := hI
      obtain ⟨o, ho, rfl⟩ := map_at' hd
      have hlt := lv_at hl ho
      obtain ⟨st, op, e1, e2, e3⟩ := opt_of hlt
      rw [many_of e1] at hlt
      refine f_cons (f_set 4 (ed_ix (ds := m.map eS) (d := eS st) (i := behind m (l.take n)) (ed_name 0) (ed_ixLl (ed_name 2) (wayL_last m l n)) (map_at e1)) ?_ scWay.nd)
      refine f_skip (x := false) (Et.to (et_not (et_val (ed_pu (rs := [.d (eN o), .d (.int 0), .d (.int (((st.map eO).length : Nat) - 1))]) (r := .d (.bool true)) cNumber hr (ea_cons (ed_name 3) (ea_cons ed_int (ea_cons (ed_sub (ed_lenT (ds := st.map eO) E.len (ed_name 4)) ed_int) ea_nil))) ?_))) rfl) ?_ rfl
      · refine ⟨o, 0, _, rfl, ?_⟩
        rw [decide_eq_true (by omega), decide_eq_true (by rw [List.length_map]; omega)] <;> rfl
      · refine f_one (f_appJ 2 (d := eN op.1) (ed_ixc (ds := [eN op.1, eW op.2]) (ed_ix (ds := st.map eO) (d := eO op) (i := o) (ed_name 4) (ed_name 3) (map_at e2)) rfl) ?_ (Mu.cons (fun b hb => .inl hb) mu) ⟨trivial, trivial, trivial, trivial, trivial, trivial⟩ (fun _ _ _ h _ => h) ?_)
        · have hn := (List.getElem?_eq_some_iff.mp ho).1
          simp [wayL]
          omega
        · refine f_next ⟨rfl, .d (eN o), .d (eS st), ?_⟩
          rw [wayL_succ, take_snoc ho, behind_snoc]
          unfold nxt
          rw [e3]
          rfl
    · obtain ⟨rfl, u, v, rfl⟩ := hI
      rw [List.length_map]
      exact f_one (r_ed q (ed_name 2) ⟨⟨a, rfl⟩, rfl⟩ (hF := mu.fr (by simp))))
    fun _ _ _ _ _ _ us hl => match us, hl with | [_, _], _ => rfl
end
end Wb

namespace Wb
open PySem PySem.Spec PyProof.Rows L2
section
variable {X : Cx} {G : Addr → Prop} {ρ : List Sv} {D : Ends} {L : List (List Addr × Hp)} {A : As G}
/-- a, b = e1, e2: e1 makes a new list -/
theorem f_parJ1 (i j : Nat) {x y : Str} {a b : Expr} {px py pt : Pos} {kt k2 pt2} {pos : Pos} {d : PyData} {ds : List PyData} (ha : En X G a ρ (Jl L A) ds) (hb : Ed X G b ρ (Jl L A) (.d d)) (k : ∀ a, Mu L [a] → OffL [a] ρ → (∀ b, (∀ H, A.P H → ∃ o, H b = some o) → b ≠ a) → Fin X D.nx ((ρ.set i (.l a ds)).set j (.d d)) (Jl L A)) (hN : X.N.Nodup) (hij : i ≠ j := by decide) (hc : X.calm = true := by rfl) (hi : X.N[i]? = some x := by rfl) (hj : X.N[j]? = some y := by rfl)
    (hx : X.env.scope.names.lookup x = some .local := by rfl) (hy : X.env.scope.names.lookup y = some .local := by rfl)
    (hw : swappedStores [.Tuple [.Name x px, .Name y py] kt pt] (.Tuple [a, b] k2 pt2) X.env = pure (some [x, y]) := by rfl) (h0 : starEach [a, b] X.env = (false, eval a X.env) :: starEach [b] X.env := by rfl) (h1 : starEach [b] X.env = (false, eval b X.env) :: starEach [] X.env := by rfl)
    (hs : swapsWithSole [.Tuple [.Name x px, .Name y py] kt pt] (.Tuple [a, b] k2 pt2) pos.line X.env = pure false := by rfl) : Fin X (cS X (.Assign [.Tuple [.Name x px, .Name y py] kt pt] (.Tuple [a, b] k2 pt2) pos) D) ρ (Jl L A) := fun σ H sl t jj =>
  ⟨_, ps_par hc hN hi hj hij hx hy (pa_cons pe_c (pa_cons pe_c pa_nil h1) h0) hw hs, ha σ H _ sl t jj fun p H1 np s1 g1 => hb σ H1 _ (sl.g0 g1 t) (t.up g1) ((Jl L A).up g1 t jj) fun v H2 s2 g2 => by
    have g := g1.trans g2
    refine ⟨_, v, rfl, k p (Jl.fresh jj np) (OffL.newS np sl) (fun b hb z => ?_) _ H2 (((sl.g0 g t).set i (s1.g0 g2 (t.up g1))).set j s2) (t.up g) ((Jl L A).up g t jj)⟩
    obtain ⟨o, e⟩ := hb H jj.2
    rw [z, np] at e
    cases e⟩
end
theorem eqvN (a b : Nat) : PyData.eqv (eN a) (eN b) = decide (a = b) := cn_eqvB (n := 0) (cn_N 0 a) (cn_N 0 b) ⟨eN_inj, fun h => by rw [h]⟩
theorem eqvL0 (l : List Nat) : PyData.eqv (eL l) (.tuple []) = decide (l = []) := by
  cases l <;> rfl
theorem cut_init (l : List Nat) : cutD (l.map eN) none (some (-1)) = l.dropLast.map eN := by
  have e1 : HT.sIx (l.map eN).length 0 none = 0 := rfl
  have e2 : HT.sIx (l.map eN).length (l.map eN).length (some (-1)) = l.length - 1 := by
    unfold HT.sIx
    simp
    omega
  unfold cutD
  rw [e1, e2, List.drop_zero, Nat.sub_zero, ← List.map_take, List.dropLast_eq_take]
theorem cut_take (ds : List PyData) (n : Nat) : cutD ds none (some (n : Nat)) = ds.take n := by
  have e1 : HT.sIx ds.length 0 none = 0 := rfl
  have e2 : HT.sIx ds.length ds.length (some (n : Nat)) = min n ds.length := by
    unfold HT.sIx
    simp
    omega
  unfold cutD
  rw [e1, e2, List.drop_zero, Nat.sub_zero]
  rcases Nat.le_total n ds.length with h | h
  · rw [Nat.min_eq_left h]
  · rw [Nat.min_eq_right h, List.take_length, List.take_of_length_le h]
theorem cut_drop (ds : List PyData) (n : Nat) : cutD ds (some (n : Nat)) none = ds.drop n := by
  have e1 : HT.sIx ds.length 0 (some (n : Nat)) = min n ds.length := by
    unfold HT.sIx
    simp
    omega
  have e2 : HT.sIx ds.length ds.length none = ds.length := rfl
  unfold cutD
  rw [e1, e2]
  rcases Nat.le_total n ds.length with h | h
  · rw [Nat.min_eq_left h, List.take_of_length_le (by rw [List.length_drop]; omega)]
  · rw [Nat.min_eq_right h]
    rw [List.drop_of_length_le (Nat.le_refl _), List.drop_of_length_le h, List.take_nil]
section
variable {P : Program} {w : World} {K : PySem.W.Frag} {mg : Str → Option Value} {base : Heap} {G : Addr → Prop}
/-! ### state_behind, word_of, row_of -/
def fBehind (rs : List Sv) (r : Sv) : Prop := ∃ (m : Mach) (l : Life), Lv m l ∧ l.length ≤ 1000 ∧ rs = [.d (eM m), .d (eL l)] ∧ r = .d (eN (behind m l))
theorem scBehind : FnScope ["machine", "life"] ["machine", "life"] (defScope (top 18)) := ⟨rfl, rfl, rfl, by decide +kernel, rfl, by decide +kernel, by decide +kernel⟩
theorem ok_behind (cWay : Cal P w K mg base 2 "way_of" (spS K G (PuN fWay)) []) (h : Dg K mg "state_behind" (top 18)) : Cal P w K mg base 3 "state_behind" (spS K G (Pu fBehind)) [] :=
  cal_of h (fun f fd F => ok_S F scBehind (fun rs A ms Post ⟨r, ⟨_, _, _, _, e, _⟩, _⟩ => by rw [e] <;> rfl) fun c A' outer s H E0 hcd hr rs A ms Post vs Q hR sa ha q => by
    obtain ⟨r, ⟨m, l, h1, h2, rfl, rfl⟩, rfl, rfl, rfl⟩ := hR
    refine f_one (r_ed q (ed_ixNl (ds := wayL m l l.length) (d := eN (behind m l)) (en_pu (rs := [.d (eM m), .d (eL l)]) cWay hr (ea_cons (ed_name 0) (ea_cons (ed_name 1) ea_nil)) ⟨m, l, h1, h2, rfl, rfl⟩) ?_) ⟨rfl, rfl⟩)
    rw [wayL_last, List.take_length])
    fun _ _ _ _ _ _ us hl => match us, hl with | [_, _], _ => rfl
def fWordOf (rs : List Sv) (r : Sv) : Prop := ∃ (m : Mach) (l : Life), Lv m l ∧ l.length ≤ 1000 ∧ rs = [.d (eM m), .d (eL l)] ∧ r = .d (eW (wordOf m l))
theorem scWordOf : FnScope ["machine", "life"] ["machine", "life"] (defScope (top 19)) := ⟨rfl, rfl, rfl, by decide +kernel, rfl, by decide +kernel, by decide +kernel⟩
theorem map_last {l : List Nat} {o : Nat} : ((l ++ [o]).map eN).getLast? = some (eN o) := by simp
theorem ok_wordOf (cBehind : Cal P w K mg base 3 "state_behind" (spS K G (Pu fBehind)) []) (h : Dg K mg "word_of" (top 19)) : Cal P w K mg base 4 "word_of" (spS K G (Pu fWordOf)) [] :=
  cal_of h (fun f fd F => ok_S F scWordOf (fun rs A ms Post ⟨r, ⟨_, _, _, _, e, _⟩, _⟩ => by rw [e] <;> rfl) fun c A' outer s H E0 hcd hr rs A ms Post vs Q hR sa ha q => by
    obtain ⟨r, ⟨m, l, h1, h2, rfl, rfl⟩, rfl, rfl, rfl⟩ := hR
    refine f_cons (f_if (x := decide (l = [])) (Et.to (et_eq (d := eL l) (e := .tuple []) hr (ed_name 1) (ed_tup (ds := []) ea_nil (by decide)) (cn_shaped (cn_L 0 l)) rfl) (eqvL0 l)) (fun e => ?_) fun e => f_nil ?_)
    · have e := of_decide_eq_true e
      subst e
      exact f_one (r_ed q ed_non ⟨rfl, rfl⟩)
    · obtain ⟨r, o, rfl⟩ := snoc_of (of_decide_eq_false e)
      obtain ⟨h3, h4⟩ := lv_snoc.mp h1
      obtain ⟨st, op, e1, e2, e3⟩ := opt_of h4
      have h5 : r.length ≤ 1000 := by simp at h2; omega
      refine f_one (r_ed q (ed_ixc (ds := [eN op.1, eW op.2]) (d := eW op.2) (ed_ix (ds := st.map eO) (d := eO op) (i := o) (ed_ix (ds := m.map eS) (d := eS st) (i := behind m r) (ed_name 0)
        (ed_pu (rs := [.d (eM m), .d (eL r)]) cBehind hr (ea_cons (ed_name 0) (ea_cons (Ed.to (ed_sl (ds := (r ++ [o]).map eN) (l := none) (u := some (-1)) (ed_name 1) eo_none (eo_some (ed_neg ed_int))) (by rw [cut_init, List.dropLast_concat] <;> rfl)) ea_nil)) ⟨m, r, h3, h5, rfl, rfl⟩) (map_at e1))
        (ed_ixl (ds := (r ++ [o]).map eN) (ed_name 1) map_last) (map_at e2)) rfl) ⟨by rw [wordOf_snoc, e3], rfl⟩))
    fun _ _ _ _ _ _ us hl => match us, hl with | [_, _], _ => rfl
def fRowOf (rs : List Sv) (r : Sv) : Prop := ∃ (m : Mach) (k : Nat) (t : Tabl) (l : Life), House m k t ∧ Lv m l ∧ l ≠ [] ∧ l.length ≤ 1000 ∧ rs = [.d (eM m), .d (eT t), .d (eL l)] ∧ r = .d (eL (rowOf m t l))
theorem scRowOf : FnScope ["machine", "table", "life"] ["machine", "table", "life"] (defScope (top 27)) := ⟨rfl, rfl, rfl, by decide +kernel, rfl, by decide +kernel, by decide +kernel⟩
theorem ok_rowOf (cBehind : Cal P w K mg base 3 "state_behind" (spS K G (Pu fBehind)) []) (h : Dg K mg "row_of" (top 27)) : Cal P w K mg base 4 "row_of" (spS K G (Pu fRowOf)) [] :=
  cal_of h (fun f fd F => ok_S F scRowOf (fun rs A ms Post ⟨r, ⟨_, _, _, _, _, _, _, _, e, _⟩, _⟩ => by rw [e] <;> rfl) fun c A' outer s H E0 hcd hr rs A ms Post vs Q hR sa ha q => by
    obtain ⟨r, ⟨m, k, t, l, hs, h1, h0, h2, rfl, rfl⟩, rfl, rfl, rfl⟩ := hR
    obtain ⟨r, o, rfl⟩ := snoc_of h0
    obtain ⟨h3, h4⟩ := lv_snoc.mp h1
    obtain ⟨st, rw_, e1, e2, e3, _⟩ := hs.row h4
    have h5 : r.length ≤ 1000 := by simp at h2; omega
    refine f_one (r_ed q (ed_ix (ds := st.map eL) (d := eL rw_) (i := o) (ed_ix (ds := t.map eRs) (d := eRs st) (i := behind m r) (ed_name 1)
      (ed_pu (rs := [.d (eM m), .d (eL r)]) cBehind hr (ea_cons (ed_name 0) (ea_cons (Ed.to (ed_sl (ds := (r ++ [o]).map eN) (l := none) (u := some (-1)) (ed_name 2) eo_none (eo_some (ed_neg ed_int))) (by rw [cut_init, List.dropLast_concat] <;> rfl)) ea_nil)) ⟨m, r, h3, h5, rfl, rfl⟩) (map_at e1))
      (ed_ixl (ds := (r ++ [o]).map eN) (ed_name 2) map_last) (map_at e2)) ⟨by rw [rowOf_snoc, e3], rfl⟩))
    fun _ _ _ _ _ _ us hl => match us, hl with | [_, _, _], _ => rfl
/-! ### told_by -/
def eTold (ts : List (Nat × Str)) : PyData := .tuple (ts.map eH)
def fTold (rs : List Sv) (r : Sv) : Prop := ∃ (m : Mach) (k : Nat) (t : Tabl) (l : Life), House m k t ∧ Lv m l ∧ l.length ≤ 1000 ∧ rs = [.d (eM m), .d (eT t), .d (eL l)] ∧ r = .d (eTold (told m t l))
theorem scTold : FnScope ["machine", "table", "life", "found", "count", "many", "word"] ["machine", "table", "life"] (defScope (top 28)) := ⟨rfl, rfl, rfl, by decide +kernel, rfl, by decide +kernel, by decide +kernel⟩
theorem ok_told (E : Ev K mg) (cRowOf : Cal P w K mg base 4 "row_of" (spS K G (Pu fRowOf)) []) (cWordOf : Cal P w K mg base 4 "word_of" (spS K G (Pu fWordOf)) []) (h : Dg K mg "told_by" (top 28)) : Cal P w K mg base 5 "told_by" (spS K G (Pu fTold)) [] :=
  cal_of h (fun f fd F => ok_S F scTold (fun rs A ms Post ⟨r, ⟨_, _, _, _, _, _, _, e, _⟩, _⟩ => by rw [e] <;> rfl) fun c A' outer s H E0 hcd hr rs A ms Post vs Q hR sa ha q => by
    obtain ⟨r, ⟨m, k, t, l, hs, h1, h2, rfl, rfl⟩, rfl, rfl, rfl⟩ := hR
    refine f_cons (f_parJ1 3 4 (ds := []) (d := eN 0) (en_lst (ds := []) ea_nil (by decide)) ed_int (fun a mu off _ => ?_) scTold.nd)
    refine f_cons (f_forP 5 [a] (ep_rng2 (lo := 1) (n := l.length + 1) E.range ed_int (Ed.to (ed_add (ed_lenT (ds := l.map eN) E.len (ed_name 2)) ed_int) (by rw [List.length_map] <;> rfl)) (by omega) (by omega)) (fun n ρ A => A = As.tt ∧ ∃ u v, ρ = [.d (eM m), .d (eT t), .d (eL l), .l a ((tfold m t (l.take n)).2.2.map eH), .d (eN (tfold m t (l.take n)).2.1), u, v]) ⟨rfl, .u, .u, rfl⟩ (fun H1 n d ρ A' hd hI => ?_) (fun ρ A' hI => ?_) scTold.nd)
    · obtain ⟨rfl, u, v, rfl⟩ := hI
      have hd2 := hd
      unfold rngD at hd2
      obtain ⟨n', hn', rfl⟩ := map_at' hd2
      obtain ⟨hn1, hn2⟩ := List.getElem?_eq_some_iff.mp hn'
      have hn3 : n < l.length := by simpa using hn1
      have hn4 : n' = n + 1 := by
        rw [← hn2]
        simp
        omega
      subst hn4
      have ho : l[n]? = some l[n] := List.getElem?_eq_getElem hn3
      have hts : l.take (n + 1) = l.take n ++ [l[n]] := take_snoc ho
      have hne : l.take (n + 1) ≠ [] := fun z => by
        have := congrArg List.length z
        rw [List.length_take, List.length_nil] at this
        omega
      have hlt := lv_take h1 (n + 1)
      have hlen : (l.take (n + 1)).length ≤ 1000 := by rw [List.length_take]; omega
      have cut : cutD (l.map eN) none (some ((n + 1 : Nat) : Int)) = (l.take (n + 1)).map eN := by rw [cut_take, List.map_take]
      refine f_cons (f_aug 4 (a := ((tfold m t (l.take n)).2.1 : Nat)) (b := ((rowOf m t (l.take (n + 1))).length : Nat)) (Ed.to (ed_lenT (ds := (rowOf m t (l.take (n + 1))).map eN) E.len (ed_pu (rs := [.d (eM m), .d (eT t), .d (eL (l.take (n + 1)))]) cRowOf hr (ea_cons (ed_name 0) (ea_cons (ed_name 1) (ea_cons (Ed.to (ed_sl (ds := l.map eN) (l := none) (u := some ((n + 1 : Nat) : Int)) (ed_name 2) eo_none (eo_some (ed_name 5))) (by rw [cut] <;> rfl)) ea_nil))) ⟨m, k, t, _, hs, hlt, hne, hlen, rfl, rfl⟩)) (by rw [List.length_map])) ?_ scTold.nd)
      refine f_cons (f_set 6 (ed_pu (rs := [.d (eM m), .d (eL (l.take (n + 1)))]) (r := .d (eW (wordOf m (l.take (n + 1))))) cWordOf hr (ea_cons (ed_name 0) (ea_cons (Ed.to (ed_sl (ds := l.map eN) (l := none) (u := some ((n + 1 : Nat) : Int)) (ed_name 2) eo_none (eo_some (ed_name 5))) (by rw [cut] <;> rfl)) ea_nil)) ⟨m, _, hlt, hlen, rfl, rfl⟩) ?_ scTold.nd)
      have eR : rowOf m t (l.take (n + 1)) = rowAt t (behind m (l.take n)) l[n] := by rw [hts, rowOf_snoc]
      have eW_ : wordOf m (l.take (n + 1)) = (optAt m (behind m (l.take n)) l[n]).2 := by rw [hts, wordOf_snoc]
      have eT_ : tfold m t (l.take (n + 1)) = tstep m t (tfold m t (l.take n)) l[n] := by rw [hts, tfold_snoc]
      have e0 := tfold_st (m := m) (t := t) (l.take n)
      have tl := told_len (m := m) (t := t) (l.take n)
      cases hw : wordOf m (l.take (n + 1)) with
      | none =>
        refine f_skip (x := false) (Et.to (et_notN (d := .none) (ed_name 6)) rfl) (f_nil (f_next ⟨rfl, .d (eN (n + 1)), .d .none, ?_⟩)) rfl
        rw [eT_]
        unfold tstep
        rw [e0, ← eW_, hw, ← eR]
        simp [eN, eW]
      | some x =>
        refine f_one (f_if (x := true) (Et.to (et_notN (d := .str x) (ed_name 6)) rfl) (fun _ => f_one (f_appJ 3 (d := eH ((tfold m t (l.take n)).2.1 + (rowOf m t (l.take (n + 1))).length, x)) (ed_tup (ds := [eN ((tfold m t (l.take n)).2.1 + (rowOf m t (l.take (n + 1))).length), .str x]) (ea_cons (Ed.to (ed_name 4) ?_) (ea_cons (ed_name 6) ea_nil)) (by simp)) ?_ (Mu.cons (fun b hb => .inl hb) mu) ⟨trivial, trivial, trivial, trivial, trivial, trivial, trivial, trivial⟩ (fun _ _ _ h _ => h) (f_next ⟨rfl, .d (eN (n + 1)), .d (.str x), ?_⟩))) fun e => by cases e)
        · simp [eN]
        · rw [List.length_map]
          have : (tfold m t (l.take n)).2.2.length ≤ (l.take n).length := tl
          rw [List.length_take] at this
          omega
        · rw [eT_]
          unfold tstep
          rw [e0, ← eW_, hw, ← eR]
          simp [eN, eW]
    · obtain ⟨rfl, u, v, rfl⟩ := hI
      have e : (rngD 1 (l.length + 1 - 1)).length = l.length := by simp [rngD]
      rw [e, List.take_length]
      exact f_one (r_ed q (ed_tupleL E.tuple (ed_name 3)) ⟨rfl, rfl⟩))
    fun _ _ _ _ _ _ us hl => match us, hl with | [_, _, _], _ => rfl
end
end Wb

namespace Wb
open PySem PySem.Spec PyProof.Rows L2
/-! ### clean data of what is told -/
theorem word_str {x : Str} (h : WordOk (some x)) : PyData.strOk x = true := by
  have h' : x ∈ (["a", "b", "yes", "no", "ab"] : List Str) := h
  simp only [List.mem_cons, List.not_mem_nil, or_false] at h'
  rcases h' with e | e | e | e | e <;> subst e <;> decide +kernel
theorem cn_H {n : Nat} {x : Nat × Str} (h : WordOk (some x.2)) : cn (n + 1) (eH x) = true := by
  have h2 := word_str h
  have : cn n (.str x.2) = true := by cases n <;> exact h2
  simp [eH, cn, cn_N, this]
theorem cn_Told {n : Nat} {ts : List (Nat × Str)} (h : ∀ x ∈ ts, WordOk (some x.2)) : cn (n + 2) (eTold ts) = true := by
  simp only [eTold, cn, List.all_eq_true, List.mem_map]
  rintro _ ⟨a, ha, rfl⟩
  exact cn_H (h a ha)
theorem eH_inj {a b : Nat × Str} (h : eH a = eH b) : a = b := by
  obtain ⟨a1, a2⟩ := a
  obtain ⟨b1, b2⟩ := b
  unfold eH at h
  injection h with h
  injection h with h1 h
  injection h with h2 h
  injection h2 with h2
  have e1 : a1 = b1 := eN_inj h1
  have e2 : a2 = b2 := h2
  subst e1 e2
  rfl
theorem eTold_inj {a b : List (Nat × Str)} (h : eTold a = eTold b) : a = b := by
  unfold eTold at h
  injection h with h
  exact map_inj (fun _ _ => eH_inj) h
theorem told_ok {m : Mach} {k : Nat} {t : Tabl} (hs : House m k t) {l : Life} (h : Lv m l) : ∀ x ∈ told m t l, WordOk (some x.2) := by
  have key : ∀ n, n ≤ l.length → ∀ x ∈ told m t (l.take n), WordOk (some x.2) := by
    intro n
    induction n with
    | zero => intro _ x hx; simp [told, tfold] at hx
    | succ n ih =>
      intro hn x hx
      have ho : l[n]? = some l[n] := List.getElem?_eq_getElem (by omega)
      rw [take_snoc ho] at hx
      unfold told at hx
      rw [tfold_snoc] at hx
      rcases List.mem_append.mp hx with q | q
      · exact ih (by omega) x q
      · have hw := hs.word (lv_take h (n + 1))
        rw [take_snoc ho, wordOf_snoc] at hw
        rw [tfold_st] at q
        cases e : (optAt m (behind m (l.take n)) l[n]).2 with
        | none => rw [e] at q; cases q
        | some z =>
          rw [e] at q hw
          rw [List.mem_singleton.mp q]
          exact hw
  have := key l.length (Nat.le_refl _)
  rwa [List.take_length] at this
section
variable {P : Program} {w : World} {K : PySem.W.Frag} {mg : Str → Option Value} {base : Heap} {G : Addr → Prop}
/-! ### begins, along -/
def fBegins (rs : List Sv) (r : Sv) : Prop := ∃ (a b : List (Nat × Str)), (∀ x ∈ a, WordOk (some x.2)) ∧ (∀ x ∈ b, WordOk (some x.2)) ∧ rs = [.d (eTold a), .d (eTold b)] ∧ r = .d (.bool (decide (b.take a.length = a)))
theorem scBegins : FnScope ["one", "other"] ["one", "other"] (defScope (top 29)) := ⟨rfl, rfl, rfl, by decide +kernel, rfl, by decide +kernel, by decide +kernel⟩
theorem ok_begins (E : Ev K mg) (h : Dg K mg "begins" (top 29)) : Cal P w K mg base 1 "begins" (spS K G (Pu fBegins)) [] :=
  cal_of h (fun f fd F => ok_S F scBegins (fun rs A ms Post ⟨r, ⟨_, _, _, _, e, _⟩, _⟩ => by rw [e] <;> rfl) fun c A' outer s H E0 hcd hr rs A ms Post vs Q hR sa ha q => by
    obtain ⟨r, ⟨a, b, h1, h2, rfl, rfl⟩, rfl, rfl, rfl⟩ := hR
    have h3 : ∀ x ∈ b.take a.length, WordOk (some x.2) := fun x hx => h2 x (List.mem_of_mem_take hx)
    refine f_one (r_ed q (Ed.to (ed_eq (d := eTold (b.take a.length)) (e := eTold a) hr (Ed.to (ed_sl (ds := b.map eH) (l := none) (u := some ((a.map eH).length : Nat)) (ed_name 1) eo_none (eo_some (ed_lenT (ds := a.map eH) E.len (ed_name 0)))) (by rw [cut_take, List.length_map, ← List.map_take] <;> rfl)) (ed_name 0) (cn_shaped (cn_Told (n := 0) h3)) (cn_shaped (cn_Told (n := 0) h1))) ?_) ⟨rfl, rfl⟩)
    rw [cn_eqvB (n := 2) (cn_Told h3) (cn_Told h1) ⟨eTold_inj, fun h => by rw [h]⟩])
    fun _ _ _ _ _ _ us hl => match us, hl with | [_, _], _ => rfl
def fAlong (rs : List Sv) (r : Sv) : Prop := ∃ (a b : List (Nat × Str)), (∀ x ∈ a, WordOk (some x.2)) ∧ (∀ x ∈ b, WordOk (some x.2)) ∧ rs = [.d (eTold a), .d (eTold b)] ∧ r = .d (.bool (alongB a b))
theorem scAlong : FnScope ["one", "other"] ["one", "other"] (defScope (top 30)) := ⟨rfl, rfl, rfl, by decide +kernel, rfl, by decide +kernel, by decide +kernel⟩
theorem ok_along (cBegins : Cal P w K mg base 1 "begins" (spS K G (Pu fBegins)) []) (h : Dg K mg "along" (top 30)) : Cal P w K mg base 2 "along" (spS K G (Pu fAlong)) [] :=
  cal_of h (fun f fd F => ok_S F scAlong (fun rs A ms Post ⟨r, ⟨_, _, _, _, e, _⟩, _⟩ => by rw [e] <;> rfl) fun c A' outer s H E0 hcd hr rs A ms Post vs Q hR sa ha q => by
    obtain ⟨r, ⟨a, b, h1, h2, rfl, rfl⟩, rfl, rfl, rfl⟩ := hR
    exact f_one (r_ed q (ed_or (ed_pu (rs := [.d (eTold a), .d (eTold b)]) cBegins hr (ea_cons (ed_name 0) (ea_cons (ed_name 1) ea_nil)) ⟨a, b, h1, h2, rfl, rfl⟩) fun _ =>
      ed_one (ed_pu (rs := [.d (eTold b), .d (eTold a)]) cBegins hr (ea_cons (ed_name 1) (ea_cons (ed_name 0) ea_nil)) ⟨b, a, h2, h1, rfl, rfl⟩)) ⟨rfl, rfl⟩))
    fun _ _ _ _ _ _ us hl => match us, hl with | [_, _], _ => rfl
/-! ### is_same_note -/
def fSame (rs : List Sv) (r : Sv) : Prop := ∃ (a b : Note), b.life.length ≤ 1000 ∧ rs = [.d (eNote a), .d (eNote b)] ∧ r = .d (.bool (decide (a = b)))
theorem scSame : FnScope ["one", "other", "part"] ["one", "other"] (defScope (top 36)) := ⟨rfl, rfl, rfl, by decide +kernel, rfl, by decide +kernel, by decide +kernel⟩
theorem any_false {ds : List PyData} : ds.any (fun _ => false) = false := by induction ds <;> simp_all
theorem ok_same (E : Ev K mg) (h : Dgt K mg base G "is_same_note" (top 36) []) : Cal P w K mg base 2 "is_same_note" (spS K G (Pu fSame)) [] :=
  cal_ofT h (fun f fd F hT => ok_S F scSame (fun rs A ms Post ⟨r, ⟨_, _, _, e, _⟩, _⟩ => by rw [e] <;> rfl) fun c A' outer s H E0 hcd hr rs A ms Post vs Q hR sa ha q => by
    obtain ⟨r, ⟨a, b, hb5, rfl, rfl⟩, rfl, rfl, rfl⟩ := hR
    obtain ⟨Pt, hP, TB⟩ := hT c hcd
    have ev : PyData.eqv (eNote a) (eNote b) = decide (a = b) := cn_eqvB (n := 2) (cn_Note 0 a) (cn_Note 0 b) ⟨eNote_inj, fun h => by rw [h]⟩
    refine f_cons (f_if (x := !decide (a = b)) (Et.to (et_ne hr (ed_name 0) (ed_name 1) (cn_shaped (cn_Note 0 a)) (cn_shaped (cn_Note 0 b))) (by rw [ev])) (fun e => ?_) fun e => f_nil ?_)
    · have e' : decide (a = b) = false := by simpa using e
      rw [e'] at q
      exact f_one (r_ed q ed_bl ⟨rfl, rfl⟩)
    · have e' : decide (a = b) = true := by simpa using e
      rw [e'] at q
      refine f_one (r_ed q (Ed.to (ed_not (x := false) (Ed.to (ed_any 2 (fun _ => false) (ep_tup (ds := [eN b.num, eOm b.mark] ++ b.life.map eN ++ [eN b.done])
        (ed_cat (ed_cat (Ed.to (ed_sl (ds := [eN b.num, eOm b.mark, eL b.life, eN b.done]) (l := none) (u := some 2) (ed_name 1) eo_none (eo_some ed_int)) rfl) (ed_ixc (ds := [eN b.num, eOm b.mark, eL b.life, eN b.done]) (d := eL b.life) (ed_name 1) rfl) ?_)
          (Ed.to (ed_sl (ds := [eN b.num, eOm b.mark, eL b.life, eN b.done]) (l := some 3) (u := none) (ed_name 1) (eo_some ed_int) eo_none) rfl) ?_)) hr (fun d hd s H C code fp pn hr => ?_) hP TB rfl scSame.nd (gens_of rfl rfl (by decide +kernel) rfl rfl (nofree (by decide +kernel))) (blkOk_by (N := ["one", "other", "part"]) (sc := defScope (top 36)) (by decide +kernel)) E.any) (by rw [any_false]))) rfl) ⟨rfl, rfl⟩)
      · simp; omega
      · simp; omega
      · have hk : kitB (tyD d) "bool" = some false := by
          rcases List.mem_append.mp hd with z | z
          · rcases List.mem_append.mp z with z | z
            · simp only [List.mem_cons, List.not_mem_nil, or_false] at z
              rcases z with z | z
              · rw [z]; exact k_ib
              · rw [z]
                cases b.mark with
                | none => exact k_nb
                | some _ => exact k_ib
            · obtain ⟨_, _, z⟩ := List.mem_map.mp z
              rw [← z]; exact k_ib
          · rw [List.mem_singleton.mp z]; exact k_ib
        exact ed_isi (T := "bool") (ed_name 2) hk E.isin E.bool (by decide +kernel) (by decide) (by decide))
    fun _ _ _ _ _ _ us hl => match us, hl with | [_, _], _ => rfl
/-! ### need_marks, need_manner -/
def fNeedK (rs : List Sv) (r : Sv) : Prop := ∃ (k : Nat), 1 ≤ k ∧ k ≤ 4 ∧ rs = [.d (eN k)] ∧ r = .d .none
theorem scNeedK : FnScope ["value"] ["value"] (defScope (top 23)) := ⟨rfl, rfl, rfl, by decide +kernel, rfl, by decide +kernel, by decide +kernel⟩
theorem ok_needK (E : Ev K mg) (cNumber : Cal P w K mg base 1 "is_number" (spS K G (Pu fNumber)) []) (h : Dg K mg "need_marks" (top 23)) : Cal P w K mg base 2 "need_marks" (spS K G (Pu fNeedK)) [] :=
  cal_of h (fun f fd F => ok_S F scNeedK (fun rs A ms Post ⟨r, ⟨_, _, _, e, _⟩, _⟩ => by rw [e] <;> rfl) fun c A' outer s H E0 hcd hr rs A ms Post vs Q hR sa ha q => by
    obtain ⟨r, ⟨k, h1, h2, rfl, rfl⟩, rfl, rfl, rfl⟩ := hR
    refine f_skip (x := false) (Et.to (et_not (et_val (ed_pu (rs := [.d (eN k), .d (.int 1), .d (.int 4)]) (r := .d (.bool true)) cNumber hr (ea_cons (ed_name 0) (ea_cons ed_int (ea_cons (ed_gint E.mMarks) ea_nil))) ?_))) rfl) (f_nil (r_end q ⟨rfl, rfl⟩)) rfl
    refine ⟨k, 1, 4, rfl, ?_⟩
    rw [decide_eq_true (by omega), decide_eq_true (by omega)] <;> rfl)
    fun _ _ _ _ _ _ us hl => match us, hl with | [_], _ => rfl
def fNeedMan (rs : List Sv) (r : Sv) : Prop := ∃ (mn : Man), rs = [.d (eMan mn)] ∧ r = .d .none
theorem scNeedMan : FnScope ["value"] ["value"] (defScope (top 39)) := ⟨rfl, rfl, rfl, by decide +kernel, rfl, by decide +kernel, by decide +kernel⟩
theorem ok_needMan (E : Ev K mg) (h : Dg K mg "need_manner" (top 39)) : Cal P w K mg base 1 "need_manner" (spS K G (Pu fNeedMan)) [] :=
  cal_of h (fun f fd F => ok_S F scNeedMan (fun rs A ms Post ⟨r, ⟨_, e, _⟩, _⟩ => by rw [e] <;> rfl) fun c A' outer s H E0 hcd hr rs A ms Post vs Q hR sa ha q => by
    obtain ⟨r, ⟨mn, rfl, rfl⟩, rfl, rfl, rfl⟩ := hR
    refine f_skip (x := false) (Et.to (et_w (ew_or (y := false) (et_not (et_val (ed_isi (T := "str") (ed_name 0) k_ss E.isin E.str (by decide +kernel) (by decide) (by decide)))) fun _ =>
      Ew.to (ew_or1 (et_notInS (x := mS mn) (ss := ["sealed", "late", "early", "counted", "open"]) (ed_name 0) (ed_gtup E.manners) rfl)) ?_)) rfl) (f_nil (r_end q ⟨rfl, rfl⟩)) rfl
    cases mn <;> decide)
    fun _ _ _ _ _ _ us hl => match us, hl with | [_], _ => rfl
end
end Wb

namespace Wb
open PySem PySem.Spec PyProof.Rows L2
section
variable {P : Program} {w : World} {K : PySem.W.Frag} {mg : Str → Option Value} {base : Heap} {G : Addr → Prop}
theorem cal_ofD {x : Str} {st : Stmt} {ps : List Str} {k : Nat} {sp : Sp} {dvs : List V} (h : Dgt K mg base G x st dvs) (hok : ∀ f fd, FunD K x x (defArgs st) (defBody st) (defScope st) dvs [] f fd → (∀ c, fd.code = .ref c → ∃ P, G P ∧ GxR.TabB base mg c P) → FnOk P w K mg base CX0 k f fd ps sp) (n : Nat) (hd : dvs ≠ []) (hn : n + dvs.length = ps.length)
    (hb : ∀ (T : Addr) (kV doc pm : Value) (an : Option Addr) (cdv ct : Value) (us its : List Value), us.length = n → its.length = dvs.length → ∃ k, bindArgs (PySem.W.fnOf x x (defArgs st) (defBody st) (defScope st) (.ref T) kV doc pm an cdv ct) { pos := us } = seqItems? (.ref T) >>= k ∧ k (some its.toArray) = pure (ps.zip (us ++ its))) : Cal P w K mg base k x sp dvs := by
  obtain ⟨f, fd, F, g, ht⟩ := h
  obtain ⟨ds, v, b⟩ := F.binds1 (ps := ps) n 0 hd (by simpa using hn) (by simpa using hb)
  exact ⟨f, fd, ps, ds, hok f fd F ht, g, F.kp, b, by simpa using v⟩
/-! ### need_machine -/
def MachOk (m : Mach) : Prop := 1 ≤ m.length ∧ m.length ≤ 3 ∧ ∀ s ∈ m, s.length ≤ 3 ∧ ∀ o ∈ s, o.1 < m.length ∧ WordOk o.2
theorem House.mach {m : Mach} {k : Nat} {t : Tabl} (h : House m k t) : MachOk m := ⟨h.m1, h.m2, h.st⟩
def fNeedM (rs : List Sv) (r : Sv) : Prop := ∃ (m : Mach), MachOk m ∧ rs = [.d (eM m)] ∧ r = .d .none
theorem scNeedM : FnScope ["value", "index", "state", "option"] ["value"] (defScope (top 16)) := ⟨rfl, rfl, rfl, by decide +kernel, rfl, by decide +kernel, by decide +kernel⟩
theorem ok_needM (E : Ev K mg) (cOption : Cal P w K mg base 4 "is_option" (spS K G (Pu fOption)) []) (h : Dgt K mg base G "need_machine" (top 16) []) : Cal P w K mg base 6 "need_machine" (spS K G (Pu fNeedM)) [] :=
  cal_ofT h (fun f fd F hT => ok_S F scNeedM (fun rs A ms Post ⟨r, ⟨_, _, e, _⟩, _⟩ => by rw [e] <;> rfl) fun c A' outer s H E0 hcd hr rs A ms Post vs Q hR sa ha q => by
    obtain ⟨r, ⟨m, ⟨h1, h2, h3⟩, rfl, rfl⟩, rfl, rfl, rfl⟩ := hR
    obtain ⟨Pt, hP, TB⟩ := hT c hcd
    refine f_skip (x := false) (Et.to (et_w (ew_or (x := false) (y := false) (et_not (b := true) (et_val (ed_isi (T := "tuple") (ed_name 0) k_tt E.isin E.tuple (by decide +kernel) (by decide) (by decide)))) fun _ =>
      Ew.to (ew_or1 (et_not (et_chain (i := 1) (j := ((m.map eS).length : Nat)) (k := 40) ed_int (ed_lenT (ds := m.map eS) E.len (ed_name 0)) (ed_gint E.mStates)))) ?_)) rfl) ?_ rfl
    · rw [List.length_map, decide_eq_true (by omega), decide_eq_true (by omega)] <;> rfl
    refine f_one (f_forE 1 2 [] (ds := m.map eS) (ed_name 0) E.enum (fun n ρ A => A = As.tt ∧ ∃ u v, ρ = [.d (eM m), u, v, .u]) ⟨rfl, .u, .u, rfl⟩ (fun H1 n d ρ A' hd hI => ?_) (fun ρ A' hI => ?_) scNeedM.nd)
    · obtain ⟨rfl, u, v, rfl⟩ := hI
      obtain ⟨st, hst, rfl⟩ := map_at' hd
      have hs := h3 st (List.mem_of_getElem? hst)
      refine f_skip (x := false) (Et.to (et_w (ew_or (x := false) (y := false) (et_not (b := true) (et_val (ed_isi (T := "tuple") (ed_name 2) k_tt E.isin E.tuple (by decide +kernel) (by decide) (by decide)))) fun _ =>
        Ew.to (ew_or1 (et_gt (i := ((st.map eO).length : Nat)) (j := 6) (ed_lenT (ds := st.map eO) E.len (ed_name 2)) (ed_gint E.mOptions))) ?_)) rfl) ?_ rfl
      · have := hs.1
        rw [List.length_map, decide_eq_false (by omega)]
      refine f_skip (x := false) (Et.to (et_not (b := true) (et_val (Ed.to (ed_all 3 (fun _ => true) (ep_tup (ds := st.map eO) (ed_name 2)) hr (fun d hd s H C code fp pn hr => ?_) hP TB rfl scNeedM.nd (gens_of rfl rfl (by decide +kernel) rfl rfl (fun y hy e => ?_)) (blkOk_by (N := ["value", "index", "state", "option"]) (sc := defScope (top 16)) (by decide +kernel)) E.all) (by simp)))) rfl) (f_nil (f_next ⟨rfl, .d (.int (n : Nat)), .d (eS st), rfl⟩)) rfl
      · obtain ⟨o, ho, rfl⟩ := List.mem_map.mp hd
        obtain ⟨h4, h5⟩ := hs.2 o ho
        exact ed_pu (rs := [.d (eO o), .d (eN m.length)]) cOption hr (ea_cons (ed_name 3) (ea_cons (Ed.to (ed_lenT (ds := m.map eS) E.len (ed_name 0)) (by rw [List.length_map] <;> rfl)) ea_nil)) ⟨o, m.length, h4, h5, rfl, rfl⟩
      · have : y.1 = "value" := by
          revert y
          decide +kernel
        rw [this]
        exact ⟨_, rfl⟩
    · obtain ⟨rfl, u, v, rfl⟩ := hI
      exact r_end q ⟨rfl, rfl⟩)
    fun _ _ _ _ _ _ us hl => match us, hl with | [_], _ => rfl
end
end Wb

namespace Wb
open PySem PySem.Spec PyProof.Rows L2
section
variable {P : Program} {w : World} {K : PySem.W.Frag} {mg : Str → Option Value} {base : Heap} {G : Addr → Prop}
/-! ### is_row -/
def RowOk (k : Nat) (r : List Nat) : Prop := 1 ≤ r.length ∧ r.length ≤ 8 ∧ ∀ x ∈ r, x < k
def fRow (rs : List Sv) (r : Sv) : Prop := ∃ (rw_ : List Nat) (k : Nat), RowOk k rw_ ∧ rs = [.d (eL rw_), .d (eN k), .d (.int 8)] ∧ r = .d (.bool true)
theorem scRow : FnScope ["value", "marks", "most", "mark"] ["value", "marks", "most"] (defScope (top 24)) := ⟨rfl, rfl, rfl, by decide +kernel, rfl, by decide +kernel, by decide +kernel⟩
theorem ok_row (E : Ev K mg) (cNumber : Cal P w K mg base 1 "is_number" (spS K G (Pu fNumber)) []) (h : Dgt K mg base G "is_row" (top 24) [.int 8]) : Cal P w K mg base 3 "is_row" (spS K G (Pu fRow)) [.int 8] :=
  cal_ofD h (fun f fd F hT => ok_S F scRow (fun rs A ms Post ⟨r, ⟨_, _, _, e, _⟩, _⟩ => by rw [e] <;> rfl) fun c A' outer s H E0 hcd hr rs A ms Post vs Q hR sa ha q => by
    obtain ⟨r, ⟨l, k, ⟨h1, h2, h3⟩, rfl, rfl⟩, rfl, rfl, rfl⟩ := hR
    obtain ⟨Pt, hP, TB⟩ := hT c hcd
    refine f_skip (x := false) (Et.to (et_w (ew_or (x := false) (y := false) (et_not (b := true) (et_val (ed_isi (T := "tuple") (ed_name 0) k_tt E.isin E.tuple (by decide +kernel) (by decide) (by decide)))) fun _ =>
      Ew.to (ew_or1 (et_not (et_chain (i := 1) (j := ((l.map eN).length : Nat)) (k := 8) ed_int (ed_lenT (ds := l.map eN) E.len (ed_name 0)) (ed_name 2)))) ?_)) rfl) ?_ rfl
    · rw [List.length_map, decide_eq_true (by omega), decide_eq_true (by omega)] <;> rfl
    refine f_one (r_ed q (Ed.to (ed_all 3 (fun _ => true) (ep_tup (ds := l.map eN) (ed_name 0)) hr (fun d hd s H C code fp pn hr => ?_) hP TB rfl scRow.nd (gens_of rfl rfl (by decide +kernel) rfl rfl (fun y hy e => ?_)) (blkOk_by (N := ["value", "marks", "most", "mark"]) (sc := defScope (top 24)) (by decide +kernel)) E.all) (by simp)) ⟨rfl, rfl⟩)
    · obtain ⟨o, ho, rfl⟩ := List.mem_map.mp hd
      have h4 := h3 o ho
      refine Ed.to (ed_pu (rs := [.d (eN o), .d (.int 0), .d (.int ((k : Nat) - 1))]) (r := .d (.bool true)) cNumber hr (ea_cons (ed_name 3) (ea_cons ed_int (ea_cons (ed_sub (ed_name 1) ed_int) ea_nil))) ?_) rfl
      refine ⟨o, 0, k - 1, rfl, ?_⟩
      rw [decide_eq_true (by omega), decide_eq_true (by omega)] <;> rfl
    · have : y.1 = "marks" := by
        revert y
        decide +kernel
      rw [this]
      exact ⟨_, rfl⟩)
    2 (by simp) rfl fun _ _ _ _ _ _ _ us its hl h2 => match us, its, hl, h2 with | [_, _], [_], _, _ => ⟨_, rfl, rfl⟩
/-! ### need_table -/
def fNeedT (rs : List Sv) (r : Sv) : Prop := ∃ (m : Mach) (k : Nat) (t : Tabl), House m k t ∧ rs = [.d (eM m), .d (eN k), .d (eT t)] ∧ r = .d .none
theorem scNeedT : FnScope ["machine", "marks", "value", "index", "rows", "row"] ["machine", "marks", "value"] (defScope (top 25)) := ⟨rfl, rfl, rfl, by decide +kernel, rfl, by decide +kernel, by decide +kernel⟩
theorem ok_needT (E : Ev K mg) (cRow : Cal P w K mg base 3 "is_row" (spS K G (Pu fRow)) [.int 8]) (h : Dgt K mg base G "need_table" (top 25) []) : Cal P w K mg base 5 "need_table" (spS K G (Pu fNeedT)) [] :=
  cal_ofT h (fun f fd F hT => ok_S F scNeedT (fun rs A ms Post ⟨r, ⟨_, _, _, _, e, _⟩, _⟩ => by rw [e] <;> rfl) fun c A' outer s H E0 hcd hr rs A ms Post vs Q hR sa ha q => by
    obtain ⟨r, ⟨m, k, t, hs, rfl, rfl⟩, rfl, rfl, rfl⟩ := hR
    obtain ⟨Pt, hP, TB⟩ := hT c hcd
    have h1 := hs.tl
    have h2 := hs.m2
    refine f_skip (x := false) (Et.to (et_w (ew_or (x := false) (y := false) (et_not (b := true) (et_val (ed_isi (T := "tuple") (ed_name 2) k_tt E.isin E.tuple (by decide +kernel) (by decide) (by decide)))) fun _ =>
      Ew.to (ew_or1 (et_ne (d := eN (t.map eRs).length) (e := eN (m.map eS).length) hr (ed_lenT (ds := t.map eRs) E.len (ed_name 2)) (ed_lenT (ds := m.map eS) E.len (ed_name 0)) rfl rfl)) ?_)) rfl) ?_ rfl
    · rw [eqvN, List.length_map, List.length_map, decide_eq_true h1] <;> rfl
    refine f_one (f_forE 3 4 [] (ds := t.map eRs) (ed_name 2) E.enum (fun n ρ A => A = As.tt ∧ ∃ u v, ρ = [.d (eM m), .d (eN k), .d (eT t), u, v, .u]) ⟨rfl, .u, .u, rfl⟩ (fun H1 n d ρ A' hd hI => ?_) (fun ρ A' hI => ?_) scNeedT.nd)
    · obtain ⟨rfl, u, v, rfl⟩ := hI
      obtain ⟨rs, hrs, rfl⟩ := map_at' hd
      have hn : n < m.length := by rw [← h1]; exact (List.getElem?_eq_some_iff.mp hrs).1
      have hm : m[n]? = some m[n] := List.getElem?_eq_getElem hn
      have hl := hs.rl n m[n] rs hm hrs
      have hro := hs.ro rs (List.mem_of_getElem? hrs)
      refine f_skip (x := false) (Et.to (et_w (ew_or (x := false) (y := false) (et_not (b := true) (et_val (ed_isi (T := "tuple") (ed_name 4) k_tt E.isin E.tuple (by decide +kernel) (by decide) (by decide)))) fun _ =>
        Ew.to (ew_or1 (et_ne (d := eN (rs.map eL).length) (e := eN (m[n].map eO).length) hr (ed_lenT (ds := rs.map eL) E.len (ed_name 4)) (ed_lenT (ds := m[n].map eO) E.len (ed_ix (ds := m.map eS) (d := eS m[n]) (i := n) (ed_name 0) (ed_name 3) (map_at hm))) rfl rfl)) ?_)) rfl) ?_ rfl
      · rw [eqvN, List.length_map, List.length_map, decide_eq_true hl] <;> rfl
      refine f_skip (x := false) (Et.to (et_not (b := true) (et_val (Ed.to (ed_all 5 (fun _ => true) (ep_tup (ds := rs.map eL) (ed_name 4)) hr (fun d hd s H C code fp pn hr => ?_) hP TB rfl scNeedT.nd (gens_of rfl rfl (by decide +kernel) rfl rfl (fun y hy e => ?_)) (blkOk_by (N := ["machine", "marks", "value", "index", "rows", "row"]) (sc := defScope (top 25)) (by decide +kernel)) E.all) (by simp)))) rfl) (f_nil (f_next ⟨rfl, .d (.int (n : Nat)), .d (eRs rs), rfl⟩)) rfl
      · obtain ⟨o, ho, rfl⟩ := List.mem_map.mp hd
        exact ed_puD (rs := [.d (eL o), .d (eN k)]) (ss := [.d (.int 8)]) cRow hr (ea_cons (ed_name 5) (ea_cons (ed_name 1) ea_nil)) (fun H => ⟨⟨_, rfl, .int 8⟩, trivial⟩) ⟨o, k, hro o ho, rfl, rfl⟩
      · have : y.1 = "marks" := by
          revert y
          decide +kernel
        rw [this]
        exact ⟨_, rfl⟩
    · obtain ⟨rfl, u, v, rfl⟩ := hI
      exact r_end q ⟨rfl, rfl⟩)
    fun _ _ _ _ _ _ us hl => match us, hl with | [_, _, _], _ => rfl
/-! ### need_house -/
def fNeedH (rs : List Sv) (r : Sv) : Prop := ∃ (m : Mach) (k : Nat) (t : Tabl), House m k t ∧ rs = [.d (eM m), .d (eN k), .d (eT t)] ∧ r = .d .none
theorem scNeedH : FnScope ["machine", "marks", "table"] ["machine", "marks", "table"] (defScope (top 26)) := ⟨rfl, rfl, rfl, by decide +kernel, rfl, by decide +kernel, by decide +kernel⟩
theorem ok_needH (cM : Cal P w K mg base 6 "need_machine" (spS K G (Pu fNeedM)) []) (cK : Cal P w K mg base 2 "need_marks" (spS K G (Pu fNeedK)) []) (cT : Cal P w K mg base 5 "need_table" (spS K G (Pu fNeedT)) []) (h : Dg K mg "need_house" (top 26)) : Cal P w K mg base 7 "need_house" (spS K G (Pu fNeedH)) [] :=
  cal_of h (fun f fd F => ok_S F scNeedH (fun rs A ms Post ⟨r, ⟨_, _, _, _, e, _⟩, _⟩ => by rw [e] <;> rfl) fun c A' outer s H E0 hcd hr rs A ms Post vs Q hR sa ha q => by
    obtain ⟨r, ⟨m, k, t, hs, rfl, rfl⟩, rfl, rfl, rfl⟩ := hR
    refine f_cons (f_drop (ed_pu (rs := [.d (eM m)]) (r := .d .none) cM hr (ea_cons (ed_name 0) ea_nil) ⟨m, hs.mach, rfl, rfl⟩) ?_)
    refine f_cons (f_drop (ed_pu (rs := [.d (eN k)]) (r := .d .none) cK (hr.mono (by decide)) (ea_cons (ed_name 1) ea_nil) ⟨k, hs.k1, hs.k2, rfl, rfl⟩) ?_)
    exact f_one (f_drop (ed_pu (rs := [.d (eM m), .d (eN k), .d (eT t)]) (r := .d .none) cT (hr.mono (by decide)) (ea_cons (ed_name 0) (ea_cons (ed_name 1) (ea_cons (ed_name 2) ea_nil))) ⟨m, k, t, hs, rfl, rfl⟩) (r_end q ⟨rfl, rfl⟩)))
    fun _ _ _ _ _ _ us hl => match us, hl with | [_, _, _], _ => rfl
end
end Wb

namespace Wb
open PySem PySem.Spec PyProof.Rows L2
/-! ### the class World -/
def wN : List Str := ["machine", "table", "manner", "reading", "notes", "standing", "said", "speakers"]
/-- a world's house and where it stands: the instance, its three lists -/
structure Cf where
  m : Mach
  k : Nat
  t : Tabl
  mn : Man
  hs : House m k t
  w : Addr
  n : Addr
  s : Addr
  p : Addr
  ns : n ≠ s
  np : n ≠ p
  sp : s ≠ p
def Cf.ms (c : Cf) : List Addr := [c.w, c.n, c.s, c.p]
def wFs (c : Cf) (w : Wd) : List Sv := [.d (eM c.m), .d (eT c.t), .d (eMan c.mn), .d (eWh w.wheel), .l c.n (w.shelf.map eNote), .d (eSt w.stand), .l c.s (w.heard.map eH), .l c.p (w.spoken.map eL)]
def aW (G : Addr → Prop) (K : PySem.W.Frag) (C : Addr) (c : Cf) (w : Wd) : As G := As.ins G K c.w C wN (wFs c w)
/-- what is known of the class -/
structure WF (K : PySem.W.Frag) (C : Addr) : Prop where
  cls : Cls K C
  na : ∀ f ∈ wN, NoAttr K C f
def Dm (K : PySem.W.Frag) (C : Addr) (m qual : Str) (st : Stmt) : Prop := ∃ f fd, FunD K m qual (defArgs st) (defBody st) (defScope st) [] [] f fd ∧ Meth K C m f
def Dmt (K : PySem.W.Frag) (mg : Str → Option Value) (base : Heap) (G : Addr → Prop) (C : Addr) (m qual : Str) (st : Stmt) : Prop := ∃ f fd, FunD K m qual (defArgs st) (defBody st) (defScope st) [] [] f fd ∧ Meth K C m f ∧ ∀ c, fd.code = .ref c → ∃ P, G P ∧ GxR.TabB base mg c P
theorem wN_nd : wN.Nodup := by decide +kernel
/-- few things in it -/
def Sz (n : Nat) (w : Wd) : Prop := w.heard.length ≤ n ∧ w.shelf.length ≤ n ∧ w.spoken.length ≤ n
section
variable {P : Program} {w : World} {K : PySem.W.Frag} {mg : Str → Option Value} {base : Heap} {G : Addr → Prop} {C : Addr}
theorem mth_of {m qual : Str} {st : Stmt} {ps : List Str} {k : Nat} {sp : Sp} (h : Dm K C m qual st) (hc : Cls K C) (hok : ∀ f fd, FunD K m qual (defArgs st) (defBody st) (defScope st) [] [] f fd → FnOk P w K mg base CX0 k f fd ps sp)
    (hb : ∀ (kV doc pm : Value) (an : Option Addr) (cdv ct : Value) (us : List Value), us.length = ps.length → bindArgs (PySem.W.fnOf m qual (defArgs st) (defBody st) (defScope st) .none kV doc pm an cdv ct) { pos := us } = pure (ps.zip us)) : Mth P w K mg base k C m sp [] := by
  obtain ⟨f, fd, F, g⟩ := h
  exact ⟨f, fd, ps, [], hok f fd F, hc, g, F.bindsN hb, .nil⟩
theorem mth_ofT {m qual : Str} {st : Stmt} {ps : List Str} {k : Nat} {sp : Sp} (h : Dmt K mg base G C m qual st) (hc : Cls K C) (hok : ∀ f fd, FunD K m qual (defArgs st) (defBody st) (defScope st) [] [] f fd → (∀ c, fd.code = .ref c → ∃ P, G P ∧ GxR.TabB base mg c P) → FnOk P w K mg base CX0 k f fd ps sp)
    (hb : ∀ (kV doc pm : Value) (an : Option Addr) (cdv ct : Value) (us : List Value), us.length = ps.length → bindArgs (PySem.W.fnOf m qual (defArgs st) (defBody st) (defScope st) .none kV doc pm an cdv ct) { pos := us } = pure (ps.zip us)) : Mth P w K mg base k C m sp [] := by
  obtain ⟨f, fd, F, g, t⟩ := h
  exact ⟨f, fd, ps, [], hok f fd F t, hc, g, F.bindsN hb, .nil⟩
/-- self.f -/
theorem ed_w {X : Cx} {ρ : List Sv} {J : As G} {o : Expr} {f : Str} {c : Cf} {wd : Wd} {r : Sv} {pos : Pos} (j : Nat) (W : WF X.K C) (hI : ∀ H, J.P H → (aW G X.K C c wd).P H) (ho : Ed X G o ρ J (.v (.ref c.w))) (hj : wN[j]? = some f := by rfl) (hr : (wFs c wd)[j]? = some r := by rfl) (hb : attributeBase o f X.env (eval o X.env) = eval o X.env := by rfl) : Ed X G (.Attribute o f pos) ρ J r :=
  ed_fld j ho hI W.cls (W.na f (List.mem_of_getElem? hj)) wN_nd hj hr hb
theorem wI {L : List (List Addr × Hp)} {K : PySem.W.Frag} {c : Cf} {wd : Wd} : ∀ H, (Jl L (aW G K C c wd)).P H → (aW G K C c wd).P H := fun _ h => h.2
/-! ### fits -/
def fFits (K : PySem.W.Frag) (C : Addr) : List Sv → As G → List Addr → (Sv → As G → Prop) → Prop := fun rs A ms Post => ∃ (c : Cf) (wd : Wd) (x : Note), rs = [.v (.ref c.w), .d (eNote x)] ∧ A = aW G K C c wd ∧ ms = [] ∧ Post = fun r B => r = .d (.bool (fits c.mn wd x)) ∧ B = aW G K C c wd
theorem scFits : FnScope ["self", "note"] ["self", "note"] (defScope (inClass (top 35) 2)) := ⟨rfl, rfl, rfl, by decide +kernel, rfl, by decide +kernel, by decide +kernel⟩
theorem eqvMan (a b : Man) : PyData.eqv (eMan a) (sS (mS b)) = decide (a = b) := cn_eqvB (n := 0) (cn_Man 0 a) (cn_Man 0 b) ⟨fun h => mS_inj (by unfold eMan sS at h; injection h), fun h => by rw [h] <;> rfl⟩
theorem ok_fits (W : WF K C) (h : Dm K C "fits" "World.fits" (inClass (top 35) 2)) : Mth P w K mg base 1 C "fits" (spS K G (fFits K C)) [] :=
  mth_of h W.cls (fun f fd F => ok_S F scFits (fun rs A ms Post ⟨_, _, _, e, _⟩ => by rw [e] <;> rfl) fun c' A' outer s H E0 hcd hr rs A ms Post vs Q hR sa ha q => by
    obtain ⟨c, wd, x, rfl, rfl, rfl, rfl⟩ := hR
    have es : ∀ mn : Man, SeqAt.shaped (sS (mS mn)) = true := fun mn => cn_shaped (n := 0) (cn_Man 0 mn)
    refine f_cons (f_if (x := decide (c.mn = .opn)) (Et.to (et_eq (d := eMan c.mn) (e := sS (mS .opn)) hr (ed_w (c := c) (wd := wd) 2 W wI (ed_name 0)) ed_str (es _) (es _)) (eqvMan _ _)) (fun e => ?_) fun e => f_nil ?_)
    · have e := of_decide_eq_true e
      refine f_one (r_ed q ed_bl ⟨?_, rfl⟩)
      simp [fits, e]
    have e0 := of_decide_eq_false e
    refine f_cons (f_if (x := decide (c.mn = .counted)) (Et.to (et_eq (d := eMan c.mn) (e := sS (mS .counted)) hr (ed_w (c := c) (wd := wd) 2 W wI (ed_name 0)) ed_str (es _) (es _)) (eqvMan _ _)) (fun e => ?_) fun e => f_nil ?_)
    · have e := of_decide_eq_true e
      refine f_one (r_ed q (ed_eq (d := eN x.num) (e := eN wd.wheel.1) hr (ed_ixc (ds := [eN x.num, eOm x.mark, eL x.life, eN x.done]) (ed_name 1) rfl) (ed_ixc (ds := [eN wd.wheel.1, eOm wd.wheel.2]) (ed_w (c := c) (wd := wd) 3 W wI (ed_name 0)) rfl) rfl rfl) ⟨?_, rfl⟩)
      rw [eqvN]
      simp [fits, e]
    · have e1 := of_decide_eq_false e
      refine f_one (r_ed q (ed_eq (d := eWh (x.num, x.mark)) (e := eWh wd.wheel) hr (Ed.to (ed_sl (ds := [eN x.num, eOm x.mark, eL x.life, eN x.done]) (l := none) (u := some 2) (ed_name 1) eo_none (eo_some ed_int)) rfl) (ed_w (c := c) (wd := wd) 3 W wI (ed_name 0)) (cn_shaped (cn_Wh 0 _)) (cn_shaped (cn_Wh 0 _))) ⟨?_, rfl⟩)
      rw [cn_eqvB (n := 1) (p := (x.num, x.mark) = wd.wheel) (cn_Wh 0 _) (cn_Wh 0 _) ⟨eWh_inj, fun h => by rw [h]⟩]
      unfold fits
      cases hm : c.mn <;> first
        | rfl
        | exact absurd hm e0
        | exact absurd hm e1)
    fun _ _ _ _ _ _ us hl => match us, hl with | [_, _], _ => rfl
/-! ### say -/
/-- a method that changes the world: who asks, what it answers, how it leaves the world -/
def fW (K : PySem.W.Frag) (C : Addr) (f : Cf → Wd → List Sv → PyData → Wd → Prop) : List Sv → As G → List Addr → (Sv → As G → Prop) → Prop := fun rs A ms Post => ∃ (c : Cf) (wd wd' : Wd) (args : List Sv) (res : PyData), f c wd args res wd' ∧ rs = .v (.ref c.w) :: args ∧ A = aW G K C c wd ∧ ms = c.ms ∧ Post = fun r B => r = .d res ∧ B = aW G K C c wd'
def fSay (c : Cf) (wd : Wd) (args : List Sv) (res : PyData) (wd' : Wd) : Prop := ∃ (l : Life) (j : Nat), Lv c.m l ∧ l.length ≤ 1000 ∧ Sz 1000 wd ∧ args = [.d (eL l), .d (eN j)] ∧ res = .none ∧ wd' = say c.m l j wd
theorem scSay : FnScope ["self", "life", "number", "word"] ["self", "life", "number"] (defScope (inClass (top 35) 3)) := ⟨rfl, rfl, rfl, by decide +kernel, rfl, by decide +kernel, by decide +kernel⟩
theorem any_eqv {α : Type} [DecidableEq α] {e : α → PyData} {n : Nat} (hc : ∀ a, cn n (e a) = true) (hi : ∀ a b, e a = e b → a = b) (x : α) (xs : List α) : ((xs.map e).any fun z => z.eqv (e x)) = decide (x ∈ xs) := by
  rw [List.any_map]
  have : (fun z => PyData.eqv z (e x)) ∘ e = fun a => decide (a = x) := by
    funext a
    exact cn_eqvB (hc a) (hc x) ⟨hi a x, fun h => by rw [h]⟩
  rw [this]
  induction xs with
  | nil => rfl
  | cons y ys ih =>
    rw [List.any_cons, ih]
    by_cases h : y = x
    · simp [h]
    · have h' : ¬ x = y := fun z => h z.symm
      simp [h, h']
theorem mu1 {L : List (List Addr × Hp)} {ms : List Addr} {H : Hp} {a : Addr} (h : a ∈ ms) : Mu [(ms, H)] [a] := Mu.cons (fun b hb => .inl (by rw [List.mem_singleton.mp hb]; exact h)) Mu.nil
theorem ok_say (W : WF K C) (cWordOf : Cal P w K mg base 4 "word_of" (spS K G (Pu fWordOf)) []) (h : Dm K C "say" "World.say" (inClass (top 35) 3)) : Mth P w K mg base 5 C "say" (spS K G (fW K C fSay)) [] :=
  mth_of h W.cls (fun f fd F => ok_S F scSay (fun rs A ms Post ⟨_, _, _, _, _, ⟨_, _, _, _, _, e, _⟩, e2, _⟩ => by rw [e2, e] <;> rfl) fun c' A' outer s H E0 hcd hr rs A ms Post vs Q hR sa ha q => by
    obtain ⟨c, wd, wd', args, res, ⟨l, j, h1, h2, ⟨z1, z2, z3⟩, rfl, rfl, rfl⟩, rfl, rfl, rfl, rfl⟩ := hR
    refine f_cons (f_set 3 (ed_pu (rs := [.d (eM c.m), .d (eL l)]) (r := .d (eW (wordOf c.m l))) cWordOf hr (ea_cons (ed_w (c := c) (wd := wd) 0 W wI (ed_name 0)) (ea_cons (ed_name 1) ea_nil)) ⟨c.m, l, h1, h2, rfl, rfl⟩) ?_ scSay.nd)
    cases hw : wordOf c.m l with
    | none =>
      refine f_one (f_if (x := false) (Et.to (et_notN (d := .none) (ed_name 3)) rfl) (fun e => by cases e) fun _ => f_nil (r_end q ⟨rfl, ?_⟩))
      simp [say, hw]
    | some x =>
      refine f_one (f_if (x := true) (Et.to (et_notN (d := .str x) (ed_name 3)) rfl) (fun _ => ?_) fun e => by cases e)
      let w1 : Wd := { wd with heard := wd.heard ++ [(j, x)] }
      refine f_cons (f_appO (p := c.s) (ds := wd.heard.map eH) (d := eH (j, x)) (B := aW G K C c w1) (ed_w (c := c) (wd := wd) 6 W wI (ed_name 0)) (ed_tup (ds := [eN j, .str x]) (ea_cons (ed_name 2) (ea_cons (ed_name 3) ea_nil)) (by simp)) (by rw [List.length_map]; omega) (mu1 (L := []) (by simp [Cf.ms])) ⟨trivial, trivial, trivial, trivial, trivial⟩ (fun H H' hA t g ok => ?_) ?_)
      · have := IAt.lst (G := G) 6 (ds' := wd.heard.map eH ++ [eH (j, x)]) hA rfl (by simp [wFs, OffL, Off, c.ns, c.np, c.sp, Ne.symm c.sp]) t g ok
        show IAt K H' c.w C wN (wFs c w1)
        have e : wFs c w1 = (wFs c wd).set 6 (.l c.s (wd.heard.map eH ++ [eH (j, x)])) := by simp [wFs, w1]
        rw [e]
        exact this
      · refine f_one (f_if (x := !decide (l ∈ wd.spoken)) (Et.to (et_notInL (k := 0) (d := eL l) (ds := wd.spoken.map eL) (hu65 hr) (ed_name 1) (ed_w (c := c) (wd := w1) 7 W wI (ed_name 0)) (cn_shaped (cn_L 0 l)) (cnl_shaped (n := 1) (fun d hd => by obtain ⟨a, _, rfl⟩ := List.mem_map.mp hd; exact cn_L 0 a))) (by rw [any_eqv (n := 1) (cn_L 0) (fun _ _ => eL_inj)] <;> first | rfl | simp)) (fun e => ?_) fun e => ?_)
        · have e1 : ¬ l ∈ wd.spoken := by simpa using e
          let w2 : Wd := { w1 with spoken := wd.spoken ++ [l] }
          refine f_one (f_appO (p := c.p) (ds := wd.spoken.map eL) (d := eL l) (B := aW G K C c w2) (ed_w (c := c) (wd := w1) 7 W wI (ed_name 0)) (ed_name 1) (by rw [List.length_map]; omega) (mu1 (L := []) (by simp [Cf.ms])) ⟨trivial, trivial, trivial, trivial, trivial⟩ (fun H H' hA t g ok => ?_) (r_end q ⟨rfl, ?_⟩))
          · have := IAt.lst (G := G) 7 (ds' := wd.spoken.map eL ++ [eL l]) hA rfl (by simp [wFs, OffL, Off, c.ns, c.np, c.sp, Ne.symm c.sp]) t g ok
            show IAt K H' c.w C wN (wFs c w2)
            have e : wFs c w2 = (wFs c w1).set 7 (.l c.p (wd.spoken.map eL ++ [eL l])) := by simp [wFs, w2]
            rw [e]
            exact this
          · simp [say, hw, w2, w1, e1]
        · have e1 : l ∈ wd.spoken := by simpa using e
          refine f_nil (r_end q ⟨rfl, ?_⟩)
          simp [say, hw, w1, e1])
    fun _ _ _ _ _ _ us hl => match us, hl with | [_, _, _], _ => rfl
end
end Wb

namespace Wb
open PySem PySem.Spec PyProof.Rows L2
section
variable {X : Cx} {G : Addr → Prop} {ρ : List Sv} {D : Ends} {L : List (List Addr × Hp)} {C : Addr} {c : Cf} {wd wd' : Wd} {f : Cf → Wd → List Sv → PyData → Wd → Prop} {k : Nat} {m : Str} {o e : Expr} {es : List Expr} {apos pos : Pos} {pl : Sem Bool} {args : List Sv} {res : PyData}
/-- a method of the world that changes it -/
theorem ek_wm (M : Mth X.prog X.w X.K X.mg X.base k C m (spS X.K G (fW X.K C f)) []) (hr : Room k X.A) (ho : Ed X G o ρ (Jl L (aW G X.K C c wd)) (.v (.ref c.w))) (ha : Ea X G (e :: es) ρ (Jl L (aW G X.K C c wd)) args) (hf : f c wd args res wd') (hm : Mu L c.ms) (hoff : OffL c.ms ρ) (hns : m ∉ wN := by decide)
    (hst : starEach (e :: es) X.env = (false, eval e X.env) :: starEach es X.env := by rfl) (hpl : (backTo pos (starEach es X.env)).any (·.1) = false := by rfl)
    (ht : eval (.Call (.Attribute o m apos) (e :: es) [] pos) X.env = (do
      let ov ← eval o X.env
      standAt apos.atName
      let (f, first) ← holding [ov] (getMethod ov m pl)
      callWith pos f first (backTo pos (starEach (e :: es) X.env)) (backToKw pos (keywordEach [] X.env))) := by rfl) : Ek X G (.Call (.Attribute o m apos) (e :: es) [] pos) ρ (Jl L (aW G X.K C c wd)) (fun r J' => r = .d res ∧ J' = Jl L (aW G X.K C c wd')) :=
  ek_meth (ss := []) (ms := c.ms) (A := aW G X.K C c wd) (P0 := fun r B => r = .d res ∧ B = aW G X.K C c wd') M hr ho (fun H h => h.2) ha (fun _ => trivial) (by rw [List.append_nil]; exact ⟨c, wd, wd', args, res, hf, rfl, rfl, rfl, rfl⟩) (fun H h => h.2) hoff
    (fun r B H H' p j t g b => ⟨_, ⟨p.1, rfl⟩, Jl.step j g hm (by rw [← p.2]; exact b)⟩) hns hst hpl ht
theorem ek_wm0 (M : Mth X.prog X.w X.K X.mg X.base k C m (spS X.K G (fW X.K C f)) []) (hr : Room k X.A) (ho : Ed X G o ρ (Jl L (aW G X.K C c wd)) (.v (.ref c.w))) (hf : f c wd [] res wd') (hm : Mu L c.ms) (hoff : OffL c.ms ρ) (hns : m ∉ wN := by decide)
    (ht : eval (.Call (.Attribute o m apos) [] [] pos) X.env = (do
      let ov ← eval o X.env
      standAt apos.atName
      let (f, first) ← holding [ov] (getMethod ov m pl)
      callWith pos f first (backTo pos (starEach [] X.env)) (backToKw pos (keywordEach [] X.env))) := by rfl) : Ek X G (.Call (.Attribute o m apos) [] [] pos) ρ (Jl L (aW G X.K C c wd)) (fun r J' => r = .d res ∧ J' = Jl L (aW G X.K C c wd')) :=
  ek_meth0 (ss := []) (ms := c.ms) (A := aW G X.K C c wd) (P0 := fun r B => r = .d res ∧ B = aW G X.K C c wd') M hr ho (fun H h => h.2) (fun _ => trivial) ⟨c, wd, wd', [], res, hf, rfl, rfl, rfl, rfl⟩ (fun H h => h.2) hoff
    (fun r B H H' p j t g b => ⟨_, ⟨p.1, rfl⟩, Jl.step j g hm (by rw [← p.2]; exact b)⟩) hns ht
/-- .. as a statement -/
theorem f_dropW {st : Expr} {pos : Pos} (h : Ek X G st ρ (Jl L (aW G X.K C c wd)) (fun r J' => r = .d res ∧ J' = Jl L (aW G X.K C c wd'))) (kk : Fin X D.nx ρ (Jl L (aW G X.K C c wd'))) (hs : swapsWith st none pos.line X.env = pure false := by rfl) : Fin X (cS X (.Expr st pos) D) ρ (Jl L (aW G X.K C c wd)) :=
  f_dropK h (fun r J' p => by rw [p.2]; exact kk) hs
/-- self.f = e -/
theorem f_fldW (j : Nat) {f : Str} {r : Sv} {pos pos' : Pos} (W : WF X.K C) (he : Ed X G e ρ (Jl L (aW G X.K C c wd)) r) (ho : Ed X G o ρ (Jl L (aW G X.K C c wd)) (.v (.ref c.w))) (hm : Mu L c.ms) (hw : (wFs c wd).set j r = wFs c wd') (kk : Fin X D.nx ρ (Jl L (aW G X.K C c wd'))) (hj : wN[j]? = some f := by rfl)
    (hs : swapsWith e (some (.Attribute o f pos')) pos.line X.env = pure false := by rfl) : Fin X (cS X (.Assign [.Attribute o f pos'] e pos) D) ρ (Jl L (aW G X.K C c wd)) :=
  f_fld (.old j wN_nd hj) he ho (fun H h => h) W.cls (W.na f (List.mem_of_getElem? hj)) (fun p hp a ha => hm p hp a (by rw [List.mem_singleton.mp ha]; simp [Cf.ms])) (fun H H' _ _ _ h => by rw [hw] at h; exact h) kk (by decide) hs
end
section
variable {P : Program} {w : World} {K : PySem.W.Frag} {mg : Str → Option Value} {base : Heap} {G : Addr → Prop} {C : Addr}
theorem muS {c : Cf} {H : Hp} : Mu [(c.ms, H)] c.ms := Mu.cons (fun _ h => .inl h) Mu.nil
/-! ### seal -/
def fSeal (c : Cf) (wd : Wd) (args : List Sv) (res : PyData) (wd' : Wd) : Prop := ∃ (x : Note), Sz 1000 wd ∧ args = [.d (eNote x)] ∧ res = .none ∧ wd' = sealN x wd
theorem scSeal : FnScope ["self", "note"] ["self", "note"] (defScope (inClass (top 35) 4)) := ⟨rfl, rfl, rfl, by decide +kernel, rfl, by decide +kernel, by decide +kernel⟩
theorem ok_seal (W : WF K C) (h : Dm K C "seal" "World.seal" (inClass (top 35) 4)) : Mth P w K mg base 1 C "seal" (spS K G (fW K C fSeal)) [] :=
  mth_of h W.cls (fun f fd F => ok_S F scSeal (fun rs A ms Post ⟨_, _, _, _, _, ⟨_, _, e, _⟩, e2, _⟩ => by rw [e2, e] <;> rfl) fun c' A' outer s H E0 hcd hr rs A ms Post vs Q hR sa ha q => by
    obtain ⟨c, wd, wd', args, res, ⟨x, ⟨z1, z2, z3⟩, rfl, rfl, rfl⟩, rfl, rfl, rfl, rfl⟩ := hR
    refine f_one (f_if (x := !decide (x ∈ wd.shelf)) (Et.to (et_notInL (k := 0) (d := eNote x) (ds := wd.shelf.map eNote) (hu65 hr) (ed_name 1) (ed_w (c := c) (wd := wd) 4 W wI (ed_name 0)) (cn_shaped (cn_Note 0 x)) (cnl_shaped (n := 2) (fun d hd => by obtain ⟨a, _, rfl⟩ := List.mem_map.mp hd; exact cn_Note 0 a))) (by rw [any_eqv (n := 2) (cn_Note 0) (fun _ _ => eNote_inj)] <;> first | rfl | simp)) (fun e => ?_) fun e => ?_)
    · have e1 : ¬ x ∈ wd.shelf := by simpa using e
      refine f_one (f_appO (p := c.n) (ds := wd.shelf.map eNote) (d := eNote x) (B := aW G K C c (sealN x wd)) (ed_w (c := c) (wd := wd) 4 W wI (ed_name 0)) (ed_name 1) (by rw [List.length_map]; omega) (mu1 (L := []) (by simp [Cf.ms])) ⟨trivial, trivial, trivial⟩ (fun H H' hA t g ok => ?_) (r_end q ⟨rfl, rfl⟩))
      have := IAt.lst (G := G) 4 (ds' := wd.shelf.map eNote ++ [eNote x]) hA rfl (by simp [wFs, OffL, Off, c.ns, c.np, c.sp, Ne.symm c.ns, Ne.symm c.np]) t g ok
      show IAt K H' c.w C wN (wFs c (sealN x wd))
      have e : wFs c (sealN x wd) = (wFs c wd).set 4 (.l c.n (wd.shelf.map eNote ++ [eNote x])) := by simp [wFs, sealN, e1]
      rw [e]
      exact this
    · have e1 : x ∈ wd.shelf := by simpa using e
      refine f_nil (r_end q ⟨rfl, ?_⟩)
      simp [sealN, e1])
    fun _ _ _ _ _ _ us hl => match us, hl with | [_, _], _ => rfl
/-! ### come_to -/
def fCome (c : Cf) (wd : Wd) (args : List Sv) (res : PyData) (wd' : Wd) : Prop := ∃ (l : Life) (d : Nat), Lv c.m l ∧ l.length ≤ 1000 ∧ d ≤ (rowOf c.m c.t l).length ∧ Sz 900 wd ∧ args = [.d (eL l), .d (eN d)] ∧ res = .none ∧ wd' = come c.mn c.m c.t l d wd
theorem scCome : FnScope ["self", "life", "done", "row", "note"] ["self", "life", "done"] (defScope (inClass (top 35) 5)) := ⟨rfl, rfl, rfl, by decide +kernel, rfl, by decide +kernel, by decide +kernel⟩
theorem Sz.mono {n k : Nat} {wd : Wd} (h : Sz n wd) (hk : n ≤ k := by decide) : Sz k wd := ⟨Nat.le_trans h.1 hk, Nat.le_trans h.2.1 hk, Nat.le_trans h.2.2 hk⟩
theorem eN1 (n : Nat) : Sv.d (.int ((n : Int) + 1)) = Sv.d (eN (n + 1)) := by simp [eN]
theorem es_man (mn : Man) : SeqAt.shaped (sS (mS mn)) = true := cn_shaped (n := 0) (cn_Man 0 mn)
theorem ok_come (E : Ev K mg) (W : WF K C) (cRowOf : Cal P w K mg base 4 "row_of" (spS K G (Pu fRowOf)) []) (mSay : Mth P w K mg base 5 C "say" (spS K G (fW K C fSay)) []) (mSeal : Mth P w K mg base 1 C "seal" (spS K G (fW K C fSeal)) []) (h : Dm K C "come_to" "World.come_to" (inClass (top 35) 5)) : Mth P w K mg base 6 C "come_to" (spS K G (fW K C fCome)) [] :=
  mth_of h W.cls (fun f fd F => ok_S F scCome (fun rs A ms Post ⟨_, _, _, _, _, ⟨_, _, _, _, _, _, e, _⟩, e2, _⟩ => by rw [e2, e] <;> rfl) fun c' A' outer s H E0 hcd hr rs A ms Post vs Q hR sa ha q => by
    obtain ⟨c, wd, wd', args, res, ⟨l, d, h1, h2, h3, hz, rfl, rfl, rfl⟩, rfl, rfl, rfl, rfl⟩ := hR
    refine f_cons (f_set 3 (r := .d (eL (rowOf c.m c.t l))) (ed_if (x := decide (l = [])) (Et.to (et_eq (d := eL l) (e := .tuple []) hr (ed_name 1) (ed_tup (ds := []) ea_nil (by decide)) (cn_shaped (cn_L 0 l)) rfl) (eqvL0 l)) (fun e => ?_) (fun e => ?_)) ?_ scCome.nd)
    · rw [of_decide_eq_true e]
      exact ed_tup (ds := []) ea_nil (by decide)
    · exact ed_pu (rs := [.d (eM c.m), .d (eT c.t), .d (eL l)]) cRowOf (hr.mono (by decide)) (ea_cons (ed_w (c := c) (wd := wd) 0 W wI (ed_name 0)) (ea_cons (ed_w (c := c) (wd := wd) 1 W wI (ed_name 0)) (ea_cons (ed_name 1) ea_nil))) ⟨c.m, c.k, c.t, l, c.hs, h1, of_decide_eq_false e, h2, rfl, rfl⟩
    refine f_one (f_if (x := decide (d = (rowOf c.m c.t l).length)) (Et.to (et_eq (d := eN d) (e := eN ((rowOf c.m c.t l).map eN).length) hr (ed_name 2) (ed_lenT (ds := (rowOf c.m c.t l).map eN) E.len (ed_name 3)) rfl rfl) (by rw [eqvN, List.length_map])) (fun e => ?_) fun e => ?_)
    · have ed := of_decide_eq_true e
      refine f_cons (f_if (x := !decide (c.mn = .early)) (Et.to (et_ne (d := eMan c.mn) (e := sS (mS .early)) hr (ed_w (c := c) (wd := wd) 2 W wI (ed_name 0)) ed_str (es_man _) (es_man _)) (by rw [eqvMan])) (fun e => ?_) fun e => f_nil ?_)
      · have e1 : ¬ c.mn = .early := by simpa using e
        refine f_one (f_dropW (ek_wm (wd' := say c.m l wd.wheel.1 wd) mSay hr (ed_name 0) (ea_cons (ed_name 1) (ea_cons (ed_ixc (ds := [eN wd.wheel.1, eOm wd.wheel.2]) (d := eN wd.wheel.1) (ed_w (c := c) (wd := wd) 3 W wI (ed_name 0)) rfl) ea_nil)) ⟨l, wd.wheel.1, h1, h2, hz.mono, rfl, rfl, rfl⟩ muS ⟨trivial, trivial, trivial, trivial, trivial, trivial⟩) (f_one (f_fldW (wd' := { say c.m l wd.wheel.1 wd with stand := .choice l }) 5 W (ed_tup (ds := [sS "choice", eL l]) (ea_cons ed_str (ea_cons (ed_name 1) ea_nil)) (by simp)) (ed_name 0) muS rfl (r_end q ⟨rfl, congrArg (aW G K C c) ?_⟩))))
        simp [come, ed, e1]
      · have e1 : c.mn = .early := by simpa using e
        refine (f_one (f_fldW (wd' := { wd with stand := .choice l }) 5 W (ed_tup (ds := [sS "choice", eL l]) (ea_cons ed_str (ea_cons (ed_name 1) ea_nil)) (by simp)) (ed_name 0) muS rfl (r_end q ⟨rfl, congrArg (aW G K C c) ?_⟩)))
        simp [come, ed, e1]
    have ed := of_decide_eq_false e
    refine f_one (f_if (x := decide (c.mn = .late)) (Et.to (et_eq (d := eMan c.mn) (e := sS (mS .late)) hr (ed_w (c := c) (wd := wd) 2 W wI (ed_name 0)) ed_str (es_man _) (es_man _)) (by rw [eqvMan])) (fun e => ?_) fun e => ?_)
    · have e1 := of_decide_eq_true e
      refine f_one (f_fldW (wd' := { wd with stand := .ready l d }) 5 W (ed_tup (ds := [sS "ready", eL l, eN d]) (ea_cons ed_str (ea_cons (ed_name 1) (ea_cons (ed_name 2) ea_nil))) (by simp)) (ed_name 0) muS rfl (r_end q ⟨rfl, congrArg (aW G K C c) ?_⟩))
      simp [come, ed, e1]
    have e1 := of_decide_eq_false e
    have hd : d < (rowOf c.m c.t l).length := by omega
    have hx : (rowOf c.m c.t l)[d]? = some (rowOf c.m c.t l)[d] := List.getElem?_eq_getElem hd
    refine f_cons (f_set 4 (r := .d (eNote ⟨wd.wheel.1 + 1, (rowOf c.m c.t l)[d]?, l, d + 1⟩)) (Ed.to (ed_tup (ds := [eN (wd.wheel.1 + 1), eN (rowOf c.m c.t l)[d], eL l, eN (d + 1)]) (ea_cons (Ed.to (ed_add (ed_ixc (ds := [eN wd.wheel.1, eOm wd.wheel.2]) (d := eN wd.wheel.1) (ed_w (c := c) (wd := wd) 3 W wI (ed_name 0)) rfl) ed_int) (eN1 _))
      (ea_cons (ed_ix (ds := (rowOf c.m c.t l).map eN) (i := d) (ed_name 3) (ed_name 2) (map_at hx)) (ea_cons (ed_name 1) (ea_cons (Ed.to (ed_add (ed_name 2) ed_int) (eN1 _)) ea_nil)))) (by simp)) (by rw [hx] <;> rfl)) ?_ scCome.nd)
    generalize hnote : (⟨wd.wheel.1 + 1, (rowOf c.m c.t l)[d]?, l, d + 1⟩ : Note) = x
    have hxn : x.num = wd.wheel.1 + 1 := by rw [← hnote]
    refine f_cons (f_dropW (ek_wm (wd' := sealN x wd) mSeal (hr.mono (by decide)) (ed_name 0) (ea_cons (ed_name 4) ea_nil) ⟨x, hz.mono, rfl, rfl, rfl⟩ muS ⟨trivial, trivial, trivial, trivial, trivial, trivial⟩) ?_)
    have hz1 : Sz 1000 (sealN x wd) := by
      obtain ⟨a, b, g⟩ := hz
      refine ⟨?_, ?_, ?_⟩
      · show wd.heard.length ≤ 1000; omega
      · show (if x ∈ wd.shelf then wd.shelf else wd.shelf ++ [x]).length ≤ 1000
        by_cases z : x ∈ wd.shelf
        · rw [if_pos z]; omega
        · rw [if_neg z]; simp; omega
      · show wd.spoken.length ≤ 1000; omega
    refine f_cons (f_if (x := decide (c.mn = .early) && decide (d + 1 = (rowOf c.m c.t l).length)) (et_w (ew_and (Et.to (et_eq (d := eMan c.mn) (e := sS (mS .early)) hr (ed_w (c := c) (wd := sealN x wd) 2 W wI (ed_name 0)) ed_str (es_man _) (es_man _)) (by rw [eqvMan])) fun _ => ew_and1 (Et.to (et_eq (d := eN (d + 1)) (e := eN ((rowOf c.m c.t l).map eN).length) hr (Ed.to (ed_add (ed_name 2) ed_int) (eN1 _)) (ed_lenT (ds := (rowOf c.m c.t l).map eN) E.len (ed_name 3)) rfl rfl) (by rw [eqvN, List.length_map])))) (fun e => ?_) fun e => f_nil ?_)
    · have e2 : c.mn = .early ∧ d + 1 = (rowOf c.m c.t l).length := by simpa using e
      refine f_one (f_dropW (ek_wm (wd' := say c.m l (wd.wheel.1 + 1) (sealN x wd)) mSay hr (ed_name 0) (ea_cons (ed_name 1) (ea_cons (ed_ixc (ds := [eN x.num, eOm x.mark, eL x.life, eN x.done]) (d := eN x.num) (ed_name 4) rfl) ea_nil)) ⟨l, wd.wheel.1 + 1, h1, h2, hz1, by rw [hxn], rfl, rfl⟩ muS ⟨trivial, trivial, trivial, trivial, trivial, trivial⟩) (f_one (f_fldW (wd' := { say c.m l (wd.wheel.1 + 1) (sealN x wd) with stand := .sealed x }) 5 W (ed_tup (ds := [sS "sealed", eNote x]) (ea_cons ed_str (ea_cons (ed_name 4) ea_nil)) (by simp)) (ed_name 0) muS rfl (r_end q ⟨rfl, congrArg (aW G K C c) ?_⟩))))
      unfold come
      rw [if_neg ed, if_neg e1, if_pos e2, hnote]
    · have e2 : ¬ (c.mn = .early ∧ d + 1 = (rowOf c.m c.t l).length) := by
        intro z
        rw [decide_eq_true z.1, decide_eq_true z.2] at e
        cases e
      refine (f_one (f_fldW (wd' := { sealN x wd with stand := .sealed x }) 5 W (ed_tup (ds := [sS "sealed", eNote x]) (ea_cons ed_str (ea_cons (ed_name 4) ea_nil)) (by simp)) (ed_name 0) muS rfl (r_end q ⟨rfl, congrArg (aW G K C c) ?_⟩)))
      unfold come
      rw [if_neg ed, if_neg e1, if_neg e2, hnote])
    fun _ _ _ _ _ _ us hl => match us, hl with | [_, _, _], _ => rfl
end
end Wb

namespace Wb
open PySem PySem.Spec PyProof.Rows L2
def tagS : Stand → Str
  | .off => "off"
  | .mute => "mute"
  | .choice _ => "choice"
  | .sealed _ => "sealed"
  | .ready _ _ => "ready"
  | .bare _ _ => "bare"
def restS : Stand → List PyData
  | .off => []
  | .mute => []
  | .choice l => [eL l]
  | .sealed n => [eNote n]
  | .ready l d => [eL l, eN d]
  | .bare l d => [eL l, eN d]
theorem eSt_tup (s : Stand) : eSt s = .tuple (sS (tagS s) :: restS s) := by cases s <;> rfl
def isCh : Stand → Bool
  | .choice _ => true
  | _ => false
def isSe : Stand → Bool
  | .sealed _ => true
  | _ => false
def isRe : Stand → Bool
  | .ready _ _ => true
  | _ => false
def isBa : Stand → Bool
  | .bare _ _ => true
  | _ => false
theorem tg_ch (s : Stand) : PyData.eqv (sS (tagS s)) (sS "choice") = isCh s := by cases s <;> rfl
theorem tg_se (s : Stand) : PyData.eqv (sS (tagS s)) (sS "sealed") = isSe s := by cases s <;> rfl
theorem tg_re (s : Stand) : PyData.eqv (sS (tagS s)) (sS "ready") = isRe s := by cases s <;> rfl
theorem tg_ba (s : Stand) : PyData.eqv (sS (tagS s)) (sS "bare") = isBa s := by cases s <;> rfl
theorem tg_shaped (s : Stand) : SeqAt.shaped (sS (tagS s)) = true := by
  cases s
  · exact (show SeqAt.shaped (sS "off") = true by decide +kernel)
  · exact (show SeqAt.shaped (sS "mute") = true by decide +kernel)
  · exact (show SeqAt.shaped (sS "choice") = true by decide +kernel)
  · exact (show SeqAt.shaped (sS "sealed") = true by decide +kernel)
  · exact (show SeqAt.shaped (sS "ready") = true by decide +kernel)
  · exact (show SeqAt.shaped (sS "bare") = true by decide +kernel)

theorem eqvOff (s : Stand) : PyData.eqv (eSt s) (eSt .off) = isOff s := by
  rw [cn_eqvB (n := 3) (p := s = .off) (cn_St 0 s) (cn_St 0 .off) ⟨eSt_inj, fun h => by rw [h]⟩]
  cases s <;> rfl
def nxtW (c : Cf) (wd : Wd) (s : Stp) : Wd := if doable c.m wd s = true then stp c.mn c.m c.t s wd else wd
theorem Ok.sz {m : Mach} {t : Tabl} {n : Nat} {wd : Wd} (h : Ok m t n wd) (hn : n ≤ 400) : Sz 900 wd := ⟨Nat.le_trans h.he (by omega), Nat.le_trans h.shl (by omega), Nat.le_trans h.spl (by omega)⟩
section
variable {P : Program} {w : World} {K : PySem.W.Frag} {mg : Str → Option Value} {base : Heap} {G : Addr → Prop} {C : Addr}
/-! ### boot -/
def fBoot (c : Cf) (wd : Wd) (args : List Sv) (res : PyData) (wd' : Wd) : Prop := ∃ (n : Nat) (x : Note), n ≤ 400 ∧ Ok c.m c.t n wd ∧ x.life.length ≤ 1000 ∧ args = [.d (eNote x)] ∧ res = .bool (doable c.m wd (.boot x)) ∧ wd' = nxtW c wd (.boot x)
theorem scBoot : FnScope ["self", "note", "one"] ["self", "note"] (defScope (inClass (top 35) 6)) := ⟨rfl, rfl, rfl, by decide +kernel, rfl, by decide +kernel, by decide +kernel⟩
theorem ok_boot (E : Ev K mg) (W : WF K C) (cSame : Cal P w K mg base 2 "is_same_note" (spS K G (Pu fSame)) []) (mFits : Mth P w K mg base 1 C "fits" (spS K G (fFits K C)) []) (mCome : Mth P w K mg base 6 C "come_to" (spS K G (fW K C fCome)) []) (h : Dmt K mg base G C "boot" "World.boot" (inClass (top 35) 6)) : Mth P w K mg base 7 C "boot" (spS K G (fW K C fBoot)) [] :=
  mth_ofT h W.cls (fun f fd F hT => ok_S F scBoot (fun rs A ms Post ⟨_, _, _, _, _, ⟨_, _, _, _, _, e, _⟩, e2, _⟩ => by rw [e2, e] <;> rfl) fun c' A' outer s H E0 hcd hr rs A ms Post vs Q hR sa ha q => by
    obtain ⟨c, wd, wd', args, res, ⟨n, x, hn, hok, hx5, rfl, rfl, rfl⟩, rfl, rfl, rfl, rfl⟩ := hR
    obtain ⟨Pt, hP, TB⟩ := hT c' hcd
    refine f_cons (f_if (x := !isOff wd.stand || !decide (x ∈ wd.shelf)) (et_w (ew_or (Et.to (et_ne (d := eSt wd.stand) (e := eSt .off) hr (ed_w (c := c) (wd := wd) 5 W wI (ed_name 0)) (ed_gtup E.off) (cn_shaped (cn_St 0 _)) (cn_shaped (cn_St 0 _))) (by rw [eqvOff])) fun _ => ew_or1 (et_not (et_val (Ed.to (ed_any (k := 5) 2 (fun d => PyData.eqv d (eNote x)) (ep_lst (ms := []) (a := c.n) (ds := wd.shelf.map eNote) (ed_w (c := c) (wd := wd) 4 W wI (ed_name 0)) (by simp)) (hr.mono (by decide)) (fun d hd s H C code fp pn hr => ?_) hP TB rfl scBoot.nd (gens_of rfl rfl (by decide +kernel) rfl rfl (fun y hy e => ?_)) (blkOk_by (N := ["self", "note", "one"]) (sc := defScope (inClass (top 35) 6)) (by decide +kernel)) E.any) ?_))))) (fun e => ?_) fun e => f_nil ?_)
    · obtain ⟨o, ho, rfl⟩ := List.mem_map.mp hd
      have e : PyData.eqv (eNote o) (eNote x) = decide (o = x) := cn_eqvB (n := 2) (cn_Note 0 o) (cn_Note 0 x) ⟨eNote_inj, fun h => by rw [h]⟩
      rw [e]
      exact ed_pu (rs := [.d (eNote o), .d (eNote x)]) cSame (hr.mono (by decide)) (ea_cons (ed_name 2) (ea_cons (ed_name 1) ea_nil)) ⟨o, x, hx5, rfl, rfl⟩
    · have : y.1 = "note" := by
        revert y
        decide +kernel
      rw [this]
      exact ⟨_, rfl⟩
    · rw [any_eqv (n := 2) (cn_Note 0) (fun _ _ => eNote_inj)] <;> first | rfl | simp
    · have hd : doable c.m wd (.boot x) = false := by
        unfold doable
        cases h1 : isOff wd.stand with
        | false => rfl
        | true => rw [h1] at e; simpa using e
      refine f_one (r_ed q ed_bl ⟨by rw [hd], congrArg (aW G K C c) ?_⟩)
      unfold nxtW
      rw [hd]
      rfl
    · have hd : doable c.m wd (.boot x) = true := by
        unfold doable
        cases h1 : isOff wd.stand with
        | false => rw [h1] at e; cases e
        | true => rw [h1] at e; simpa using e
      have hmem : x ∈ wd.shelf := by simp [doable] at hd; exact hd.2
      have ho := hok.sh x hmem
      have hw : nxtW c wd (.boot x) = stp c.mn c.m c.t (.boot x) wd := by unfold nxtW; rw [hd] <;> rfl
      refine f_cons (f_if (x := fits c.mn wd x) (et_val (ed_meth (ss := []) (A := aW G K C c wd) (P0 := fun r B => r = .d (.bool (fits c.mn wd x)) ∧ B = aW G K C c wd) mFits (hr.mono (by decide)) (ed_name 0) wI (ea_cons (ed_name 1) ea_nil) (fun _ => trivial) (by rw [List.append_nil]; exact ⟨c, wd, x, rfl, rfl, rfl, rfl⟩) wI (fun _ _ h => h.1))) (fun e => ?_) fun e => ?_)
      · refine f_one (f_dropW (ek_wm (wd' := come c.mn c.m c.t x.life x.done wd) mCome hr (ed_name 0) (ea_cons (ed_ixc (ds := [eN x.num, eOm x.mark, eL x.life, eN x.done]) (d := eL x.life) (ed_name 1) rfl) (ea_cons (ed_ixc (ds := [eN x.num, eOm x.mark, eL x.life, eN x.done]) (d := eN x.done) (ed_name 1) rfl) ea_nil)) ⟨x.life, x.done, ho.1, Nat.le_trans ho.2.2 (by omega), ho.2.1, hok.sz hn, rfl, rfl, rfl⟩ muS ⟨trivial, trivial, trivial, trivial⟩) (f_one (r_ed q ed_bl ⟨by rw [hd], congrArg (aW G K C c) ?_⟩)))
        rw [hw]
        simp [stp, e]
      · refine f_one (f_fldW (wd' := { wd with stand := .mute }) 5 W (ed_gtup E.mute) (ed_name 0) muS rfl (f_one (r_ed q ed_bl ⟨by rw [hd], congrArg (aW G K C c) ?_⟩)))
        rw [hw]
        simp [stp, e])
    fun _ _ _ _ _ _ us hl => match us, hl with | [_, _], _ => rfl
/-! ### ask -/
def fAsk (c : Cf) (wd : Wd) (args : List Sv) (res : PyData) (wd' : Wd) : Prop := ∃ (n o : Nat), n ≤ 400 ∧ Ok c.m c.t n wd ∧ args = [.d (eN o)] ∧ res = .bool (doable c.m wd (.ask o)) ∧ wd' = nxtW c wd (.ask o)
theorem scAsk : FnScope ["self", "option", "life"] ["self", "option"] (defScope (inClass (top 35) 7)) := ⟨rfl, rfl, rfl, by decide +kernel, rfl, by decide +kernel, by decide +kernel⟩
theorem ok_ask (E : Ev K mg) (W : WF K C) (cNumber : Cal P w K mg base 1 "is_number" (spS K G (Pu fNumber)) []) (cBehind : Cal P w K mg base 3 "state_behind" (spS K G (Pu fBehind)) []) (mCome : Mth P w K mg base 6 C "come_to" (spS K G (fW K C fCome)) []) (h : Dm K C "ask" "World.ask" (inClass (top 35) 7)) : Mth P w K mg base 7 C "ask" (spS K G (fW K C fAsk)) [] :=
  mth_of h W.cls (fun f fd F => ok_S F scAsk (fun rs A ms Post ⟨_, _, _, _, _, ⟨_, _, _, _, e, _⟩, e2, _⟩ => by rw [e2, e] <;> rfl) fun c' A' outer s H E0 hcd hr rs A ms Post vs Q hR sa ha q => by
    obtain ⟨c, wd, wd', args, res, ⟨n, o, hn, hok, rfl, rfl, rfl⟩, rfl, rfl, rfl, rfl⟩ := hR
    refine f_cons (f_if (x := !isCh wd.stand) (Et.to (et_ne (d := sS (tagS wd.stand)) (e := sS "choice") hr (ed_ixc (ds := sS (tagS wd.stand) :: restS wd.stand) (Ed.to (ed_w (c := c) (wd := wd) 5 W wI (ed_name 0)) (by rw [eSt_tup])) rfl) ed_str (tg_shaped _) (tg_shaped (.choice []))) (by rw [tg_ch])) (fun e => ?_) fun e => f_nil ?_)
    · have hd : doable c.m wd (.ask o) = false := by
        unfold doable
        cases h1 : wd.stand <;> first
          | rfl
          | (rw [h1] at e; cases e)
      refine f_one (r_ed q ed_bl ⟨by rw [hd], congrArg (aW G K C c) ?_⟩)
      unfold nxtW
      rw [hd]
      rfl
    cases h1 : wd.stand with
    | choice l =>
      have st := hok.st
      rw [h1] at st
      have hb := c.hs.lt st.1
      have hm : c.m[behind c.m l]? = some c.m[behind c.m l] := List.getElem?_eq_getElem hb
      have hmany := many_of hm
      have hd : doable c.m wd (.ask o) = decide (o < many c.m (behind c.m l)) := by unfold doable; rw [h1]
      have hl5 : l.length ≤ 1000 := Nat.le_trans st.2 (by omega)
      refine f_cons (f_set 2 (r := .d (eL l)) (ed_ixc (ds := [sS "choice", eL l]) (Ed.to (ed_w (c := c) (wd := wd) 5 W wI (ed_name 0)) (by rw [h1] <;> rfl)) rfl) ?_ scAsk.nd)
      refine f_cons (f_if (x := !decide (o < many c.m (behind c.m l))) (Et.to (et_not (et_val (ed_pu (rs := [.d (eN o), .d (.int 0), .d (.int (((c.m[behind c.m l].map eO).length : Nat) - 1))]) (r := .d (.bool (decide (o < many c.m (behind c.m l))))) cNumber (hr.mono (by decide)) (ea_cons (ed_name 1) (ea_cons ed_int (ea_cons (ed_sub (ed_lenT (ds := c.m[behind c.m l].map eO) E.len (ed_ix (ds := c.m.map eS) (d := eS c.m[behind c.m l]) (i := behind c.m l) (ed_w (c := c) (wd := wd) 0 W wI (ed_name 0)) (ed_pu (rs := [.d (eM c.m), .d (eL l)]) cBehind (hr.mono (by decide)) (ea_cons (ed_w (c := c) (wd := wd) 0 W wI (ed_name 0)) (ea_cons (ed_name 2) ea_nil)) ⟨c.m, l, st.1, hl5, rfl, rfl⟩) (map_at hm))) ed_int) ea_nil))) ?_))) rfl) (fun e => ?_) fun e => f_nil ?_)
      · refine ⟨o, 0, _, rfl, ?_⟩
        rw [List.length_map, hmany, decide_eq_true (p := (0 : Int) ≤ (o : Int)) (by omega), Bool.true_and]
        congr 2
        by_cases z : o < c.m[behind c.m l].length
        · rw [decide_eq_true z, decide_eq_true (by omega)]
        · rw [decide_eq_false z, decide_eq_false (by omega)]
      · have hd' : doable c.m wd (.ask o) = false := by rw [hd]; simpa using e
        refine f_one (r_ed q ed_bl ⟨by rw [hd'], congrArg (aW G K C c) ?_⟩)
        unfold nxtW
        rw [hd']
        rfl
      · have hlt : o < many c.m (behind c.m l) := by simpa using e
        have hd' : doable c.m wd (.ask o) = true := by rw [hd]; exact decide_eq_true hlt
        refine f_cons (f_dropW (ek_wm (wd' := come c.mn c.m c.t (l ++ [o]) 0 wd) mCome hr (ed_name 0) (ea_cons (r := .d (eL (l ++ [o]))) (Ed.to (ed_cat (ds := l.map eN) (es := [eN o]) (ed_name 2) (ed_tup (ds := [eN o]) (ea_cons (ed_name 1) ea_nil) (by simp)) (by simp; omega)) (by simp [eL])) (ea_cons ed_int ea_nil)) ⟨l ++ [o], 0, lv_snoc.mpr ⟨st.1, hlt⟩, by have := st.2; simp; omega, Nat.zero_le _, hok.sz hn, rfl, rfl, rfl⟩ muS ⟨trivial, trivial, trivial, trivial⟩) (f_one (r_ed q ed_bl ⟨by rw [hd'], congrArg (aW G K C c) ?_⟩)))
        unfold nxtW
        rw [hd']
        simp [stp, h1]
    | _ => rw [h1] at e; cases e)
    fun _ _ _ _ _ _ us hl => match us, hl with | [_, _], _ => rfl
end
end Wb

namespace Wb
open PySem PySem.Spec PyProof.Rows L2
theorem stp_turnS {mn : Man} {m : Mach} {t : Tabl} {wd : Wd} {x : Note} (h : wd.stand = .sealed x) : stp mn m t .turn wd = come mn m t x.life x.done { wd with wheel := (wd.wheel.1 + 1, x.mark) } := by
  obtain ⟨a, b, s, e, g⟩ := wd
  cases h
  rfl
theorem stp_turnR {mn : Man} {m : Mach} {t : Tabl} {wd : Wd} {l : Life} {d : Nat} (h : wd.stand = .ready l d) : stp mn m t .turn wd = { wd with wheel := (wd.wheel.1 + 1, (rowOf m t l)[d]?), stand := .bare l (d + 1) } := by
  obtain ⟨a, b, s, e, g⟩ := wd
  cases h
  rfl
theorem stp_sel {mn : Man} {m : Mach} {t : Tabl} {wd : Wd} {l : Life} {d : Nat} (h : wd.stand = .bare l d) : stp mn m t .sel wd = come mn m t l d (sealN ⟨wd.wheel.1, wd.wheel.2, l, d⟩ wd) := by
  obtain ⟨a, b, s, e, g⟩ := wd
  cases h
  rfl
section
variable {X : Cx} {G : Addr → Prop} {ρ : List Sv} {D : Ends} {C : Addr} {c : Cf} {wd wd' : Wd} {res : PyData} {H0 : Hp} {L : List (List Addr × Hp)}
theorem r_ekW {e : Expr} {pos : Pos} (q : Qok X.K G c.ms H0 (fun r B => r = .d res ∧ B = aW G X.K C c wd') D.rt) (h : Ek X G e ρ (Jl L (aW G X.K C c wd)) (fun r J' => r = .d res ∧ J' = Jl L (aW G X.K C c wd'))) (hL : (c.ms, H0) ∈ L := by simp) : Fin X (cS X (.Return (some e) pos) D) ρ (Jl L (aW G X.K C c wd)) :=
  r_ek q h (fun r J' p => ⟨_, ⟨p.1, rfl⟩, fun H j => by rw [p.2] at j; exact Jl.sub j (fun p hp => by rw [List.mem_singleton.mp hp]; exact hL) (fun h => h)⟩) hL
end
section
variable {P : Program} {w : World} {K : PySem.W.Frag} {mg : Str → Option Value} {base : Heap} {G : Addr → Prop} {C : Addr}
/-! ### turn -/
def fNo (s : Stp) (c : Cf) (wd : Wd) (args : List Sv) (res : PyData) (wd' : Wd) : Prop := ∃ (n : Nat), n ≤ 400 ∧ Ok c.m c.t n wd ∧ args = [] ∧ res = .bool (doable c.m wd s) ∧ wd' = nxtW c wd s
theorem scTurn : FnScope ["self", "note", "life", "done"] ["self"] (defScope (inClass (top 35) 8)) := ⟨rfl, rfl, rfl, by decide +kernel, rfl, by decide +kernel, by decide +kernel⟩
theorem ok_turn (W : WF K C) (cRowOf : Cal P w K mg base 4 "row_of" (spS K G (Pu fRowOf)) []) (mCome : Mth P w K mg base 6 C "come_to" (spS K G (fW K C fCome)) []) (h : Dm K C "turn" "World.turn" (inClass (top 35) 8)) : Mth P w K mg base 7 C "turn" (spS K G (fW K C (fNo .turn))) [] :=
  mth_of h W.cls (fun f fd F => ok_S F scTurn (fun rs A ms Post ⟨_, _, _, _, _, ⟨_, _, _, e, _⟩, e2, _⟩ => by rw [e2, e] <;> rfl) fun c' A' outer s H E0 hcd hr rs A ms Post vs Q hR sa ha q => by
    obtain ⟨c, wd, wd', args, res, ⟨n, hn, hok, rfl, rfl, rfl⟩, rfl, rfl, rfl, rfl⟩ := hR
    refine f_cons (f_if (x := isSe wd.stand) (Et.to (et_eq (d := sS (tagS wd.stand)) (e := sS "sealed") hr (ed_ixc (ds := sS (tagS wd.stand) :: restS wd.stand) (Ed.to (ed_w (c := c) (wd := wd) 5 W wI (ed_name 0)) (by rw [eSt_tup])) rfl) ed_str (tg_shaped _) (tg_shaped (.sealed ⟨0, none, [], 0⟩))) (tg_se _)) (fun e => ?_) fun e => ?_)
    · cases h1 : wd.stand with
      | sealed x =>
        have st := hok.st
        rw [h1] at st
        have hd : doable c.m wd .turn = true := by unfold doable; rw [h1]
        let w1 : Wd := { wd with wheel := (wd.wheel.1 + 1, x.mark) }
        refine f_cons (f_set 1 (r := .d (eNote x)) (ed_ixc (ds := [sS "sealed", eNote x]) (Ed.to (ed_w (c := c) (wd := wd) 5 W wI (ed_name 0)) (by rw [h1] <;> rfl)) rfl) ?_ scTurn.nd)
        refine f_cons (f_fldW (wd' := w1) 3 W (r := .d (eWh (wd.wheel.1 + 1, x.mark))) (Ed.to (ed_tup (ds := [eN (wd.wheel.1 + 1), eOm x.mark]) (ea_cons (Ed.to (ed_add (ed_ixc (ds := [eN wd.wheel.1, eOm wd.wheel.2]) (d := eN wd.wheel.1) (ed_w (c := c) (wd := wd) 3 W wI (ed_name 0)) rfl) ed_int) (eN1 _)) (ea_cons (ed_ixc (ds := [eN x.num, eOm x.mark, eL x.life, eN x.done]) (ed_name 1) rfl) ea_nil)) (by simp)) rfl) (ed_name 0) muS rfl ?_)
        refine f_one (f_dropW (ek_wm (wd' := come c.mn c.m c.t x.life x.done w1) mCome hr (ed_name 0) (ea_cons (ed_ixc (ds := [eN x.num, eOm x.mark, eL x.life, eN x.done]) (d := eL x.life) (ed_name 1) rfl) (ea_cons (ed_ixc (ds := [eN x.num, eOm x.mark, eL x.life, eN x.done]) (d := eN x.done) (ed_name 1) rfl) ea_nil)) ⟨x.life, x.done, st.1, Nat.le_trans st.2.2 (by omega), st.2.1, hok.sz hn, rfl, rfl, rfl⟩ muS ⟨trivial, trivial, trivial, trivial, trivial⟩) (f_one (r_ed q ed_bl ⟨by rw [hd], congrArg (aW G K C c) ?_⟩)))
        unfold nxtW
        rw [hd, if_pos rfl, stp_turnS h1]
      | _ => rw [h1] at e; cases e
    refine f_one (f_if (x := isRe wd.stand) (Et.to (et_eq (d := sS (tagS wd.stand)) (e := sS "ready") hr (ed_ixc (ds := sS (tagS wd.stand) :: restS wd.stand) (Ed.to (ed_w (c := c) (wd := wd) 5 W wI (ed_name 0)) (by rw [eSt_tup])) rfl) ed_str (tg_shaped _) (tg_shaped (.ready [] 0))) (tg_re _)) (fun e => ?_) fun e2 => ?_)
    · cases h1 : wd.stand with
      | ready l d =>
        have st := hok.st
        rw [h1] at st
        have hd : doable c.m wd .turn = true := by unfold doable; rw [h1]
        have hl : l ≠ [] := fun z => by
          have h3 := st.2.2
          rw [z] at h3
          simp [rowOf] at h3
        have hlt : d < (rowOf c.m c.t l).length := st.2.2
        have hx : (rowOf c.m c.t l)[d]? = some (rowOf c.m c.t l)[d] := List.getElem?_eq_getElem hlt
        let w1 : Wd := { wd with wheel := (wd.wheel.1 + 1, (rowOf c.m c.t l)[d]?) }
        refine f_cons (f_unp2 2 3 (d1 := eL l) (d2 := eN d) (Ed.to (ed_sl (ds := [sS "ready", eL l, eN d]) (l := some 1) (u := none) (Ed.to (ed_w (c := c) (wd := wd) 5 W wI (ed_name 0)) (by rw [h1] <;> rfl)) (eo_some ed_int) eo_none) rfl) ?_ scTurn.nd)
        refine f_cons (f_fldW (wd' := w1) 3 W (r := .d (eWh (wd.wheel.1 + 1, (rowOf c.m c.t l)[d]?))) (Ed.to (ed_tup (ds := [eN (wd.wheel.1 + 1), eN (rowOf c.m c.t l)[d]]) (ea_cons (Ed.to (ed_add (ed_ixc (ds := [eN wd.wheel.1, eOm wd.wheel.2]) (d := eN wd.wheel.1) (ed_w (c := c) (wd := wd) 3 W wI (ed_name 0)) rfl) ed_int) (eN1 _))
          (ea_cons (ed_ix (ds := (rowOf c.m c.t l).map eN) (i := d) (ed_pu (rs := [.d (eM c.m), .d (eT c.t), .d (eL l)]) cRowOf (hr.mono (by decide)) (ea_cons (ed_w (c := c) (wd := wd) 0 W wI (ed_name 0)) (ea_cons (ed_w (c := c) (wd := wd) 1 W wI (ed_name 0)) (ea_cons (ed_name 2) ea_nil))) ⟨c.m, c.k, c.t, l, c.hs, st.1, hl, Nat.le_trans st.2.1 (by omega), rfl, rfl⟩) (ed_name 3) (map_at hx)) ea_nil)) (by simp)) (by rw [hx] <;> rfl)) (ed_name 0) muS rfl ?_)
        refine f_one (f_fldW (wd := w1) (wd' := { w1 with stand := .bare l (d + 1) }) 5 W (ed_tup (ds := [sS "bare", eL l, eN (d + 1)]) (ea_cons ed_str (ea_cons (ed_name 2) (ea_cons (Ed.to (ed_add (ed_name 3) ed_int) (eN1 _)) ea_nil))) (by simp)) (ed_name 0) muS rfl (f_one (r_ed q ed_bl ⟨by rw [hd], congrArg (aW G K C c) ?_⟩)))
        unfold nxtW
        rw [hd, if_pos rfl, stp_turnR h1]
      | _ => rw [h1] at e; cases e
    · have hd : doable c.m wd .turn = false := by
        unfold doable
        cases h1 : wd.stand <;> first
          | rfl
          | (simp [h1, isSe] at e; done)
          | (simp [h1, isRe] at e2; done)
      refine f_one (r_ed q ed_bl ⟨by rw [hd], congrArg (aW G K C c) ?_⟩)
      unfold nxtW
      rw [hd]
      rfl)
    fun _ _ _ _ _ _ us hl => match us, hl with | [_], _ => rfl
/-! ### seal_late -/
theorem scLate : FnScope ["self", "life", "done"] ["self"] (defScope (inClass (top 35) 9)) := ⟨rfl, rfl, rfl, by decide +kernel, rfl, by decide +kernel, by decide +kernel⟩
theorem ok_late (W : WF K C) (mSeal : Mth P w K mg base 1 C "seal" (spS K G (fW K C fSeal)) []) (mCome : Mth P w K mg base 6 C "come_to" (spS K G (fW K C fCome)) []) (h : Dm K C "seal_late" "World.seal_late" (inClass (top 35) 9)) : Mth P w K mg base 7 C "seal_late" (spS K G (fW K C (fNo .sel))) [] :=
  mth_of h W.cls (fun f fd F => ok_S F scLate (fun rs A ms Post ⟨_, _, _, _, _, ⟨_, _, _, e, _⟩, e2, _⟩ => by rw [e2, e] <;> rfl) fun c' A' outer s H E0 hcd hr rs A ms Post vs Q hR sa ha q => by
    obtain ⟨c, wd, wd', args, res, ⟨n, hn, hok, rfl, rfl, rfl⟩, rfl, rfl, rfl, rfl⟩ := hR
    refine f_cons (f_if (x := !isBa wd.stand) (Et.to (et_ne (d := sS (tagS wd.stand)) (e := sS "bare") hr (ed_ixc (ds := sS (tagS wd.stand) :: restS wd.stand) (Ed.to (ed_w (c := c) (wd := wd) 5 W wI (ed_name 0)) (by rw [eSt_tup])) rfl) ed_str (tg_shaped _) (tg_shaped (.bare [] 0))) (by rw [tg_ba])) (fun e => ?_) fun e => f_nil ?_)
    · have hd : doable c.m wd .sel = false := by
        unfold doable
        cases h1 : wd.stand <;> first
          | rfl
          | (rw [h1] at e; cases e)
      refine f_one (r_ed q ed_bl ⟨by rw [hd], congrArg (aW G K C c) ?_⟩)
      unfold nxtW
      rw [hd]
      rfl
    cases h1 : wd.stand with
    | bare l d =>
      have st := hok.st
      rw [h1] at st
      have hd : doable c.m wd .sel = true := by unfold doable; rw [h1]
      have hz := hok.sz hn
      have hz1 : Sz 900 (sealN ⟨wd.wheel.1, wd.wheel.2, l, d⟩ wd) := by
        refine ⟨hz.1, ?_, hz.2.2⟩
        have := hok.shl
        have := (hok.sealN (x := ⟨wd.wheel.1, wd.wheel.2, l, d⟩) ⟨st.1, st.2.2, st.2.1⟩).2
        omega
      refine f_cons (f_unp2 1 2 (d1 := eL l) (d2 := eN d) (Ed.to (ed_sl (ds := [sS "bare", eL l, eN d]) (l := some 1) (u := none) (Ed.to (ed_w (c := c) (wd := wd) 5 W wI (ed_name 0)) (by rw [h1] <;> rfl)) (eo_some ed_int) eo_none) rfl) ?_ scLate.nd)
      refine f_cons (f_dropW (ek_wm (wd' := sealN ⟨wd.wheel.1, wd.wheel.2, l, d⟩ wd) mSeal (hr.mono (by decide)) (ed_name 0) (ea_cons (ed_cat (ds := [eN wd.wheel.1, eOm wd.wheel.2]) (es := [eL l, eN d]) (ed_w (c := c) (wd := wd) 3 W wI (ed_name 0)) (ed_tup (ds := [eL l, eN d]) (ea_cons (ed_name 1) (ea_cons (ed_name 2) ea_nil)) (by simp)) (by simp)) ea_nil) ⟨⟨wd.wheel.1, wd.wheel.2, l, d⟩, hz.mono, rfl, rfl, rfl⟩ muS ⟨trivial, trivial, trivial, trivial⟩) ?_)
      refine f_cons (f_dropW (ek_wm (wd' := come c.mn c.m c.t l d (sealN ⟨wd.wheel.1, wd.wheel.2, l, d⟩ wd)) mCome hr (ed_name 0) (ea_cons (ed_name 1) (ea_cons (ed_name 2) ea_nil)) ⟨l, d, st.1, Nat.le_trans st.2.1 (by omega), st.2.2, hz1, rfl, rfl, rfl⟩ muS ⟨trivial, trivial, trivial, trivial⟩) (f_one (r_ed q ed_bl ⟨by rw [hd], congrArg (aW G K C c) ?_⟩)))
      unfold nxtW
      rw [hd, if_pos rfl, stp_sel h1]
    | _ => rw [h1] at e; cases e)
    fun _ _ _ _ _ _ us hl => match us, hl with | [_], _ => rfl
/-! ### cut -/
theorem scCut : FnScope ["self"] ["self"] (defScope (inClass (top 35) 10)) := ⟨rfl, rfl, rfl, by decide +kernel, rfl, by decide +kernel, by decide +kernel⟩
theorem ok_cut (E : Ev K mg) (W : WF K C) (h : Dm K C "cut" "World.cut" (inClass (top 35) 10)) : Mth P w K mg base 1 C "cut" (spS K G (fW K C (fNo .cut))) [] :=
  mth_of h W.cls (fun f fd F => ok_S F scCut (fun rs A ms Post ⟨_, _, _, _, _, ⟨_, _, _, e, _⟩, e2, _⟩ => by rw [e2, e] <;> rfl) fun c' A' outer s H E0 hcd hr rs A ms Post vs Q hR sa ha q => by
    obtain ⟨c, wd, wd', args, res, ⟨n, hn, hok, rfl, rfl, rfl⟩, rfl, rfl, rfl, rfl⟩ := hR
    refine f_cons (f_if (x := isOff wd.stand) (Et.to (et_eq (d := eSt wd.stand) (e := eSt .off) hr (ed_w (c := c) (wd := wd) 5 W wI (ed_name 0)) (ed_gtup E.off) (cn_shaped (cn_St 0 _)) (cn_shaped (cn_St 0 _))) (eqvOff _)) (fun e => ?_) fun e => f_nil ?_)
    · have hd : doable c.m wd .cut = false := by unfold doable; rw [e] <;> rfl
      refine f_one (r_ed q ed_bl ⟨by rw [hd], congrArg (aW G K C c) ?_⟩)
      unfold nxtW
      rw [hd]
      rfl
    · have hd : doable c.m wd .cut = true := by unfold doable; rw [e] <;> rfl
      refine f_cons (f_fldW (wd' := { wd with stand := .off }) 5 W (ed_gtup E.off) (ed_name 0) muS rfl (f_one (r_ed q ed_bl ⟨by rw [hd], congrArg (aW G K C c) ?_⟩)))
      unfold nxtW
      rw [hd]
      rfl)
    fun _ _ _ _ _ _ us hl => match us, hl with | [_], _ => rfl
/-! ### do -/
def fDo (c : Cf) (wd : Wd) (args : List Sv) (res : PyData) (wd' : Wd) : Prop := ∃ (n : Nat) (s : Stp), n ≤ 400 ∧ Ok c.m c.t n wd ∧ (∀ x, s = .boot x → x.life.length ≤ 1000) ∧ args = [.d (eStp s)] ∧ res = .bool (doable c.m wd s) ∧ wd' = nxtW c wd s
theorem scDo : FnScope ["self", "step"] ["self", "step"] (defScope (inClass (top 35) 11)) := ⟨rfl, rfl, rfl, by decide +kernel, rfl, by decide +kernel, by decide +kernel⟩
def tagP : Stp → Str
  | .boot _ => "boot"
  | .ask _ => "ask"
  | .turn => "turn"
  | .cut => "cut"
  | .sel => "seal"
def restP : Stp → List PyData
  | .boot x => [eNote x]
  | .ask o => [eN o]
  | _ => []
theorem eStp_tup (s : Stp) : eStp s = .tuple (sS (tagP s) :: restP s) := by cases s <;> rfl
theorem tp_shaped (s : Stp) : SeqAt.shaped (sS (tagP s)) = true := by
  cases s
  · exact (show SeqAt.shaped (sS "boot") = true by decide +kernel)
  · exact (show SeqAt.shaped (sS "ask") = true by decide +kernel)
  · exact (show SeqAt.shaped (sS "turn") = true by decide +kernel)
  · exact (show SeqAt.shaped (sS "cut") = true by decide +kernel)
  · exact (show SeqAt.shaped (sS "seal") = true by decide +kernel)
theorem ok_do (E : Ev K mg) (W : WF K C) (mBoot : Mth P w K mg base 7 C "boot" (spS K G (fW K C fBoot)) []) (mAsk : Mth P w K mg base 7 C "ask" (spS K G (fW K C fAsk)) []) (mTurn : Mth P w K mg base 7 C "turn" (spS K G (fW K C (fNo .turn))) []) (mCut : Mth P w K mg base 1 C "cut" (spS K G (fW K C (fNo .cut))) []) (mLate : Mth P w K mg base 7 C "seal_late" (spS K G (fW K C (fNo .sel))) []) (h : Dm K C "do" "World.do" (inClass (top 35) 11)) : Mth P w K mg base 8 C "do" (spS K G (fW K C fDo)) [] :=
  mth_of h W.cls (fun f fd F => ok_S F scDo (fun rs A ms Post ⟨_, _, _, _, _, ⟨_, _, _, _, _, e, _⟩, e2, _⟩ => by rw [e2, e] <;> rfl) fun c' A' outer s H E0 hcd hr rs A ms Post vs Q hR sa ha q => by
    obtain ⟨c, wd, wd', args, res, ⟨n, st, hn, hok, h5, rfl, rfl, rfl⟩, rfl, rfl, rfl, rfl⟩ := hR
    have l2 : 1 ≤ (sS (tagP st) :: restP st).length ∧ (sS (tagP st) :: restP st).length ≤ 2 := by cases st <;> exact ⟨Nat.le_of_ble_eq_true rfl, Nat.le_of_ble_eq_true rfl⟩
    refine f_skip (x := false) (Et.to (et_w (ew_or (x := false) (y := false) (et_not (b := true) (et_val (ed_isi (d := eStp st) (T := "tuple") (ed_name 1) k_tt E.isin E.tuple (by decide +kernel) (by decide) (by decide) (by cases st <;> rfl)))) fun _ =>
      ew_or (x := false) (y := false) (Et.to (et_not (et_chain (i := 1) (j := ((sS (tagP st) :: restP st).length : Nat)) (k := 2) ed_int (ed_lenT (ds := sS (tagP st) :: restP st) E.len (Ed.to (ed_name 1) (by rw [eStp_tup]))) ed_int)) ?_) fun _ =>
      ew_or1 (et_not (b := true) (et_val (ed_isi (d := sS (tagP st)) (T := "str") (ed_ixc (ds := sS (tagP st) :: restP st) (Ed.to (ed_name 1) (by rw [eStp_tup])) rfl) k_ss E.isin E.str (by decide +kernel) (by decide) (by decide)))))) rfl) ?_ rfl
    · have a := l2.1
      have b := l2.2
      rw [decide_eq_true (by omega), decide_eq_true (by omega)] <;> rfl
    cases st with
    | boot x =>
      refine f_cons (f_if (x := true) (et_eq (d := eN 2) (e := eN 2) hr (ed_lenT (ds := [sS "boot", eNote x]) E.len (ed_name 1)) ed_int rfl rfl) (fun _ => f_one (r_ekW q (ek_if (x := true) (et_eq (d := sS "boot") (e := sS "boot") hr (ed_ixc (ds := [sS "boot", eNote x]) (ed_name 1) rfl) ed_str (tp_shaped (.boot x)) (tp_shaped (.boot x))) (fun _ => ek_wm (wd' := nxtW c wd (.boot x)) mBoot hr (ed_name 0) (ea_cons (ed_ixc (ds := [sS "boot", eNote x]) (d := eNote x) (ed_name 1) rfl) ea_nil) ⟨n, x, hn, hok, h5 x rfl, rfl, rfl, rfl⟩ muS ⟨trivial, trivial, trivial⟩) (fun e => by cases e)))) fun e => by cases e)
    | ask o =>
      refine f_cons (f_if (x := true) (et_eq (d := eN 2) (e := eN 2) hr (ed_lenT (ds := [sS "ask", eN o]) E.len (ed_name 1)) ed_int rfl rfl) (fun _ => f_one (r_ekW q (ek_if (x := false) (et_eq (d := sS "ask") (e := sS "boot") hr (ed_ixc (ds := [sS "ask", eN o]) (ed_name 1) rfl) ed_str (tp_shaped (.ask 0)) (tp_shaped (.boot ⟨0, none, [], 0⟩))) (fun e => by cases e) (fun _ =>
        ek_and (x := true) (ed_eq (d := sS "ask") (e := sS "ask") hr (ed_ixc (ds := [sS "ask", eN o]) (ed_name 1) rfl) ed_str (tp_shaped (.ask 0)) (tp_shaped (.ask 0))) (fun _ => ek_one (ek_wm (wd' := nxtW c wd (.ask o)) mAsk hr (ed_name 0) (ea_cons (ed_ixc (ds := [sS "ask", eN o]) (d := eN o) (ed_name 1) rfl) ea_nil) ⟨n, o, hn, hok, rfl, rfl, rfl⟩ muS ⟨trivial, trivial, trivial⟩)) (fun e => by cases e))))) fun e => by cases e)
    | turn =>
      refine f_skip (x := false) (et_eq (d := eN 1) (e := eN 2) hr (ed_lenT (ds := [sS "turn"]) E.len (ed_name 1)) ed_int rfl rfl) ?_ rfl
      exact f_cons (f_if (x := true) (et_eq (d := sS "turn") (e := sS "turn") hr (ed_ixc (ds := [sS "turn"]) (ed_name 1) rfl) ed_str (tp_shaped .turn) (tp_shaped .turn)) (fun _ => f_one (r_ekW q (ek_wm0 (wd' := nxtW c wd .turn) mTurn hr (ed_name 0) ⟨n, hn, hok, rfl, rfl, rfl⟩ muS ⟨trivial, trivial, trivial⟩))) fun e => by cases e)
    | cut =>
      refine f_skip (x := false) (et_eq (d := eN 1) (e := eN 2) hr (ed_lenT (ds := [sS "cut"]) E.len (ed_name 1)) ed_int rfl rfl) ?_ rfl
      refine f_skip (x := false) (et_eq (d := sS "cut") (e := sS "turn") hr (ed_ixc (ds := [sS "cut"]) (ed_name 1) rfl) ed_str (tp_shaped .cut) (tp_shaped .turn)) ?_ rfl
      exact f_cons (f_if (x := true) (et_eq (d := sS "cut") (e := sS "cut") hr (ed_ixc (ds := [sS "cut"]) (ed_name 1) rfl) ed_str (tp_shaped .cut) (tp_shaped .cut)) (fun _ => f_one (r_ekW q (ek_wm0 (wd' := nxtW c wd .cut) mCut (hr.mono (by decide)) (ed_name 0) ⟨n, hn, hok, rfl, rfl, rfl⟩ muS ⟨trivial, trivial, trivial⟩))) fun e => by cases e)
    | sel =>
      refine f_skip (x := false) (et_eq (d := eN 1) (e := eN 2) hr (ed_lenT (ds := [sS "seal"]) E.len (ed_name 1)) ed_int rfl rfl) ?_ rfl
      refine f_skip (x := false) (et_eq (d := sS "seal") (e := sS "turn") hr (ed_ixc (ds := [sS "seal"]) (ed_name 1) rfl) ed_str (tp_shaped .sel) (tp_shaped .turn)) ?_ rfl
      refine f_skip (x := false) (et_eq (d := sS "seal") (e := sS "cut") hr (ed_ixc (ds := [sS "seal"]) (ed_name 1) rfl) ed_str (tp_shaped .sel) (tp_shaped .cut)) ?_ rfl
      exact f_one (r_ekW q (ek_and (x := true) (ed_eq (d := sS "seal") (e := sS "seal") hr (ed_ixc (ds := [sS "seal"]) (ed_name 1) rfl) ed_str (tp_shaped .sel) (tp_shaped .sel)) (fun _ => ek_one (ek_wm0 (wd' := nxtW c wd .sel) mLate hr (ed_name 0) ⟨n, hn, hok, rfl, rfl, rfl⟩ muS ⟨trivial, trivial, trivial⟩)) (fun e => by cases e))))
    fun _ _ _ _ _ _ us hl => match us, hl with | [_, _], _ => rfl
end
end Wb

namespace Wb
open PySem PySem.Spec PyProof.Rows L2
/-! ### functions on data from functions on what it tells -/
open Classical in
noncomputable def liftB {α : Type} (e : α → PyData) (g : α → Bool) (d : PyData) : Bool := if h : ∃ a, e a = d then g h.choose else false
open Classical in
noncomputable def liftD {α : Type} (e : α → PyData) (g : α → PyData) (d : PyData) : PyData := if h : ∃ a, e a = d then g h.choose else .none
theorem liftB_at {α : Type} {e : α → PyData} {g : α → Bool} (hi : ∀ a b, e a = e b → a = b) (a : α) : liftB e g (e a) = g a := by
  have h : ∃ b, e b = e a := ⟨a, rfl⟩
  unfold liftB
  rw [dif_pos h, hi _ _ h.choose_spec]
theorem liftD_at {α : Type} {e : α → PyData} {g : α → PyData} (hi : ∀ a b, e a = e b → a = b) (a : α) : liftD e g (e a) = g a := by
  have h : ∃ b, e b = e a := ⟨a, rfl⟩
  unfold liftD
  rw [dif_pos h, hi _ _ h.choose_spec]
theorem keepM_map {α : Type} {e : α → PyData} {p : α → Bool} {g : α → PyData} (hi : ∀ a b, e a = e b → a = b) (xs : List α) : keepM (liftB e p) (liftD e g) (xs.map e) = (xs.filter p).map g := by
  unfold keepM
  rw [List.filter_map, List.map_map]
  have e1 : (liftB e p ∘ e) = p := by funext a; exact liftB_at hi a
  have e2 : (liftD e g ∘ e) = g := by funext a; exact liftD_at hi a
  rw [e1, e2]
theorem keepM_all {α : Type} {e : α → PyData} {g : α → PyData} (hi : ∀ a b, e a = e b → a = b) (xs : List α) : keepM (fun _ => true) (liftD e g) (xs.map e) = xs.map g := by
  unfold keepM
  rw [List.filter_eq_self.mpr (fun _ _ => rfl), List.map_map]
  congr 1
  funext a
  exact liftD_at hi a
theorem any_lift {α : Type} {e : α → PyData} {g : α → Bool} (hi : ∀ a b, e a = e b → a = b) (xs : List α) : (xs.map e).any (liftB e g) = xs.any g := by
  rw [List.any_map]
  congr 1
  funext a
  exact liftB_at hi a
section
variable {P : Program} {w : World} {K : PySem.W.Frag} {mg : Str → Option Value} {base : Heap} {G : Addr → Prop} {C : Addr}
/-! ### is_dead -/
/-- a method that only looks -/
def fL (K : PySem.W.Frag) (C : Addr) (f : Cf → Wd → List Sv → PyData → Prop) : List Sv → As G → List Addr → (Sv → As G → Prop) → Prop := fun rs A ms Post => ∃ (c : Cf) (wd : Wd) (args : List Sv) (res : PyData), f c wd args res ∧ rs = .v (.ref c.w) :: args ∧ A = aW G K C c wd ∧ ms = [] ∧ Post = fun r B => r = .d res ∧ B = aW G K C c wd
def fDead (c : Cf) (wd : Wd) (args : List Sv) (res : PyData) : Prop := args = [] ∧ res = .bool (dead c.mn wd)
theorem scDead : FnScope ["self", "note"] ["self"] (defScope (inClass (top 35) 12)) := ⟨rfl, rfl, rfl, by decide +kernel, rfl, by decide +kernel, by decide +kernel⟩
theorem ok_dead (E : Ev K mg) (W : WF K C) (mFits : Mth P w K mg base 1 C "fits" (spS K G (fFits K C)) []) (h : Dmt K mg base G C "is_dead" "World.is_dead" (inClass (top 35) 12)) : Mth P w K mg base 3 C "is_dead" (spS K G (fL K C fDead)) [] :=
  mth_ofT h W.cls (fun f fd F hT => ok_S F scDead (fun rs A ms Post ⟨_, _, _, _, ⟨e, _⟩, e2, _⟩ => by rw [e2, e] <;> rfl) fun c' A' outer s H E0 hcd hr rs A ms Post vs Q hR sa ha q => by
    obtain ⟨c, wd, args, res, ⟨rfl, rfl⟩, rfl, rfl, rfl, rfl⟩ := hR
    obtain ⟨Pt, hP, TB⟩ := hT c' hcd
    refine f_one (r_ed q (ed_not (x := wd.shelf.any (fits c.mn wd)) (Ed.to (ed_any (k := 1) 1 (liftB eNote (fits c.mn wd)) (ep_lst (ms := []) (a := c.n) (ds := wd.shelf.map eNote) (ed_w (c := c) (wd := wd) 4 W wI (ed_name 0)) (by simp)) hr (fun d hd s H C' code fp pn hr => ?_) hP TB rfl scDead.nd (gens_of rfl rfl (by decide +kernel) rfl rfl (fun y hy e => ?_)) (blkOk_by (N := ["self", "note"]) (sc := defScope (inClass (top 35) 12)) (by decide +kernel)) E.any) ?_)) ⟨rfl, rfl⟩)
    · obtain ⟨o, ho, rfl⟩ := List.mem_map.mp hd
      rw [liftB_at (fun _ _ => eNote_inj)]
      exact ed_meth (ss := []) (A := aW G K C c wd) (P0 := fun r B => r = .d (.bool (fits c.mn wd o)) ∧ B = aW G K C c wd) mFits hr (ed_name 0) wI (ea_cons (ed_name 1) ea_nil) (fun _ => trivial) (by rw [List.append_nil]; exact ⟨c, wd, o, rfl, rfl, rfl, rfl⟩) wI (fun _ _ h => h.1)
    · have : y.1 = "self" := by
        revert y
        decide +kernel
      rw [this]
      exact ⟨_, rfl⟩
    · rw [any_lift (fun _ _ => eNote_inj)])
    fun _ _ _ _ _ _ us hl => match us, hl with | [_], _ => rfl
/-! ### pair -/
def eTwo : Option (Life × Life) → PyData
  | none => .none
  | some p => .tuple [eL p.1, eL p.2]
def fPair (c : Cf) (wd : Wd) (args : List Sv) (res : PyData) : Prop := (∀ l ∈ wd.spoken, Lv c.m l ∧ l.length ≤ 1000) ∧ wd.spoken.length ≤ 1000 ∧ args = [] ∧ res = eTwo (two c.m c.t wd.spoken)
theorem scPair : FnScope ["self", "tellings", "life", "later", "earlier"] ["self"] (defScope (inClass (top 35) 13)) := ⟨rfl, rfl, rfl, by decide +kernel, rfl, by decide +kernel, by decide +kernel⟩
theorem ok_pair (E : Ev K mg) (W : WF K C) (cTold : Cal P w K mg base 5 "told_by" (spS K G (Pu fTold)) []) (cAlong : Cal P w K mg base 2 "along" (spS K G (Pu fAlong)) []) (h : Dm K C "pair" "World.pair" (inClass (top 35) 13)) : Mth P w K mg base 6 C "pair" (spS K G (fL K C fPair)) [] :=
  mth_of h W.cls (fun f fd F => ok_S F scPair (fun rs A ms Post ⟨_, _, _, _, ⟨_, _, e, _⟩, e2, _⟩ => by rw [e2, e] <;> rfl) fun c' A' outer s H E0 hcd hr rs A ms Post vs Q hR sa ha q => by
    obtain ⟨c, wd, args, res, ⟨h1, h2, rfl, rfl⟩, rfl, rfl, rfl, rfl⟩ := hR
    refine f_cons (f_setLc 2 1 (ds := wd.spoken.map eL) (fun _ => true) (liftD eL fun l => eTold (told c.m c.t l)) (fun a => Mu [([], H)] [a]) (ep_lst (a := c.p) (ds := wd.spoken.map eL) (ed_w (c := c) (wd := wd) 7 W wI (ed_name 0)) (by simp)) (by simp; omega) (fun d hd s H0 C' cl fp => .nil) (fun d hd _ s H0 C' cl fp => ?_) (fun σ H a s j n => Jl.fresh j n) (fun a mu => ?_) scPair.nd (blkOk_by (N := ["self", "tellings", "life", "later", "earlier"]) (sc := defScope (inClass (top 35) 13)) (by decide +kernel)))
    · obtain ⟨l, hl, rfl⟩ := List.mem_map.mp hd
      rw [liftD_at (fun _ _ => eL_inj)]
      exact ed_pu (rs := [.d (eM c.m), .d (eT c.t), .d (eL l)]) cTold hr (ea_cons (ed_w (c := c) (wd := wd) 0 W wI (ed_name 0)) (ea_cons (ed_w (c := c) (wd := wd) 1 W wI (ed_name 0)) (ea_cons (ed_name 2) ea_nil))) ⟨c.m, c.k, c.t, l, c.hs, (h1 l hl).1, (h1 l hl).2, rfl, rfl⟩
    rw [keepM_all (fun _ _ => eL_inj)]
    generalize hT : wd.spoken.map (fun l => eTold (told c.m c.t l)) = ts
    have hts : ts.length = wd.spoken.length := by rw [← hT, List.length_map]
    have hat : ∀ i l, wd.spoken[i]? = some l → ts[i]? = some (eTold (told c.m c.t l)) := fun i l e => by rw [← hT]; exact map_at e
    have hgt : ∀ i, i < wd.spoken.length → ∃ l, wd.spoken[i]? = some l ∧ (wd.spoken[i]?).getD [] = l ∧ Lv c.m l := fun i hi => ⟨_, List.getElem?_eq_getElem hi, by rw [List.getElem?_eq_getElem hi] <;> rfl, (h1 _ (List.getElem_mem hi)).1⟩
    refine f_cons (f_forP 3 [] (ep_rng1 (n := wd.spoken.length) E.range (Ed.to (ed_lenL (a := a) (ds := ts) E.len (ed_name 1)) (by rw [hts])) (by omega)) (fun n ρ A => A = aW G K C c wd ∧ (∀ i, i < n → twoO c.m c.t wd.spoken i = none) ∧ ∃ x u v, ρ = [.v (.ref c.w), .l a ts, x, u, v]) ⟨rfl, fun i hi => absurd hi (Nat.not_lt_zero i), .u, .u, .u, rfl⟩ (fun H1 n d ρ A' hd hI => ?_) (fun ρ A' hI => ?_) scPair.nd)
    · obtain ⟨rfl, hno, x, u, v, rfl⟩ := hI
      unfold rngD at hd
      obtain ⟨n', hn', rfl⟩ := map_at' hd
      obtain ⟨hn1, hn2⟩ := List.getElem?_eq_some_iff.mp hn'
      have hnl : n < wd.spoken.length := by simpa using hn1
      have e : n' = n := by rw [← hn2]; simp
      subst e
      refine f_one (f_forP 4 [] (ep_rng1 (n := n') E.range (ed_name 3) (by omega)) (fun j ρ A => A = aW G K C c wd ∧ (∀ i, i < j → twoI c.m c.t wd.spoken n' i = none) ∧ ∃ x v, ρ = [.v (.ref c.w), .l a ts, x, .d (.int (n' : Nat)), v]) ⟨rfl, fun i hi => absurd hi (Nat.not_lt_zero i), x, v, rfl⟩ (fun H2 j d ρ A' hd hI => ?_) (fun ρ A' hI => ?_) scPair.nd)
      · obtain ⟨rfl, hnj, x, v, rfl⟩ := hI
        unfold rngD at hd
        obtain ⟨j', hj', rfl⟩ := map_at' hd
        obtain ⟨hj1, hj2⟩ := List.getElem?_eq_some_iff.mp hj'
        have hjl : j < n' := by simpa using hj1
        have e : j' = j := by rw [← hj2]; simp
        subst e
        obtain ⟨l1, e1, g1, v1⟩ := hgt n' hnl
        obtain ⟨l2, e2, g2, v2⟩ := hgt j' (by omega)
        refine f_one (f_if (x := !alongB (told c.m c.t l2) (told c.m c.t l1)) (et_not (et_val (ed_pu (rs := [.d (eTold (told c.m c.t l2)), .d (eTold (told c.m c.t l1))]) cAlong (hr.mono (by decide)) (ea_cons (ed_ixL (i := j') (ed_name 1) (ed_name 4) (hat j' l2 e2)) (ea_cons (ed_ixL (i := n') (ed_name 1) (ed_name 3) (hat n' l1 e1)) ea_nil)) ⟨_, _, told_ok c.hs v2, told_ok c.hs v1, rfl, rfl⟩))) (fun e => ?_) fun e => f_nil (f_next ⟨rfl, ?_, x, .d (.int (j' : Nat)), rfl⟩))
        · have hb : alongB (told c.m c.t l2) (told c.m c.t l1) = false := by simpa using e
          have hI_ : twoI c.m c.t wd.spoken n' j' = some (l2, l1) := by unfold twoI; rw [g1, g2, hb] <;> rfl
          have hO : twoO c.m c.t wd.spoken n' = some (l2, l1) := find_first hnj hjl hI_
          have hW : two c.m c.t wd.spoken = some (l2, l1) := find_first hno hnl hO
          refine f_one (r_ed q (ed_tup (ds := [eL l2, eL l1]) (ea_cons (ed_ixL (p := c.p) (ds := wd.spoken.map eL) (i := j') (ed_w (c := c) (wd := wd) 7 W wI (ed_name 0)) (ed_name 4) (map_at e2)) (ea_cons (ed_ixL (p := c.p) (ds := wd.spoken.map eL) (i := n') (ed_w (c := c) (wd := wd) 7 W wI (ed_name 0)) (ed_name 3) (map_at e1)) ea_nil)) (by simp)) ⟨by rw [hW] <;> rfl, rfl⟩)
        · have hb : alongB (told c.m c.t l2) (told c.m c.t l1) = true := by simpa using e
          intro i hi
          by_cases z : i < j'
          · exact hnj i z
          · have : i = j' := by omega
            subst this
            unfold twoI
            rw [g1, g2, hb] <;> rfl
      · obtain ⟨rfl, hnj, x, v, rfl⟩ := hI
        have e : (rngD 0 n').length = n' := by simp [rngD]
        rw [e] at hnj
        refine f_next ⟨rfl, fun i hi => ?_, x, .d (.int (n' : Nat)), v, rfl⟩
        by_cases z : i < n'
        · exact hno i z
        · have : i = n' := by omega
          subst this
          exact find_none hnj
    · obtain ⟨rfl, hno, x, u, v, rfl⟩ := hI
      have e : (rngD 0 wd.spoken.length).length = wd.spoken.length := by simp [rngD]
      rw [e] at hno
      exact f_one (r_ed q ed_non ⟨by rw [show two c.m c.t wd.spoken = none from find_none hno] <;> rfl, rfl⟩))
    fun _ _ _ _ _ _ us hl => match us, hl with | [_], _ => rfl
end
end Wb

namespace Wb
open PySem PySem.Spec PyProof.Rows L2
section
variable {X : Cx} {G : Addr → Prop} {ρ : List Sv} {D : Ends} {L : List (List Addr × Hp)} {A : As G} {C : Addr} {k : Nat}
/-- a class whose objects are made by its __init__ -/
def Mkr (P : Program) (w : World) (K : PySem.W.Frag) (mg : Str → Option Value) (base : Heap) (k : Nat) (C : Addr) (x : Str) (sp : Sp) (dvs : List V) : Prop :=
  ∃ (f : Addr) (fd : FuncData) (ps : List Str) (ds : List Value), FnOk P w K mg base CX0 k f fd ps sp ∧ Mk K C f ∧ mg x = some (.ref C) ∧ Binds K fd ps ds ∧ Vals dvs ds
/-- C(e, ..): a new object behind what stood -/
theorem ek_make {R : List Sv → As G → List Addr → (Sv → As G → Prop) → Prop} {P0 : Addr → Sv → As G → Prop} {Post : Sv → As G → Prop} {rs ss : List Sv} {dvs : List V} {x : Str} {e : Expr} {es : List Expr} {p pos : Pos} (M : Mkr X.prog X.w X.K X.mg X.base k C x (spS X.K G R) dvs) (hr : Room (k + 1) X.A) (ha : Ea X G (e :: es) ρ (Jl L A) rs) (hd : ∀ H, SvA X.K H ss dvs)
    (hR : ∀ a, R (.v (.ref a) :: (rs ++ ss)) (As.ins G X.K a C [] []) [a] (P0 a)) (hP : ∀ a r B, P0 a r B → r = .d .none ∧ Post (.v (.ref a)) (Jl L (A.and B)))
    (hg : Gl X x := by rfl) (hdb : (x == ("__debug__" : Str)) = false := by decide) (he : starEach (e :: es) X.env = (false, eval e X.env) :: starEach es X.env := by rfl) (hpl : (backTo pos (starEach es X.env)).any (·.1) = false := by rfl) : Ek X G (.Call (.Name x p) (e :: es) [] pos) ρ (Jl L A) Post := fun σ H Q s t j q => by
  obtain ⟨f, fd, ps, ds, F, hm, hmg, hb, hv⟩ := M
  refine ⟨_, pe_make hm F hr hg hmg hb hv pass0 pa_c hdb he hpl, ha σ H _ s t j fun vs H1 s1 g1 a dx na nd ne => ?_⟩
  have gA : Gr G [] H1 (upd H1 dx (.own a)) := Gr.new nd
  have na' : (upd H1 dx (.own a)) a = none := by rw [upd_ne (Ne.symm ne)]; exact na
  have gB : Gr G [] H1 (upd (upd H1 dx (.own a)) a (.ins C dx [])) := gA.trans (Gr.new na')
  have t1 := t.up g1
  refine ⟨.v (.ref a) :: (rs ++ ss), As.ins G X.K a C [] [], [a], P0 a, hR a, ⟨rfl, (s1.g0 gB t1).app (hd _)⟩, t1.up gB, ⟨dx, [], upd_same, rfl, trivial⟩, fun r B v H2 p s2 _ g2 b => ?_⟩
  obtain ⟨rfl, hp⟩ := hP a r B p
  obtain ⟨_, e1, d1⟩ := s2
  cases e1; cases d1
  have g3 : Gr G [] H1 H2 := ⟨fun c o e g n => g2.keep c o (gB.keep c o e g n) g (fun z => by rw [List.mem_singleton.mp z, na] at e; cases e), ⟨fun c xs e => g2.tk.1 c xs (gB.tk.1 c xs e), fun c o u e => g2.tk.2 c o u (gB.tk.2 c o u e)⟩, fun c g t => g2.tab c g (gB.tab c g t), fun c e => gB.dom c (g2.dom c e)⟩
  have g := g1.trans g3
  have j2 := (Jl L A).up g t j
  exact ⟨rfl, q (.v (.ref a)) _ (.ref a) H2 hp rfl (g1.free na) (s.g0 g t) (t.up g) g.tk g.dom ⟨j2.1, j2.2, b⟩⟩
/-- .. and what else the def asks for -/
theorem ek_makeF {F : As G} {R : List Sv → As G → List Addr → (Sv → As G → Prop) → Prop} {P0 : Addr → Sv → As G → Prop} {Post : Sv → As G → Prop} {rs ss : List Sv} {dvs : List V} {x : Str} {e : Expr} {es : List Expr} {p pos : Pos} (M : Mkr X.prog X.w X.K X.mg X.base k C x (spS X.K G R) dvs) (hr : Room (k + 1) X.A) (ha : Ea X G (e :: es) ρ (Jl L A) rs) (hd : ∀ H, SvA X.K H ss dvs) (hF : ∀ H, A.P H → F.P H)
    (hR : ∀ a, (∃ H0, A.P H0 ∧ H0 a = none) → R (.v (.ref a) :: (rs ++ ss)) ((As.ins G X.K a C [] []).and F) [a] (P0 a)) (hP : ∀ a r B, P0 a r B → r = .d .none ∧ Post (.v (.ref a)) (Jl L (A.and B)))
    (hg : Gl X x := by rfl) (hdb : (x == ("__debug__" : Str)) = false := by decide) (he : starEach (e :: es) X.env = (false, eval e X.env) :: starEach es X.env := by rfl) (hpl : (backTo pos (starEach es X.env)).any (·.1) = false := by rfl) : Ek X G (.Call (.Name x p) (e :: es) [] pos) ρ (Jl L A) Post := fun σ H Q s t j q => by
  obtain ⟨f, fd, ps, ds, F1, hm, hmg, hb, hv⟩ := M
  refine ⟨_, pe_make hm F1 hr hg hmg hb hv pass0 pa_c hdb he hpl, ha σ H _ s t j fun vs H1 s1 g1 a dx na nd ne => ?_⟩
  have gA : Gr G [] H1 (upd H1 dx (.own a)) := Gr.new nd
  have na' : (upd H1 dx (.own a)) a = none := by rw [upd_ne (Ne.symm ne)]; exact na
  have gB : Gr G [] H1 (upd (upd H1 dx (.own a)) a (.ins C dx [])) := gA.trans (Gr.new na')
  have t1 := t.up g1
  refine ⟨.v (.ref a) :: (rs ++ ss), (As.ins G X.K a C [] []).and F, [a], P0 a, hR a ⟨H, j.2, g1.free na⟩, ⟨rfl, (s1.g0 gB t1).app (hd _)⟩, t1.up gB, ⟨⟨dx, [], upd_same, rfl, trivial⟩, F.up (g1.trans gB) t (hF _ j.2)⟩, fun r B v H2 p s2 _ g2 b => ?_⟩
  obtain ⟨rfl, hp⟩ := hP a r B p
  obtain ⟨_, e1, d1⟩ := s2
  cases e1; cases d1
  have g3 : Gr G [] H1 H2 := ⟨fun c o e g n => g2.keep c o (gB.keep c o e g n) g (fun z => by rw [List.mem_singleton.mp z, na] at e; cases e), ⟨fun c xs e => g2.tk.1 c xs (gB.tk.1 c xs e), fun c o u e => g2.tk.2 c o u (gB.tk.2 c o u e)⟩, fun c g t => g2.tab c g (gB.tab c g t), fun c e => gB.dom c (g2.dom c e)⟩
  have g := g1.trans g3
  have j2 := (Jl L A).up g t j
  exact ⟨rfl, q (.v (.ref a)) _ (.ref a) H2 hp rfl (g1.free na) (s.g0 g t) (t.up g) g.tk g.dom ⟨j2.1, j2.2, b⟩⟩
/-- o.f = e, e an expression that changes the heap -/
theorem f_fldK {Post : Sv → As G → Prop} {o e : Expr} {f : Str} {a : Addr} {ns ns' : List Str} {ρo : List Sv} {pos pos' : Pos} (he : Ek X G e ρ (Jl L A) Post) (ho : ∀ J : As G, Ed X G o ρ J (.v (.ref a))) (hc : Cls X.K C) (hn : NoAttr X.K C f) (hm : Mu L [a])
    (h : ∀ r J', Post r J' → Still r ∧ ∃ (A' B : As G) (ρo' : List Sv), J' = Jl L A' ∧ PutAt f r ns ρo ns' ρo' ∧ (∀ H, A'.P H → IAt X.K H a C ns ρo) ∧ (∀ H H', A'.P H → Tb G H → Gr G [a] H H' → IAt X.K H' a C ns' ρo' → B.P H') ∧ Fin X D.nx ρ (Jl L B)) (hsz : ns.length < 1000 := by decide) (hs : swapsWith e (some (.Attribute o f pos')) pos.line X.env = pure false := by rfl) :
    Fin X (cS X (.Assign [.Attribute o f pos'] e pos) D) ρ (Jl L A) := fun σ H s t j => by
  refine ⟨_, ps_fld pe_c pe_c hs, he σ H _ s t j fun r J' y H1 p s1 _ sl1 t1 _ _ j1 => ?_⟩
  obtain ⟨hst, A', B, ρo', rfl, pt, hI, hB, k⟩ := h r J' p
  refine ho (Jl L A') σ H1 _ sl1 t1 j1 fun v H2 s2 g2 => ?_
  cases s2
  have j2 := (Jl L A').up g2 t1 j1
  obtain ⟨dx, vs, h1, h2, h3⟩ := hI H2 j2.2
  refine ⟨a, C, dx, _, rfl, h1, hc, hn, by rw [List.length_zip, h2, Nat.min_self]; exact hsz, ?_⟩
  have g3 : Gr G [a] H2 (upd H2 a (.ins C dx (putF f y (ns.zip vs)))) := Gr.put h1 trivial (by simp)
  exact k σ _ (Sl.at_ h1 trivial (fun _ z => by cases z) (sl1.g0 g2 t1)) ((t1.up g2).up g3) (Jl.step j2 g3 hm (hB _ _ j2.2 (t1.up g2) g3 (pt.do_ h1 h2 h3 (s1.g0 g2 t1))))
end
section
variable {P : Program} {w : World} {K : PySem.W.Frag} {mg : Str → Option Value} {base : Heap} {G : Addr → Prop} {C : Addr}
/-! ### harm_in -/
def fHarm (c : Cf) (wd : Wd) (args : List Sv) (res : PyData) : Prop := (∀ l ∈ wd.spoken, Lv c.m l ∧ l.length ≤ 1000) ∧ wd.spoken.length ≤ 1000 ∧ args = [] ∧ res = eW (harm c.mn c.m c.t wd)
theorem scHarm : FnScope ["world"] ["world"] (defScope (top 40)) := ⟨rfl, rfl, rfl, by decide +kernel, rfl, by decide +kernel, by decide +kernel⟩
theorem ok_harm (mPair : Mth P w K mg base 6 C "pair" (spS K G (fL K C fPair)) []) (mDead : Mth P w K mg base 3 C "is_dead" (spS K G (fL K C fDead)) []) (h : Dg K mg "harm_in" (top 40)) : Cal P w K mg base 7 "harm_in" (spS K G (fL K C fHarm)) [] :=
  cal_of h (fun f fd F => ok_S F scHarm (fun rs A ms Post ⟨_, _, _, _, ⟨_, _, e, _⟩, e2, _⟩ => by rw [e2, e] <;> rfl) fun c' A' outer s H E0 hcd hr rs A ms Post vs Q hR sa ha q => by
    obtain ⟨c, wd, args, res, ⟨h1, h2, rfl, rfl⟩, rfl, rfl, rfl, rfl⟩ := hR
    refine f_cons (f_if (x := (two c.m c.t wd.spoken).isSome) (Et.to (et_notN (d := eTwo (two c.m c.t wd.spoken)) (ed_meth0 (ss := []) (A := aW G K C c wd) (P0 := fun r B => r = .d (eTwo (two c.m c.t wd.spoken)) ∧ B = aW G K C c wd) mPair hr (ed_name 0) wI (fun _ => trivial) ⟨c, wd, [], _, ⟨h1, h2, rfl, rfl⟩, rfl, rfl, rfl, rfl⟩ wI (fun _ _ h => h.1))) (by cases two c.m c.t wd.spoken <;> rfl)) (fun e => ?_) fun e => f_nil ?_)
    · refine f_one (r_ed q ed_str ⟨?_, rfl⟩)
      unfold harm
      rw [e] <;> rfl
    · refine f_one (r_ed q (r := .d (eW (harm c.mn c.m c.t wd))) (ed_if (x := dead c.mn wd) (et_val (ed_meth0 (ss := []) (A := aW G K C c wd) (P0 := fun r B => r = .d (.bool (dead c.mn wd)) ∧ B = aW G K C c wd) mDead (hr.mono (by decide)) (ed_name 0) wI (fun _ => trivial) ⟨c, wd, [], _, ⟨rfl, rfl⟩, rfl, rfl, rfl, rfl⟩ wI (fun _ _ h => h.1))) (fun e2 => ?_) (fun e2 => ?_)) ⟨rfl, rfl⟩)
      · have e3 : harm c.mn c.m c.t wd = some "dead" := by unfold harm; rw [e, e2] <;> rfl
        rw [e3]
        exact ed_str
      · have e3 : harm c.mn c.m c.t wd = none := by unfold harm; rw [e, e2] <;> rfl
        rw [e3]
        exact ed_non)
    fun _ _ _ _ _ _ us hl => match us, hl with | [_], _ => rfl
/-- addresses at which something stands -/
def As.live (G : Addr → Prop) (NB : List Addr) : As G := ⟨fun H => ∀ z ∈ NB, ∃ o, H z = some o, @fun _ H' g _ h z hz => by
  obtain ⟨o, e⟩ := h z hz
  cases e2 : H' z with
  | some o => exact ⟨o, rfl⟩
  | none => rw [g.dom z e2] at e; cases e⟩
theorem live_gr {G : Addr → Prop} {NB ms : List Addr} {H H' : Hp} (h : (As.live G NB).P H) (g : Gr G ms H H') : (As.live G NB).P H' := fun z hz => by
  obtain ⟨o, e⟩ := h z hz
  cases e2 : H' z with
  | some o => exact ⟨o, rfl⟩
  | none => rw [g.dom z e2] at e; cases e
theorem live_not {G : Addr → Prop} {NB : List Addr} {H : Hp} {a : Addr} (h : (As.live G NB).P H) (n : H a = none) : a ∉ NB := fun z => by
  obtain ⟨o, e⟩ := h a z
  rw [n] at e
  cases e
/-! ### World(..) -/
def Dmd (K : PySem.W.Frag) (mg : Str → Option Value) (C : Addr) (x qual : Str) (st : Stmt) (dvs : List V) : Prop := ∃ f fd, FunD K "__init__" qual (defArgs st) (defBody st) (defScope st) dvs [] f fd ∧ Mk K C f ∧ mg x = some (.ref C)
def fWInit (K : PySem.W.Frag) (C : Addr) : List Sv → As G → List Addr → (Sv → As G → Prop) → Prop := fun rs A ms Post => ∃ (NB : List Addr) (a : Addr) (m : Mach) (k : Nat) (t : Tabl) (mn : Man), House m k t ∧ a ∉ NB ∧ rs = [.v (.ref a), .d (eM m), .d (eT t), .d (eMan mn)] ∧ A = (As.ins G K a C [] []).and (As.live G NB) ∧ ms = [a] ∧
  Post = fun r B => r = .d .none ∧ ∃ c : Cf, c.m = m ∧ c.k = k ∧ c.t = t ∧ c.mn = mn ∧ c.w = a ∧ (c.n ∉ NB ∧ c.s ∉ NB ∧ c.p ∉ NB) ∧ B = aW G K C c w0
theorem scWInit : FnScope ["self", "machine", "table", "manner"] ["self", "machine", "table", "manner"] (defScope (inClass (top 35) 0)) := ⟨rfl, rfl, rfl, by decide +kernel, rfl, by decide +kernel, by decide +kernel⟩
theorem muA {a : Addr} {H : Hp} : Mu [([a], H)] [a] := Mu.cons (fun _ h => .inl h) Mu.nil
theorem ok_winit (E : Ev K mg) (W : WF K C) {dvs : List V} (hdv : dvs.length = 1) (h : Dmd K mg C "World" "World.__init__" (inClass (top 35) 0) dvs) : Mkr P w K mg base 1 C "World" (spS K G (fWInit K C)) [] := by
  obtain ⟨f, fd, F, hm, hg⟩ := h
  have hok : FnOk P w K mg base CX0 1 f fd ["self", "machine", "table", "manner"] (spS K G (fWInit K C)) := by
    refine ok_S F scWInit (fun rs A ms Post ⟨_, _, _, _, _, _, _, _, e, _⟩ => by rw [e] <;> rfl) fun c' A' outer s H E0 hcd hr rs A ms Post vs Q hR sa ha q => ?_
    obtain ⟨NB, a, m, k, t, mn, hs, hn, rfl, rfl, rfl, rfl⟩ := hR
    have na : ∀ f ∈ wN, NoAttr K C f := W.na
    refine f_cons (f_fld (B := As.ins G K a C ["machine"] [.d (eM m)]) (.new (by decide)) (ed_name 1) (ed_name 0) (fun H h => h.1) W.cls (W.na _ (by decide +kernel)) muA (fun H H' _ _ _ h => h) ?_)
    refine f_cons (f_fld (B := As.ins G K a C ["machine", "table"] [.d (eM m), .d (eT t)]) (.new (by decide)) (ed_name 2) (ed_name 0) (fun H h => h) W.cls (W.na _ (by decide +kernel)) muA (fun H H' _ _ _ h => h) ?_)
    refine f_cons (f_fld (B := As.ins G K a C ["machine", "table", "manner"] [.d (eM m), .d (eT t), .d (eMan mn)]) (.new (by decide)) (ed_name 3) (ed_name 0) (fun H h => h) W.cls (W.na _ (by decide +kernel)) muA (fun H H' _ _ _ h => h) ?_)
    refine f_cons (f_fld (r := .d (eWh (0, none))) (B := As.ins G K a C ["machine", "table", "manner", "reading"] [.d (eM m), .d (eT t), .d (eMan mn), .d (eWh (0, none))]) (.new (by decide)) (ed_tup (ds := [eN 0, .none]) (ea_cons ed_int (ea_cons ed_non ea_nil)) (by simp)) (ed_name 0) (fun H h => h) W.cls (W.na _ (by decide +kernel)) muA (fun H H' _ _ _ h => h) ?_)
    refine f_cons (f_fldN (ds := [eNote ⟨0, none, [], 0⟩]) (ns' := ["machine", "table", "manner", "reading", "notes"]) (ρo' := fun p => [.d (eM m), .d (eT t), .d (eMan mn), .d (eWh (0, none)), .l p [eNote ⟨0, none, [], 0⟩]]) (B := fun p => As.ins G K a C ["machine", "table", "manner", "reading", "notes"] [.d (eM m), .d (eT t), .d (eMan mn), .d (eWh (0, none)), .l p [eNote ⟨0, none, [], 0⟩]]) (fun p => .new (by decide)) (en_lst (ds := [eNote ⟨0, none, [], 0⟩]) (ea_cons (ed_gtup E.birth) ea_nil) (by simp)) (ed_name 0) (fun H h => h) W.cls (W.na _ (by decide +kernel)) muA (fun p H H' _ _ _ h => h) (fun n mn_ on => ?_))
    refine f_cons (f_fld (r := .d (eSt .off)) (B := As.ins G K a C ["machine", "table", "manner", "reading", "notes", "standing"] [.d (eM m), .d (eT t), .d (eMan mn), .d (eWh (0, none)), .l n [eNote ⟨0, none, [], 0⟩], .d (eSt .off)]) (.new (by decide)) (ed_gtup E.off) (ed_name 0) (fun H h => h) W.cls (W.na _ (by decide +kernel)) muA (fun H H' _ _ _ h => h) ?_)
    refine f_cons (f_fldN (ds := []) (ns' := ["machine", "table", "manner", "reading", "notes", "standing", "said"]) (ρo' := fun p => [.d (eM m), .d (eT t), .d (eMan mn), .d (eWh (0, none)), .l n [eNote ⟨0, none, [], 0⟩], .d (eSt .off), .l p []]) (B := fun p => As.ins G K a C ["machine", "table", "manner", "reading", "notes", "standing", "said"] [.d (eM m), .d (eT t), .d (eMan mn), .d (eWh (0, none)), .l n [eNote ⟨0, none, [], 0⟩], .d (eSt .off), .l p []]) (fun p => .new (by decide)) (en_lst (ds := []) ea_nil (by simp)) (ed_name 0) (fun H h => h) W.cls (W.na _ (by decide +kernel)) muA (fun p H H' _ _ _ h => h) (fun s' ms_ os => ?_))
    refine f_one (f_fldN (ds := []) (ns' := wN) (ρo' := fun p => [.d (eM m), .d (eT t), .d (eMan mn), .d (eWh (0, none)), .l n [eNote ⟨0, none, [], 0⟩], .d (eSt .off), .l s' [], .l p []]) (B := fun p => As.ins G K a C wN [.d (eM m), .d (eT t), .d (eMan mn), .d (eWh (0, none)), .l n [eNote ⟨0, none, [], 0⟩], .d (eSt .off), .l s' [], .l p []]) (fun p => .new (by decide)) (en_lst (ds := []) ea_nil (by simp)) (ed_name 0) (fun H h => h) W.cls (W.na _ (by decide +kernel)) muA (fun p H H' _ _ _ h => h) (fun p mp op => ?_))
    have fr : ∀ {z : Addr}, Mu [([a], H)] [z] → z ∉ NB := fun {z} mu hz => (mu _ List.mem_cons_self z (by simp)).elim (fun e => hn (List.mem_singleton.mp e ▸ hz)) (fun e => live_not ha.2 e hz)
    have e1 : n ≠ s' := by
      have := os.2.2.2.2.1
      simpa [Off] using this
    have e2 : n ≠ p := by
      have := op.2.2.2.2.1
      simpa [Off] using this
    have e3 : s' ≠ p := by
      have := op.2.2.2.2.2.2.1
      simpa [Off] using this
    exact r_end q ⟨rfl, ⟨m, k, t, mn, hs, a, n, s', p, e1, e2, e3⟩, rfl, rfl, rfl, rfl, rfl, ⟨fr mn_, fr ms_, fr mp⟩, rfl⟩
  obtain ⟨ds, v, b⟩ := F.binds1 (ps := ["self", "machine", "table", "manner"]) 4 1 (by intro z; rw [z] at hdv; cases hdv) (by rw [hdv] <;> rfl) (fun T kV doc pm an cdv ct us its h1 h2 => by
    have h2' : its.length = 1 := by rw [h2, hdv]
    match us, its, h1, h2' with | [_, _, _, _], [_], _, _ => exact ⟨_, rfl, rfl⟩)
  have e : dvs.drop 1 = [] := List.drop_of_length_le (by omega)
  rw [e] at v
  exact ⟨f, fd, _, ds, hok, hm, hg, b, v⟩
end
end Wb

namespace Wb
open PySem PySem.Spec PyProof.Rows L2
section
variable {X : Cx} {G : Addr → Prop} {ρ : List Sv} {J : As G}
/-- tuple(a new list) -/
theorem ed_tupleN {e : Expr} {ds : List PyData} {p pos : Pos} (hm : X.mg "tuple" = none) (h : En X G e ρ J ds) (hg : Gl X "tuple" := by rfl) (he : starEach [e] X.env = (false, eval e X.env) :: starEach [] X.env := by rfl) (hpl : (backTo pos (starEach [] X.env)).any (·.1) = false := by rfl) :
    Ed X G (.Call (.Name "tuple" p) [e] [] pos) ρ J (.d (.tuple ds)) := fun σ H Q s t j q =>
  ⟨_, pe_callTy call_tuple_of hg hm (by decide +kernel) (pa_cons pe_c pa_nil he) (by decide) (by decide) he hpl, h σ H _ s t j fun a H1 na s1 g1 => by
    obtain ⟨_, xs, hx, a1, _⟩ := s1
    exact ⟨a, xs, rfl, .inl ⟨SqL.of hx, fun l hl => q _ _ ⟨_, rfl, .tup (SqT.of upd_same) (a1.up (Gr.new (G := G) (ms := []) hl))⟩ (g1.trans (Gr.new hl))⟩⟩⟩
end
/-! ### the class Bench -/
def bN : List Str := ["_world", "_steps"]
theorem bN_nd : bN.Nodup := by decide +kernel
structure Bf where
  c : Cf
  b : Addr
  st : Addr
  sn : st ≠ c.n
  ss : st ≠ c.s
  sp : st ≠ c.p
def bFs (f : Bf) (story : List Stp) : List Sv := [.v (.ref f.c.w), .l f.st (story.map eStp)]
def aB (G : Addr → Prop) (K : PySem.W.Frag) (CB CW : Addr) (f : Bf) (wd : Wd) (story : List Stp) : As G := (As.ins G K f.b CB bN (bFs f story)).and (aW G K CW f.c wd)
structure BFc (K : PySem.W.Frag) (C : Addr) : Prop where
  cls : Cls K C
  na : ∀ f ∈ bN, NoAttr K C f
section
variable {P : Program} {w : World} {K : PySem.W.Frag} {mg : Str → Option Value} {base : Heap} {G : Addr → Prop} {C CB : Addr}
theorem bI {L : List (List Addr × Hp)} {K : PySem.W.Frag} {f : Bf} {wd : Wd} {sy : List Stp} : ∀ H, (Jl L (aB G K CB C f wd sy)).P H → (As.ins G K f.b CB bN (bFs f sy)).P H := fun _ h => h.2.1
theorem bwI {L : List (List Addr × Hp)} {K : PySem.W.Frag} {f : Bf} {wd : Wd} {sy : List Stp} : ∀ H, (Jl L (aB G K CB C f wd sy)).P H → (aW G K C f.c wd).P H := fun _ h => h.2.2
/-- self._world, self._steps -/
theorem ed_b {X : Cx} {ρ : List Sv} {L : List (List Addr × Hp)} {o : Expr} {x : Str} {f : Bf} {wd : Wd} {sy : List Stp} {r : Sv} {pos : Pos} (j : Nat) (B : BFc X.K CB) (ho : Ed X G o ρ (Jl L (aB G X.K CB C f wd sy)) (.v (.ref f.b))) (hj : bN[j]? = some x := by rfl) (hr : (bFs f sy)[j]? = some r := by rfl) (hb : attributeBase o x X.env (eval o X.env) = eval o X.env := by rfl) : Ed X G (.Attribute o x pos) ρ (Jl L (aB G X.K CB C f wd sy)) r :=
  ed_fld j ho bI B.cls (B.na x (List.mem_of_getElem? hj)) bN_nd hj hr hb
/-- self._world.f -/
theorem ed_bw {X : Cx} {ρ : List Sv} {L : List (List Addr × Hp)} {o : Expr} {x : Str} {f : Bf} {wd : Wd} {sy : List Stp} {r : Sv} {p1 pos : Pos} (j : Nat) (B : BFc X.K CB) (W : WF X.K C) (ho : Ed X G o ρ (Jl L (aB G X.K CB C f wd sy)) (.v (.ref f.b))) (hj : wN[j]? = some x := by rfl) (hr : (wFs f.c wd)[j]? = some r := by rfl) (hb : attributeBase o "_world" X.env (eval o X.env) = eval o X.env := by rfl)
    (hb2 : attributeBase (.Attribute o "_world" p1) x X.env (eval (.Attribute o "_world" p1) X.env) = eval (.Attribute o "_world" p1) X.env := by rfl) : Ed X G (.Attribute (.Attribute o "_world" p1) x pos) ρ (Jl L (aB G X.K CB C f wd sy)) r :=
  ed_w (c := f.c) (wd := wd) j W bwI (ed_b 0 B ho rfl rfl hb) hj hr hb2
/-- what only looks at the bench -/
def fB (K : PySem.W.Frag) (CB C : Addr) (f : Bf → Wd → List Stp → List Sv → PyData → Prop) : List Sv → As G → List Addr → (Sv → As G → Prop) → Prop := fun rs A ms Post => ∃ (b : Bf) (wd : Wd) (sy : List Stp) (args : List Sv) (res : PyData), f b wd sy args res ∧ rs = .v (.ref b.b) :: args ∧ A = aB G K CB C b wd sy ∧ ms = [] ∧ Post = fun r B => r = .d res ∧ B = aB G K CB C b wd sy
def fFitting (b : Bf) (wd : Wd) (sy : List Stp) (args : List Sv) (res : PyData) : Prop := wd.shelf.length ≤ 1000 ∧ args = [] ∧ res = .tuple ((wd.shelf.filter (fits b.c.mn wd)).map eNote)
theorem scFitting : FnScope ["self", "note"] ["self"] (defScope (inClass (top 42) 7)) := ⟨rfl, rfl, rfl, by decide +kernel, rfl, by decide +kernel, by decide +kernel⟩
theorem ok_fitting (E : Ev K mg) (B : BFc K CB) (W : WF K C) (mFits : Mth P w K mg base 1 C "fits" (spS K G (fFits K C)) []) (h : Dm K CB "fitting" "Bench.fitting" (inClass (top 42) 7)) : Mth P w K mg base 2 CB "fitting" (spS K G (fB K CB C fFitting)) [] :=
  mth_of h B.cls (fun f fd F => ok_S F scFitting (fun rs A ms Post ⟨_, _, _, _, _, ⟨_, e, _⟩, e2, _⟩ => by rw [e2, e] <;> rfl) fun c' A' outer s H E0 hcd hr rs A ms Post vs Q hR sa ha q => by
    obtain ⟨b, wd, sy, args, res, ⟨h1, rfl, rfl⟩, rfl, rfl, rfl, rfl⟩ := hR
    refine f_one (r_ed q (Ed.to (ed_tupleN E.tuple (en_lc 1 (ds := wd.shelf.map eNote) (liftB eNote (fits b.c.mn wd)) (liftD eNote eNote) (ep_lst (a := b.c.n) (ds := wd.shelf.map eNote) (ed_bw 4 B W (ed_name 0)) (by simp)) (by simp; omega) (fun d hd s H0 C' cl fp => .one ?_) (fun d hd _ s H0 C' cl fp => ?_) scFitting.nd (blkOk_by (N := ["self", "note"]) (sc := defScope (inClass (top 42) 7)) (by decide +kernel)))) (by rw [keepM_map (fun _ _ => eNote_inj)])) ⟨rfl, rfl⟩)
    · obtain ⟨o, ho, rfl⟩ := List.mem_map.mp hd
      rw [liftB_at (fun _ _ => eNote_inj)]
      exact et_val (ed_meth (ss := []) (A := aW G K C b.c wd) (P0 := fun r B => r = .d (.bool (fits b.c.mn wd o)) ∧ B = aW G K C b.c wd) mFits hr (ed_b 0 B (ed_name 0)) bwI (ea_cons (ed_name 1) ea_nil) (fun _ => trivial) (by rw [List.append_nil]; exact ⟨b.c, wd, o, rfl, rfl, rfl, rfl⟩) bwI (fun _ _ h => h.1))
    · obtain ⟨o, ho, rfl⟩ := List.mem_map.mp hd
      rw [liftD_at (fun _ _ => eNote_inj)]
      exact ed_name 1)
    fun _ _ _ _ _ _ us hl => match us, hl with | [_], _ => rfl
/-! ### harm -/
def fBHarm (b : Bf) (wd : Wd) (sy : List Stp) (args : List Sv) (res : PyData) : Prop := fHarm b.c wd args res
theorem scBHarm : FnScope ["self"] ["self"] (defScope (inClass (top 42) 13)) := ⟨rfl, rfl, rfl, by decide +kernel, rfl, by decide +kernel, by decide +kernel⟩
theorem ok_bharm (B : BFc K CB) (W : WF K C) (cHarm : Cal P w K mg base 7 "harm_in" (spS K G (fL K C fHarm)) []) (h : Dm K CB "harm" "Bench.harm" (inClass (top 42) 13)) : Mth P w K mg base 8 CB "harm" (spS K G (fB K CB C fBHarm)) [] :=
  mth_of h B.cls (fun f fd F => ok_S F scBHarm (fun rs A ms Post ⟨_, _, _, _, _, ⟨_, _, e, _⟩, e2, _⟩ => by rw [e2, e] <;> rfl) fun c' A' outer s H E0 hcd hr rs A ms Post vs Q hR sa ha q => by
    obtain ⟨b, wd, sy, args, res, ⟨h1, h2, rfl, rfl⟩, rfl, rfl, rfl, rfl⟩ := hR
    exact f_one (r_ed q (ed_callS (ss := []) (rs := [.v (.ref b.c.w)]) (A := aW G K C b.c wd) (P0 := fun r B => r = .d (eW (harm b.c.mn b.c.m b.c.t wd)) ∧ B = aW G K C b.c wd) cHarm hr (ea_cons (ed_b 0 B (ed_name 0)) ea_nil) (fun _ => trivial) ⟨b.c, wd, [], _, ⟨h1, h2, rfl, rfl⟩, rfl, rfl, rfl, rfl⟩ bwI (fun _ _ h => h.1)) ⟨rfl, rfl⟩))
    fun _ _ _ _ _ _ us hl => match us, hl with | [_], _ => rfl
/-! ### properties -/
/-- the property x of C, its getter g keeps its promise -/
def Prp (P : Program) (w : World) (K : PySem.W.Frag) (mg : Str → Option Value) (base : Heap) (k : Nat) (C : Addr) (x : Str) (sp : Sp) : Prop :=
  ∃ (p g : Addr) (fd : FuncData) (ps : List Str), FnOk P w K mg base CX0 k g fd ps sp ∧ Cls K C ∧ PropOf K C x p g ∧ Binds K fd ps []
def Dpr (K : PySem.W.Frag) (C : Addr) (x qual : Str) (st : Stmt) : Prop := ∃ p g fd, FunD K x qual (defArgs st) (defBody st) (defScope st) [] [] g fd ∧ PropOf K C x p g
theorem prp_of {x qual : Str} {st : Stmt} {ps : List Str} {k : Nat} {sp : Sp} (h : Dpr K C x qual st) (hc : Cls K C) (hok : ∀ f fd, FunD K x qual (defArgs st) (defBody st) (defScope st) [] [] f fd → FnOk P w K mg base CX0 k f fd ps sp)
    (hb : ∀ (kV doc pm : Value) (an : Option Addr) (cdv ct : Value) (us : List Value), us.length = ps.length → bindArgs (PySem.W.fnOf x qual (defArgs st) (defBody st) (defScope st) .none kV doc pm an cdv ct) { pos := us } = pure (ps.zip us)) : Prp P w K mg base k C x sp := by
  obtain ⟨p, g, fd, F, hp⟩ := h
  exact ⟨p, g, fd, ps, hok g fd F, hc, hp, F.bindsN hb⟩
theorem ed_prp {X : Cx} {ρ : List Sv} {J : As G} {k : Nat} {x : Str} {f : Bf → Wd → List Stp → List Sv → PyData → Prop} {b : Bf} {wd : Wd} {sy : List Stp} {res : PyData} {o : Expr} {pos : Pos} (M : Prp X.prog X.w X.K X.mg X.base k CB x (spS X.K G (fB X.K CB C f))) (hr : Room (k + 1) X.A) (ho : Ed X G o ρ J (.v (.ref b.b))) (hI : ∀ H, J.P H → (aB G X.K CB C b wd sy).P H) (hf : f b wd sy [] res) (hab : attributeBase o x X.env (eval o X.env) = eval o X.env := by rfl) : Ed X G (.Attribute o x pos) ρ J (.d res) := by
  obtain ⟨p, g, fd, ps, F, hc, hp, hb⟩ := M
  exact ed_prop (ss := []) (dvs := []) (A := aB G X.K CB C b wd sy) (P0 := fun r B => r = .d res ∧ B = aB G X.K CB C b wd sy) hc hp F hb .nil hr ho (fun H h => (hI H h).1) (fun _ => trivial) ⟨b, wd, sy, [], res, hf, rfl, rfl, rfl, rfl⟩ hI (fun _ _ h => h.1) hab
def fWheel (b : Bf) (wd : Wd) (sy : List Stp) (args : List Sv) (res : PyData) : Prop := args = [] ∧ res = eWh wd.wheel
def fShelf (b : Bf) (wd : Wd) (sy : List Stp) (args : List Sv) (res : PyData) : Prop := args = [] ∧ res = .tuple (wd.shelf.map eNote)
def fStand (b : Bf) (wd : Wd) (sy : List Stp) (args : List Sv) (res : PyData) : Prop := args = [] ∧ res = eSt wd.stand
def fTell (b : Bf) (wd : Wd) (sy : List Stp) (args : List Sv) (res : PyData) : Prop := args = [] ∧ res = .tuple (wd.heard.map eH)
def fStory (b : Bf) (wd : Wd) (sy : List Stp) (args : List Sv) (res : PyData) : Prop := args = [] ∧ res = .tuple (sy.map eStp)
theorem scPrp (j : Nat) (hj : j = 8 ∨ j = 9 ∨ j = 10 ∨ j = 11 ∨ j = 12) : FnScope ["self"] ["self"] (defScope (inClass (top 42) j)) := by
  rcases hj with rfl | rfl | rfl | rfl | rfl <;> exact ⟨rfl, rfl, rfl, by decide +kernel, rfl, by decide +kernel, by decide +kernel⟩
theorem ok_wheel (B : BFc K CB) (W : WF K C) (h : Dpr K CB "wheel" "Bench.wheel" (inClass (top 42) 8)) : Prp P w K mg base 1 CB "wheel" (spS K G (fB K CB C fWheel)) :=
  prp_of h B.cls (fun f fd F => ok_S F (scPrp 8 (by simp)) (fun rs A ms Post ⟨_, _, _, _, _, ⟨e, _⟩, e2, _⟩ => by rw [e2, e] <;> rfl) fun c' A' outer s H E0 hcd hr rs A ms Post vs Q hR sa ha q => by
    obtain ⟨b, wd, sy, args, res, ⟨rfl, rfl⟩, rfl, rfl, rfl, rfl⟩ := hR
    exact f_one (r_ed q (ed_bw 3 B W (ed_name 0)) ⟨rfl, rfl⟩))
    fun _ _ _ _ _ _ us hl => match us, hl with | [_], _ => rfl
theorem ok_shelf (E : Ev K mg) (B : BFc K CB) (W : WF K C) (h : Dpr K CB "shelf" "Bench.shelf" (inClass (top 42) 9)) : Prp P w K mg base 1 CB "shelf" (spS K G (fB K CB C fShelf)) :=
  prp_of h B.cls (fun f fd F => ok_S F (scPrp 9 (by simp)) (fun rs A ms Post ⟨_, _, _, _, _, ⟨e, _⟩, e2, _⟩ => by rw [e2, e] <;> rfl) fun c' A' outer s H E0 hcd hr rs A ms Post vs Q hR sa ha q => by
    obtain ⟨b, wd, sy, args, res, ⟨rfl, rfl⟩, rfl, rfl, rfl, rfl⟩ := hR
    exact f_one (r_ed q (ed_tupleL (a := b.c.n) (ds := wd.shelf.map eNote) E.tuple (ed_bw 4 B W (ed_name 0))) ⟨rfl, rfl⟩))
    fun _ _ _ _ _ _ us hl => match us, hl with | [_], _ => rfl
theorem ok_stand (B : BFc K CB) (W : WF K C) (h : Dpr K CB "stand" "Bench.stand" (inClass (top 42) 10)) : Prp P w K mg base 1 CB "stand" (spS K G (fB K CB C fStand)) :=
  prp_of h B.cls (fun f fd F => ok_S F (scPrp 10 (by simp)) (fun rs A ms Post ⟨_, _, _, _, _, ⟨e, _⟩, e2, _⟩ => by rw [e2, e] <;> rfl) fun c' A' outer s H E0 hcd hr rs A ms Post vs Q hR sa ha q => by
    obtain ⟨b, wd, sy, args, res, ⟨rfl, rfl⟩, rfl, rfl, rfl, rfl⟩ := hR
    exact f_one (r_ed q (ed_bw 5 B W (ed_name 0)) ⟨rfl, rfl⟩))
    fun _ _ _ _ _ _ us hl => match us, hl with | [_], _ => rfl
theorem ok_tell (E : Ev K mg) (B : BFc K CB) (W : WF K C) (h : Dpr K CB "told" "Bench.told" (inClass (top 42) 11)) : Prp P w K mg base 1 CB "told" (spS K G (fB K CB C fTell)) :=
  prp_of h B.cls (fun f fd F => ok_S F (scPrp 11 (by simp)) (fun rs A ms Post ⟨_, _, _, _, _, ⟨e, _⟩, e2, _⟩ => by rw [e2, e] <;> rfl) fun c' A' outer s H E0 hcd hr rs A ms Post vs Q hR sa ha q => by
    obtain ⟨b, wd, sy, args, res, ⟨rfl, rfl⟩, rfl, rfl, rfl, rfl⟩ := hR
    exact f_one (r_ed q (ed_tupleL (a := b.c.s) (ds := wd.heard.map eH) E.tuple (ed_bw 6 B W (ed_name 0))) ⟨rfl, rfl⟩))
    fun _ _ _ _ _ _ us hl => match us, hl with | [_], _ => rfl
theorem ok_story (E : Ev K mg) (B : BFc K CB) (W : WF K C) (h : Dpr K CB "story" "Bench.story" (inClass (top 42) 12)) : Prp P w K mg base 1 CB "story" (spS K G (fB K CB C fStory)) :=
  prp_of h B.cls (fun f fd F => ok_S F (scPrp 12 (by simp)) (fun rs A ms Post ⟨_, _, _, _, _, ⟨e, _⟩, e2, _⟩ => by rw [e2, e] <;> rfl) fun c' A' outer s H E0 hcd hr rs A ms Post vs Q hR sa ha q => by
    obtain ⟨b, wd, sy, args, res, ⟨rfl, rfl⟩, rfl, rfl, rfl, rfl⟩ := hR
    exact f_one (r_ed q (ed_tupleL (a := b.st) (ds := sy.map eStp) E.tuple (ed_b 1 B (ed_name 0))) ⟨rfl, rfl⟩))
    fun _ _ _ _ _ _ us hl => match us, hl with | [_], _ => rfl
end
end Wb

namespace Wb
open PySem PySem.Spec PyProof.Rows L2
/-! ### X(), X an own exception class -/
section
variable {X : Cx} {C : Addr} {bmB : List Value} {B newId initId : String}
theorem pmk_own0 {x : Str} {p pos : Pos} (F : ExcBaseFacts B newId initId bmB) (q : PySem.W.excIn X.K C bmB newId = true) (gC : X.mg x = some (.ref C)) (kC : PySem.W.keepIn X.K (.ref C) = true) (r : Raises X (.ref C)) (hg : Gl X x)
    (hdb : (x == ("__debug__" : Str)) = false := by decide) : PMk X (.Call (.Name x p) [] [] pos) (fun _ H Q => Q (.ref C) none H) := by
  intro pins s σ H Q I h
  refine wpAny_Call_Name_kw (ld_glob I hg gC ?_ hdb)
  refine PySem.W.callWith_K0 I.kIn kC ?_
  show wpAny _ _ (call (.ref C) []) _ _ _
  obtain ⟨bm, N, nm, qn, bs, hdct, sn, sub, ab, col, dd, k0, k1, k2, k3, k5, mN, hC, hN, hni, T⟩ := exc_obj I.kIn q
  refine wpAny_call_exc_subT F T hC hN hni (fun h' e hm => ?_) (Nat.zero_le _)
  exact mk_of I hm r h (I.hok.gone hm.new)
end
section
variable {X : Cx} {G : Addr → Prop} {ρ : List Sv} {J : As G} {E : XK} {Cb : Addr} {D : Ends}
/-- what is known of the exception class -/
structure Bad (K : PySem.W.Frag) (mg : Str → Option Value) (Cb : Addr) (x : Str) : Prop where
  ex : ∃ bmB newId initId B, ExcBaseFacts B newId initId bmB ∧ PySem.W.excIn K Cb bmB newId = true
  g : mg x = some (.ref Cb)
  k : PySem.W.keepIn K (.ref Cb) = true
  s : PySem.W.subIn K (.ref Cb) (.type "BaseException") = some true
  t : PySem.W.typeIn K (.ref Cb) = some (.type "type")
theorem f_raise {x : Str} {p pos pos' : Pos} (tk : Takes X (fun cls d _ H => E cls d H)) (b : Bad X.K X.mg Cb x) (k : ∀ H, Tb G H → J.P H → E (.ref Cb) none H) (hg : Gl X x := by rfl) (hc : X.calm = true := by rfl) (hdb : (x == ("__debug__" : Str)) = false := by decide) : Fin X (cS X (.Raise (some (.Call (.Name x p) [] [] pos)) none pos') D) ρ J := fun σ H s t j => by
  obtain ⟨bmB, newId, initId, B, F, q⟩ := b.ex
  exact ⟨_, ps_raise hc tk (pmk_own0 F q b.g b.k (raises_own b.s b.t) hg hdb), k H t j⟩
/-- an expression that may raise Cb: where ok is false it does -/
def Ekz (X : Cx) (G : Addr → Prop) (E : XK) (Cb : Addr) (e : Expr) (ρ : List Sv) (J : As G) (ok : Bool) (Post : Sv → As G → Prop) : Prop := ∀ (σ : L2.St) (H : Hp) (Q : VK), Sl X.K H ρ σ → Tb G H → J.P H →
  (ok = true → ∀ r J' v H', Post r J' → SvOk X.K H' r (some v) → Fresh H r → Sl X.K H' ρ σ → Tb G H' → J'.P H' → Q v H') → (ok = false → ∀ r J' H', Post r J' → Tb G H' → J'.P H' → E (.ref Cb) none H') → cE X e σ H Q
/-- the promise of what may raise Cb -/
def spZ (K : PySem.W.Frag) (G : Addr → Prop) (Cb : Addr) (R : List Sv → As G → List Addr → Bool → (Sv → As G → Prop) → Prop) : Sp := fun vs H Q E =>
  ∃ rs A ms ok Post, R rs A ms ok Post ∧ SvA K H rs vs ∧ Tb G H ∧ A.P H ∧ (ok = true → ∀ r B v H', Post r B → SvOk K H' r (some v) → Fresh H r → Gr G ms H H' → B.P H' → Q v H') ∧ (ok = false → ∀ r B H', Post r B → Gr G ms H H' → B.P H' → E (.ref Cb) none H')
def MthZ (P : Program) (w : World) (K : PySem.W.Frag) (mg : Str → Option Value) (base : Heap) (k : Nat) (C : Addr) (m : Str) (sp : Sp) : Prop :=
  ∃ (f : Addr) (fd : FuncData) (ps : List Str), FnOk P w K mg base (CX P w) k f fd ps sp ∧ Cls K C ∧ Meth K C m f ∧ Binds K fd ps []
def CalZ (P : Program) (w : World) (K : PySem.W.Frag) (mg : Str → Option Value) (base : Heap) (k : Nat) (x : Str) (sp : Sp) : Prop :=
  ∃ (f : Addr) (fd : FuncData) (ps : List Str), FnOk P w K mg base (CX P w) k f fd ps sp ∧ mg x = some (.ref f) ∧ PySem.W.keepIn K (.ref f) = true ∧ Binds K fd ps []
section
variable {R : List Sv → As G → List Addr → Bool → (Sv → As G → Prop) → Prop} {rs : List Sv} {A : As G} {ms : List Addr} {ok : Bool} {P0 Post : Sv → As G → Prop} {k : Nat}
theorem ret_z {vs : List V} {H H1 : Hp} {σ : L2.St} {Q : VK} (hR : R rs A ms ok P0) (hJA : ∀ H, J.P H → A.P H) (hoff : OffL ms ρ)
    (hP : ∀ r B H H', P0 r B → J.P H → Tb G H → Gr G ms H H' → B.P H' → ∃ J', Post r J' ∧ J'.P H') (s : Sl X.K H ρ σ) (t : Tb G H) (j : J.P H) (s1 : SvA X.K H1 rs vs) (g1 : Gr G [] H H1)
    (q : ok = true → ∀ r J' v H', Post r J' → SvOk X.K H' r (some v) → Fresh H r → Sl X.K H' ρ σ → Tb G H' → J'.P H' → Q v H') (qe : ok = false → ∀ r J' H', Post r J' → Tb G H' → J'.P H' → E (.ref Cb) none H') : spZ X.K G Cb R vs H1 Q E :=
  ⟨rs, A, ms, ok, P0, hR, s1, t.up g1, hJA _ (J.up g1 t j), fun e r B v H2 p s2 f2 g2 b => by
    obtain ⟨J', hp', hj'⟩ := hP r B H1 H2 p (J.up g1 t j) (t.up g1) g2 b
    exact q e r J' v H2 hp' s2 (Fresh.back g1 f2) (Sl.up g2 (t.up g1) hoff.all (s.g0 g1 t)) ((t.up g1).up g2) hj', fun e r B H2 p g2 b => by
    obtain ⟨J', hp', hj'⟩ := hP r B H1 H2 p (J.up g1 t j) (t.up g1) g2 b
    exact qe e r J' H2 hp' ((t.up g1).up g2) hj'⟩
section
variable {o e : Expr} {es : List Expr} {m : Str} {apos pos : Pos} {C a : Addr} {ns : List Str} {ρo : List Sv} {pl : Sem Bool}
theorem ekz_meth (M : MthZ X.prog X.w X.K X.mg X.base k C m (spZ X.K G Cb R)) (tk : Takes X (fun cls d _ H => E cls d H)) (hr : Room k X.A) (ho : Ed X G o ρ J (.v (.ref a))) (hI : ∀ H, J.P H → IAt X.K H a C ns ρo) (ha : Ea X G (e :: es) ρ J rs) (hR : R (.v (.ref a) :: rs) A ms ok P0) (hJA : ∀ H, J.P H → A.P H) (hoff : OffL ms ρ)
    (hP : ∀ r B H H', P0 r B → J.P H → Tb G H → Gr G ms H H' → B.P H' → ∃ J', Post r J' ∧ J'.P H') (hns : m ∉ ns := by decide)
    (hst : starEach (e :: es) X.env = (false, eval e X.env) :: starEach es X.env := by rfl) (hpl : (backTo pos (starEach es X.env)).any (·.1) = false := by rfl)
    (ht : eval (.Call (.Attribute o m apos) (e :: es) [] pos) X.env = (do
      let ov ← eval o X.env
      standAt apos.atName
      let (f, first) ← holding [ov] (getMethod ov m pl)
      callWith pos f first (backTo pos (starEach (e :: es) X.env)) (backToKw pos (keywordEach [] X.env))) := by rfl) : Ekz X G E Cb (.Call (.Attribute o m apos) (e :: es) [] pos) ρ J ok Post := fun σ H Q s t j q qe => by
  obtain ⟨f, fd, ps, F, hc, hm, hb⟩ := M
  refine ⟨_, pe_meth (E := E) pe_c hc hm F hr hb .nil (passes_call tk fun _ _ _ _ h => h) pa_c hst hpl ht, ho σ H _ s t j fun v H1 s1 g1 => ?_⟩
  cases s1
  obtain ⟨dx, vs, h1, h2, h3⟩ := hI H1 (J.up g1 t j)
  refine ⟨a, dx, _, rfl, h1, lookup_zipN hns, ha σ H1 _ (s.g0 g1 t) (t.up g1) (J.up g1 t j) fun ws H2 s2 g2 => ?_⟩
  rw [List.append_nil]
  exact ret_z (rs := .v (.ref a) :: rs) (vs := .ref a :: ws) hR hJA hoff hP s t j ⟨rfl, s2⟩ (g1.trans g2) q qe
theorem ekz_meth0 (M : MthZ X.prog X.w X.K X.mg X.base k C m (spZ X.K G Cb R)) (tk : Takes X (fun cls d _ H => E cls d H)) (hr : Room k X.A) (ho : Ed X G o ρ J (.v (.ref a))) (hI : ∀ H, J.P H → IAt X.K H a C ns ρo) (hR : R [.v (.ref a)] A ms ok P0) (hJA : ∀ H, J.P H → A.P H) (hoff : OffL ms ρ)
    (hP : ∀ r B H H', P0 r B → J.P H → Tb G H → Gr G ms H H' → B.P H' → ∃ J', Post r J' ∧ J'.P H') (hns : m ∉ ns := by decide)
    (ht : eval (.Call (.Attribute o m apos) [] [] pos) X.env = (do
      let ov ← eval o X.env
      standAt apos.atName
      let (f, first) ← holding [ov] (getMethod ov m pl)
      callWith pos f first (backTo pos (starEach [] X.env)) (backToKw pos (keywordEach [] X.env))) := by rfl) : Ekz X G E Cb (.Call (.Attribute o m apos) [] [] pos) ρ J ok Post := fun σ H Q s t j q qe => by
  obtain ⟨f, fd, ps, F, hc, hm, hb⟩ := M
  refine ⟨_, pe_meth0 (E := E) pe_c hc hm F hr hb .nil (passes_call tk fun _ _ _ _ h => h) ht, ho σ H _ s t j fun v H1 s1 g1 => ?_⟩
  cases s1
  obtain ⟨dx, vs, h1, h2, h3⟩ := hI H1 (J.up g1 t j)
  refine ⟨a, dx, _, rfl, h1, lookup_zipN hns, ?_⟩
  exact ret_z (rs := [.v (.ref a)]) (vs := [.ref a]) hR hJA hoff hP s t j ⟨rfl, trivial⟩ g1 q qe
theorem ekz_call {x : Str} {p : Pos} (C : CalZ X.prog X.w X.K X.mg X.base k x (spZ X.K G Cb R)) (tk : Takes X (fun cls d _ H => E cls d H)) (hr : Room k X.A) (ha : Ea X G (e :: es) ρ J rs) (hR : R rs A ms ok P0) (hJA : ∀ H, J.P H → A.P H) (hoff : OffL ms ρ)
    (hP : ∀ r B H H', P0 r B → J.P H → Tb G H → Gr G ms H H' → B.P H' → ∃ J', Post r J' ∧ J'.P H')
    (hg : Gl X x := by rfl) (hdb : (x == ("__debug__" : Str)) = false := by decide) (he : starEach (e :: es) X.env = (false, eval e X.env) :: starEach es X.env := by rfl) (hpl : (backTo pos (starEach es X.env)).any (·.1) = false := by rfl) : Ekz X G E Cb (.Call (.Name x p) (e :: es) [] pos) ρ J ok Post := fun σ H Q s t j q qe => by
  obtain ⟨f, fd, ps, F, hm, hk, hb⟩ := C
  refine ⟨_, pe_call (E := E) F hr hg hm hk hb .nil (passes_call tk fun _ _ _ _ h => h) pa_c hdb he hpl, ha σ H _ s t j fun vs H1 s1 g1 => ?_⟩
  show spZ X.K G Cb R (vs ++ []) H1 Q E
  rw [List.append_nil]
  exact ret_z hR hJA hoff hP s t j s1 g1 q qe
end
end
theorem ekz_if {c a b : Expr} {x ok : Bool} {Post : Sv → As G → Prop} {pos : Pos} (h : Et X G c ρ J x) (h1 : x = true → Ekz X G E Cb a ρ J ok Post) (h2 : x = false → Ekz X G E Cb b ρ J ok Post) : Ekz X G E Cb (.IfExp c a b pos) ρ J ok Post := fun σ H Q hs ht hj q qe =>
  ⟨_, pe_ifExp pt_c pe_c pe_c, h σ H _ hs ht hj fun H1 g1 => by
    have q' : ok = true → ∀ r J' v H', Post r J' → SvOk X.K H' r (some v) → Fresh H1 r → Sl X.K H' ρ σ → Tb G H' → J'.P H' → Q v H' := fun e r J' v H' p s f sl t j => q e r J' v H' p s (Fresh.back g1 f) sl t j
    cases x with
    | true => exact h1 rfl σ H1 Q (hs.g0 g1 ht) (ht.up g1) (J.up g1 ht hj) q' qe
    | false => exact h2 rfl σ H1 Q (hs.g0 g1 ht) (ht.up g1) (J.up g1 ht hj) q' qe⟩
/-- what the way out asks of a def that may raise -/
def Qz (K : PySem.W.Frag) (G : Addr → Prop) (ms : List Addr) (H : Hp) (Cb : Addr) (ok : Bool) (Post : Sv → As G → Prop) (Q : VK) (E : XK) : Prop := (ok = true → Qok K G ms H Post Q) ∧ (ok = false → ∀ r B H', Post r B → Tb G H' → (Jl [(ms, H)] B).P H' → E (.ref Cb) none H')
theorem r_ekz {L : List (List Addr × Hp)} {A : As G} {ms : List Addr} {H0 : Hp} {ok : Bool} {Post Post' : Sv → As G → Prop} {e : Expr} {pos : Pos} (q : Qz X.K G ms H0 Cb ok Post D.rt E) (h : Ekz X G E Cb e ρ (Jl L A) ok Post') (hP : ∀ r J', Post' r J' → ∃ B, Post r B ∧ ∀ H, J'.P H → (Jl [(ms, H0)] B).P H) (hL : (ms, H0) ∈ L := by simp) : Fin X (cS X (.Return (some e) pos) D) ρ (Jl L A) := fun σ H s t j =>
  ⟨_, ps_ret pe_c, h σ H _ s t j (fun e r J' v H' p s' f sl t' j' => by
    obtain ⟨B, hB, hJ⟩ := hP r J' p
    exact q.1 e r B v H' hB s' (Fresh.back (j.1 _ hL) f) t' (hJ H' j')) (fun e r J' H' p t' j' => by
    obtain ⟨B, hB, hJ⟩ := hP r J' p
    exact q.2 e r B H' hB t' (hJ H' j'))⟩
end
section
variable {P : Program} {w : World} {K : PySem.W.Frag} {mg : Str → Option Value} {base : Heap} {x qual : Str} {params : Arguments} {body : List Stmt} {scope : Scope} {dvs : List V} {kws : List (Str × V)} {f : Addr} {fd : FuncData} {G : Addr → Prop} {Cb : Addr}
theorem ok_Z {N ps : List Str} {k : Nat} {R : List Sv → As G → List Addr → Bool → (Sv → As G → Prop) → Prop} (F : FunD K x qual params body scope dvs kws f fd) (S : FnScope N ps scope) (len : ∀ rs A ms ok Post, R rs A ms ok Post → rs.length = ps.length)
    (hbody : ∀ (c : Addr) (A' : Around) (outer : List Env) (s : Shared) (H : Hp) (E : XK), Room k (A'.deeper (envOfC qual scope s.heap.objs.size f (.ref c))) → ∀ rs A ms ok Post vs Q, R rs A ms ok Post → SvA K H rs vs → A.P H → Qz K G ms H Cb ok Post Q E → Takes (cxOf (CX P w) P w K mg base N qual scope f (.ref c) A' outer s H E) (fun cls d _ H => E cls d H) →
      Fin (G := G) (cxOf (CX P w) P w K mg base N qual scope f (.ref c) A' outer s H E) (cSs (cxOf (CX P w) P w K mg base N qual scope f (.ref c) A' outer s H E) body { nx := fun _ H' => Q .non H', rt := Q }) (rs ++ List.replicate (N.length - ps.length) .u) (Jl [(ms, H)] A)) : FnOk P w K mg base (CX P w) (k + 1) f fd ps (spZ K G Cb R) := by
  obtain ⟨oc, od, dV, kV, doc, pm, an, cdv, ct, osl, rfl, lk, hcd, _, _⟩ := F.ex
  obtain ⟨c, rfl⟩ := He.codeIn_ref hcd
  refine fn_of lk hcd S (fun vs H Q E h => ?_) (fun A' outer s H vs Q E hr h => ?_)
  · obtain ⟨rs, A, ms, ok, Post, hR, sa, _⟩ := h
    rw [sa.len]
    exact len rs A ms ok Post hR
  · obtain ⟨rs, A, ms, ok, Post, hR, sa, tb, ha, q, qe⟩ := h
    have hl : vs.length = ps.length := by rw [sa.len]; exact len rs A ms ok Post hR
    have q' : Qz K G ms H Cb ok Post Q E := ⟨fun e r B v H' p s' fr t j => q e r B v H' p s' fr (j.1 _ List.mem_cons_self) j.2, fun e r B H' p t j => qe e r B H' p (j.1 _ List.mem_cons_self) j.2⟩
    obtain ⟨t, h1, h2⟩ := fin_ok (hbody c A' outer s H E hr rs A ms ok Post vs Q hR sa ha q' (takes_of rfl rfl rfl rfl)) (SvA.st (N.length - ps.length) sa) tb ⟨fun p hp => by rw [List.mem_singleton.mp hp]; exact Gr.refl, ha⟩
    refine ⟨t, h1, ?_⟩
    have e : L2.start N vs = vs.map some ++ List.replicate (N.length - ps.length) none := by
      unfold L2.start
      rw [hl]
    rw [e]
    exact h2
end
end Wb

namespace Wb
open PySem PySem.Spec PyProof.Rows L2
section
variable {X : Cx} {G : Addr → Prop} {ρ : List Sv} {J : As G}
/-- xs[lo:hi], a list that is known -/
theorem en_sl {e : Expr} {lo hi : Option Expr} {l u : Option Int} {a : Addr} {ds : List PyData} {pos p2 : Pos} (he : Ed X G e ρ J (.l a ds)) (hl : Eo X G lo ρ J l) (hu : Eo X G hi ρ J u) : En X G (.Subscript e (.Slice lo hi none p2) pos) ρ J (cutD ds l u) := fun σ H Q hs ht hj q => by
  refine ⟨_, pe_slice sl_list pe_c po_c po_c, he σ H _ hs ht hj fun v H1 s1 g1 => hl σ H1 _ (hs.g0 g1 ht) (ht.up g1) (J.up g1 ht hj) fun H2 g2 => hu σ H2 _ (hs.g0 (g1.trans g2) ht) (ht.up (g1.trans g2)) (J.up (g1.trans g2) ht hj) fun H3 g3 => ?_⟩
  have g := g1.trans (g2.trans g3)
  obtain ⟨e1, xs, hx, da, hz⟩ := s1.g0 (g2.trans g3) (ht.up g1)
  cases e1
  refine ⟨a, xs, rfl, SqL.of hx, fun n hn => q n _ (g.free hn) ⟨rfl, _, upd_same, (da.cut l u).up (Gr.new (G := G) (ms := []) hn), Nat.le_trans (cutV_length _ _ _) hz⟩ (g.trans (Gr.new hn))⟩
end
def Bf.ms (b : Bf) : List Addr := [b.c.w, b.c.n, b.c.s, b.c.p, b.st]
def heardD (wd wd' : Wd) : PyData := .tuple ((wd'.heard.drop wd.heard.length).map eH)
def syN (m : Mach) (wd : Wd) (s : Stp) (sy : List Stp) : List Stp := if doable m wd s = true then sy ++ [s] else sy
/-- a step of the bench -/
def fZ (K : PySem.W.Frag) (CB C : Addr) (f : Stp → List Sv → Prop) : List Sv → As G → List Addr → Bool → (Sv → As G → Prop) → Prop := fun rs A ms ok Post => ∃ (b : Bf) (wd : Wd) (sy : List Stp) (n : Nat) (s : Stp) (args : List Sv), f s args ∧ n ≤ 400 ∧ Ok b.c.m b.c.t n wd ∧ sy.length ≤ 1000 ∧ (∀ x, s = .boot x → x.life.length ≤ 1000) ∧
  rs = .v (.ref b.b) :: args ∧ A = aB G K CB C b wd sy ∧ ms = b.ms ∧ ok = doable b.c.m wd s ∧ Post = fun r B => r = .d (heardD wd (nxtW b.c wd s)) ∧ B = aB G K CB C b (nxtW b.c wd s) (syN b.c.m wd s sy)
theorem IAt.len {K : PySem.W.Frag} {H : Hp} {a C C' : Addr} {ns ns' : List Str} {ρ ρ' : List Sv} (h : IAt K H a C ns ρ) (h' : IAt K H a C' ns' ρ') : ns.length = ns'.length := by
  obtain ⟨dx, vs, h1, h2, _⟩ := h
  obtain ⟨dx', vs', h1', h2', _⟩ := h'
  rw [h1] at h1'
  injection h1' with e
  injection e with e1 e2 e3
  have := congrArg List.length e3
  rw [List.length_zip, List.length_zip, h2, h2', Nat.min_self, Nat.min_self] at this
  exact this
section
variable {P : Program} {w : World} {K : PySem.W.Frag} {mg : Str → Option Value} {base : Heap} {G : Addr → Prop} {C CB Cb : Addr}
/-- the addresses of a bench are apart -/
theorem aB_apart {b : Bf} {wd : Wd} {sy : List Stp} {H : Hp} (h : (aB G K CB C b wd sy).P H) : b.b ∉ b.ms ∧ b.st ≠ b.c.w := by
  obtain ⟨h1, h2⟩ := h
  have e1 : b.b ≠ b.c.w := fun z => by
    have h1' : IAt K H b.c.w CB bN (bFs b sy) := z ▸ h1
    exact absurd (h1'.len h2) (by decide)
  obtain ⟨dx, vs, p1, p2, p3⟩ := h1
  obtain ⟨dy, ws, q1, q2, q3⟩ := h2
  obtain ⟨_, a1, _, xs, a2, _⟩ := p3.get (i := 1) (r := .l b.st (sy.map eStp)) rfl
  obtain ⟨_, _, _, xn, n2, _⟩ := q3.get (i := 4) (r := .l b.c.n (wd.shelf.map eNote)) rfl
  obtain ⟨_, _, _, xs', s2, _⟩ := q3.get (i := 6) (r := .l b.c.s (wd.heard.map eH)) rfl
  obtain ⟨_, _, _, xp, pp2, _⟩ := q3.get (i := 7) (r := .l b.c.p (wd.spoken.map eL)) rfl
  have ne : ∀ a : Addr, ∀ xs : List V, H a = some (.lst xs) → b.b ≠ a := fun a xs e z => by
    rw [← z, p1] at e
    cases e
  have e2 : b.st ≠ b.c.w := fun z => by
    rw [z, q1] at a2
    cases a2
  refine ⟨?_, e2⟩
  simp only [Bf.ms, List.mem_cons, List.not_mem_nil, or_false, not_or]
  exact ⟨e1, ne _ _ n2, ne _ _ s2, ne _ _ pp2, ne _ _ a2⟩
theorem aB_world {b : Bf} {wd wd' : Wd} {sy : List Stp} {H H' : Hp} (h : (aB G K CB C b wd sy).P H) (t : Tb G H) (g : Gr G b.c.ms H H') (hw : (aW G K C b.c wd').P H') : (aB G K CB C b wd' sy).P H' := by
  obtain ⟨e1, e2⟩ := aB_apart h
  refine ⟨IAt.frame h.1 g t (fun z => e1 ?_) ⟨trivial, ?_, trivial⟩, hw⟩
  · simp only [Cf.ms, Bf.ms, List.mem_cons, List.not_mem_nil, or_false] at z ⊢
    rcases z with z | z | z | z <;> simp [z]
  · show b.st ∉ b.c.ms
    simp only [Cf.ms, List.mem_cons, List.not_mem_nil, or_false, not_or]
    exact ⟨e2, b.sn, b.ss, b.sp⟩
theorem muB {b : Bf} {H : Hp} {ms : List Addr} (h : ∀ a ∈ ms, a ∈ b.ms) : Mu [(b.ms, H)] ms := Mu.cons (fun a ha => .inl (h a ha)) Mu.nil
theorem scBdo : FnScope ["self", "step", "before"] ["self", "step"] (defScope (inClass (top 42) 1)) := ⟨rfl, rfl, rfl, by decide +kernel, rfl, by decide +kernel, by decide +kernel⟩
theorem mthZ_of {m qual : Str} {st : Stmt} {ps : List Str} {k : Nat} {sp : Sp} (h : Dm K C m qual st) (hc : Cls K C) (hok : ∀ f fd, FunD K m qual (defArgs st) (defBody st) (defScope st) [] [] f fd → FnOk P w K mg base (CX P w) k f fd ps sp)
    (hb : ∀ (kV doc pm : Value) (an : Option Addr) (cdv ct : Value) (us : List Value), us.length = ps.length → bindArgs (PySem.W.fnOf m qual (defArgs st) (defBody st) (defScope st) .none kV doc pm an cdv ct) { pos := us } = pure (ps.zip us)) : MthZ P w K mg base k C m sp := by
  obtain ⟨f, fd, F, g⟩ := h
  exact ⟨f, fd, ps, hok f fd F, hc, g, F.bindsN hb⟩
theorem calZ_of {x : Str} {st : Stmt} {ps : List Str} {k : Nat} {sp : Sp} (h : Dg K mg x st) (hok : ∀ f fd, FunD K x x (defArgs st) (defBody st) (defScope st) [] [] f fd → FnOk P w K mg base (CX P w) k f fd ps sp)
    (hb : ∀ (kV doc pm : Value) (an : Option Addr) (cdv ct : Value) (us : List Value), us.length = ps.length → bindArgs (PySem.W.fnOf x x (defArgs st) (defBody st) (defScope st) .none kV doc pm an cdv ct) { pos := us } = pure (ps.zip us)) : CalZ P w K mg base k x sp := by
  obtain ⟨f, fd, F, g⟩ := h
  exact ⟨f, fd, ps, hok f fd F, g, F.kp, F.bindsN hb⟩
theorem ok_bdo (E : Ev K mg) (B : BFc K CB) (W : WF K C) (bad : Bad K mg Cb "BadStep") (mDo : Mth P w K mg base 8 C "do" (spS K G (fW K C fDo)) []) (h : Dm K CB "_do" "Bench._do" (inClass (top 42) 1)) : MthZ P w K mg base 9 CB "_do" (spZ K G Cb (fZ K CB C fun s args => args = [.d (eStp s)])) :=
  mthZ_of h B.cls (fun f fd F => ok_Z F scBdo (fun rs A ms ok Post ⟨_, _, _, _, _, _, e, _, _, _, _, e2, _⟩ => by rw [e2, e] <;> rfl) fun c' A' outer s H E0 hr rs A ms ok Post vs Q hR sa ha q tk => by
    obtain ⟨b, wd, sy, n, st, args, rfl, hn, hok, hsy, h5, rfl, rfl, rfl, rfl, rfl⟩ := hR
    refine f_cons (f_set 2 (r := .d (eN (wd.heard.map eH).length)) (ed_lenL (a := b.c.s) (ds := wd.heard.map eH) E.len (ed_bw 6 B W (ed_name 0))) ?_ scBdo.nd)
    refine f_cons (f_ifK (Post := fun x J' => x = !doable b.c.m wd st ∧ J' = Jl [(b.ms, H)] (aB G K CB C b (nxtW b.c wd st) sy)) (kt_not (kt_val (ek_meth (ss := []) (ms := b.c.ms) (A := aW G K C b.c wd) (P0 := fun r B => r = .d (.bool (doable b.c.m wd st)) ∧ B = aW G K C b.c (nxtW b.c wd st)) mDo hr (ed_b 0 B (ed_name 0)) bwI (ea_cons (ed_name 1) ea_nil) (fun _ => trivial) (by rw [List.append_nil]; exact ⟨b.c, wd, _, _, _, ⟨n, st, hn, hok, h5, rfl, rfl, rfl⟩, rfl, rfl, rfl, rfl⟩) bwI ⟨trivial, trivial, trivial, trivial⟩ (fun r B H1 H2 p j t g bb => ?_)))) (fun x J' p => ?_))
    · obtain ⟨rfl, rfl⟩ := p
      exact ⟨_, ⟨_, rfl, rfl, rfl⟩, Jl.step j g (muB fun a ha => by simp only [Cf.ms, Bf.ms, List.mem_cons, List.not_mem_nil, or_false] at ha ⊢; rcases ha with z | z | z | z <;> simp [z]) (aB_world j.2 t g bb)⟩
    obtain ⟨rfl, rfl⟩ := p
    cases hd : doable b.c.m wd st with
    | false =>
      refine f_one (f_raise tk bad fun H' t' j' => q.2 hd _ _ H' ⟨rfl, rfl⟩ t' ?_)
      unfold syN
      rw [hd]
      exact j'
    | true =>
      refine f_nil ?_
      refine f_cons (f_appO (p := b.st) (ds := sy.map eStp) (d := eStp st) (B := aB G K CB C b (nxtW b.c wd st) (sy ++ [st])) (ed_b 1 B (ed_name 0)) (ed_name 1) (by rw [List.length_map]; omega) (muB fun a ha => by rw [List.mem_singleton.mp ha]; simp [Bf.ms]) ⟨trivial, trivial, trivial, trivial⟩ (fun H1 H2 hA t g ok => ?_) ?_)
      · obtain ⟨e1, e2⟩ := aB_apart hA
        refine ⟨?_, IAt.frame hA.2 g t (fun z => e2 (List.mem_singleton.mp z).symm) ?_⟩
        · have := IAt.lst (G := G) 1 (ds' := sy.map eStp ++ [eStp st]) hA.1 rfl ⟨trivial, trivial, trivial⟩ t g ok
          show IAt K H2 b.b CB bN (bFs b (sy ++ [st]))
          have e : bFs b (sy ++ [st]) = (bFs b sy).set 1 (.l b.st (sy.map eStp ++ [eStp st])) := by simp [bFs]
          rw [e]
          exact this
        · simp [wFs, OffL, Off, Ne.symm b.sn, Ne.symm b.ss, Ne.symm b.sp]
      · refine f_one (r_ed (q.1 hd) (Ed.to (ed_tupleN E.tuple (en_sl (a := b.c.s) (ds := (nxtW b.c wd st).heard.map eH) (l := some ((wd.heard.map eH).length : Nat)) (u := none) (ed_bw (wd := nxtW b.c wd st) 6 B W (ed_name 0)) (eo_some (ed_name 2)) eo_none)) ?_) ⟨rfl, ?_⟩)
        · rw [cut_drop, List.length_map, ← List.map_drop] <;> rfl
        · unfold syN
          rw [hd] <;> rfl)
    fun _ _ _ _ _ _ us hl => match us, hl with | [_, _], _ => rfl
end
end Wb

namespace Wb
open PySem PySem.Spec PyProof.Rows L2
def fGiven (s : Stp) (args : List Sv) : Prop := args = [.d (eStp s)]
section
variable {X : Cx} {G : Addr → Prop} {ρ : List Sv} {E : XK} {Cb C CB : Addr} {D : Ends} {L : List (List Addr × Hp)} {b : Bf} {wd : Wd} {sy : List Stp} {n : Nat} {s : Stp} {args : List Sv} {f : Stp → List Sv → Prop} {k : Nat} {m : Str} {o e : Expr} {es : List Expr} {apos pos : Pos} {pl : Sem Bool}
theorem ekz_b (M : MthZ X.prog X.w X.K X.mg X.base k CB m (spZ X.K G Cb (fZ X.K CB C f))) (tk : Takes X (fun cls d _ H => E cls d H)) (hr : Room k X.A) (ho : Ed X G o ρ (Jl L (aB G X.K CB C b wd sy)) (.v (.ref b.b))) (ha : Ea X G (e :: es) ρ (Jl L (aB G X.K CB C b wd sy)) args) (hf : f s args)
    (hn : n ≤ 400) (hok : Ok b.c.m b.c.t n wd) (hsy : sy.length ≤ 1000) (h5 : ∀ x, s = .boot x → x.life.length ≤ 1000) (hm : Mu L b.ms) (hoff : OffL b.ms ρ) (hns : m ∉ bN := by decide)
    (hst : starEach (e :: es) X.env = (false, eval e X.env) :: starEach es X.env := by rfl) (hpl : (backTo pos (starEach es X.env)).any (·.1) = false := by rfl)
    (ht : eval (.Call (.Attribute o m apos) (e :: es) [] pos) X.env = (do
      let ov ← eval o X.env
      standAt apos.atName
      let (f, first) ← holding [ov] (getMethod ov m pl)
      callWith pos f first (backTo pos (starEach (e :: es) X.env)) (backToKw pos (keywordEach [] X.env))) := by rfl) : Ekz X G E Cb (.Call (.Attribute o m apos) (e :: es) [] pos) ρ (Jl L (aB G X.K CB C b wd sy)) (doable b.c.m wd s) (fun r J' => r = .d (heardD wd (nxtW b.c wd s)) ∧ J' = Jl L (aB G X.K CB C b (nxtW b.c wd s) (syN b.c.m wd s sy))) :=
  ekz_meth (ms := b.ms) (A := aB G X.K CB C b wd sy) (P0 := fun r B => r = .d (heardD wd (nxtW b.c wd s)) ∧ B = aB G X.K CB C b (nxtW b.c wd s) (syN b.c.m wd s sy)) M tk hr ho (fun H h => h.2.1) ha ⟨b, wd, sy, n, s, args, hf, hn, hok, hsy, h5, rfl, rfl, rfl, rfl, rfl⟩ (fun H h => h.2) hoff
    (fun r B H1 H2 p j t g bb => ⟨_, ⟨p.1, rfl⟩, Jl.step j g hm (by rw [← p.2]; exact bb)⟩) hns hst hpl ht
theorem ekz_b0 (M : MthZ X.prog X.w X.K X.mg X.base k CB m (spZ X.K G Cb (fZ X.K CB C f))) (tk : Takes X (fun cls d _ H => E cls d H)) (hr : Room k X.A) (ho : Ed X G o ρ (Jl L (aB G X.K CB C b wd sy)) (.v (.ref b.b))) (hf : f s [])
    (hn : n ≤ 400) (hok : Ok b.c.m b.c.t n wd) (hsy : sy.length ≤ 1000) (h5 : ∀ x, s = .boot x → x.life.length ≤ 1000) (hm : Mu L b.ms) (hoff : OffL b.ms ρ) (hns : m ∉ bN := by decide)
    (ht : eval (.Call (.Attribute o m apos) [] [] pos) X.env = (do
      let ov ← eval o X.env
      standAt apos.atName
      let (f, first) ← holding [ov] (getMethod ov m pl)
      callWith pos f first (backTo pos (starEach [] X.env)) (backToKw pos (keywordEach [] X.env))) := by rfl) : Ekz X G E Cb (.Call (.Attribute o m apos) [] [] pos) ρ (Jl L (aB G X.K CB C b wd sy)) (doable b.c.m wd s) (fun r J' => r = .d (heardD wd (nxtW b.c wd s)) ∧ J' = Jl L (aB G X.K CB C b (nxtW b.c wd s) (syN b.c.m wd s sy))) :=
  ekz_meth0 (ms := b.ms) (A := aB G X.K CB C b wd sy) (P0 := fun r B => r = .d (heardD wd (nxtW b.c wd s)) ∧ B = aB G X.K CB C b (nxtW b.c wd s) (syN b.c.m wd s sy)) M tk hr ho (fun H h => h.2.1) ⟨b, wd, sy, n, s, [], hf, hn, hok, hsy, h5, rfl, rfl, rfl, rfl, rfl⟩ (fun H h => h.2) hoff
    (fun r B H1 H2 p j t g bb => ⟨_, ⟨p.1, rfl⟩, Jl.step j g hm (by rw [← p.2]; exact bb)⟩) hns ht
theorem r_ekzB {e : Expr} {H0 : Hp} {ok : Bool} {r0 : Sv} {B0 : As G} {pos : Pos} (q : Qz X.K G b.ms H0 Cb ok (fun r B => r = r0 ∧ B = B0) D.rt E) (h : Ekz X G E Cb e ρ (Jl [(b.ms, H0)] (aB G X.K CB C b wd sy)) ok (fun r J' => r = r0 ∧ J' = Jl [(b.ms, H0)] B0)) : Fin X (cS X (.Return (some e) pos) D) ρ (Jl [(b.ms, H0)] (aB G X.K CB C b wd sy)) :=
  r_ekz q h (fun r J' p => ⟨_, ⟨p.1, rfl⟩, fun H j => by rw [p.2] at j; exact j⟩)
end
theorem muBB {b : Bf} {H : Hp} : Mu [(b.ms, H)] b.ms := muB fun _ h => h
section
variable {P : Program} {w : World} {K : PySem.W.Frag} {mg : Str → Option Value} {base : Heap} {G : Addr → Prop} {C CB Cb : Addr}
theorem scB_boot : FnScope ["self", "note"] ["self", "note"] (defScope (inClass (top 42) 2)) := ⟨rfl, rfl, rfl, by decide +kernel, rfl, by decide +kernel, by decide +kernel⟩
theorem ok_bboot (B : BFc K CB) (mDo : MthZ P w K mg base 9 CB "_do" (spZ K G Cb (fZ K CB C fGiven))) (h : Dm K CB "boot" "Bench.boot" (inClass (top 42) 2)) : MthZ P w K mg base 10 CB "boot" (spZ K G Cb (fZ K CB C (fun s args => ∃ x, s = .boot x ∧ args = [.d (eNote x)]))) :=
  mthZ_of h B.cls (fun f fd F => ok_Z F scB_boot (fun rs A ms ok Post ⟨_, _, _, _, _, _, e, _, _, _, _, e2, _⟩ => by rw [e2, e.choose_spec.2] <;> rfl) fun c' A' outer s H E0 hr rs A ms ok Post vs Q hR sa ha q tk => by
    obtain ⟨b, wd, sy, n, st, args, ⟨x, rfl, rfl⟩, hn, hok, hsy, h5, rfl, rfl, rfl, rfl, rfl⟩ := hR
    exact f_one (r_ekzB q (ekz_b (s := .boot x) mDo tk hr (ed_name 0) (ea_cons (ed_tup (ds := [sS "boot", eNote x]) (ea_cons ed_str (ea_cons (ed_name 1) ea_nil)) (by simp)) ea_nil) rfl hn hok hsy h5 muBB ⟨trivial, trivial, trivial⟩)))
    fun _ _ _ _ _ _ us hl => match us, hl with | [_, _], _ => rfl
theorem scB_ask : FnScope ["self", "option"] ["self", "option"] (defScope (inClass (top 42) 3)) := ⟨rfl, rfl, rfl, by decide +kernel, rfl, by decide +kernel, by decide +kernel⟩
theorem ok_bask (B : BFc K CB) (mDo : MthZ P w K mg base 9 CB "_do" (spZ K G Cb (fZ K CB C fGiven))) (h : Dm K CB "ask" "Bench.ask" (inClass (top 42) 3)) : MthZ P w K mg base 10 CB "ask" (spZ K G Cb (fZ K CB C (fun s args => ∃ x, s = .ask x ∧ args = [.d (eN x)]))) :=
  mthZ_of h B.cls (fun f fd F => ok_Z F scB_ask (fun rs A ms ok Post ⟨_, _, _, _, _, _, e, _, _, _, _, e2, _⟩ => by rw [e2, e.choose_spec.2] <;> rfl) fun c' A' outer s H E0 hr rs A ms ok Post vs Q hR sa ha q tk => by
    obtain ⟨b, wd, sy, n, st, args, ⟨x, rfl, rfl⟩, hn, hok, hsy, h5, rfl, rfl, rfl, rfl, rfl⟩ := hR
    exact f_one (r_ekzB q (ekz_b (s := .ask x) mDo tk hr (ed_name 0) (ea_cons (ed_tup (ds := [sS "ask", eN x]) (ea_cons ed_str (ea_cons (ed_name 1) ea_nil)) (by simp)) ea_nil) rfl hn hok hsy h5 muBB ⟨trivial, trivial, trivial⟩)))
    fun _ _ _ _ _ _ us hl => match us, hl with | [_, _], _ => rfl
theorem scB_turn : FnScope ["self"] ["self"] (defScope (inClass (top 42) 4)) := ⟨rfl, rfl, rfl, by decide +kernel, rfl, by decide +kernel, by decide +kernel⟩
theorem ok_bturn (B : BFc K CB) (mDo : MthZ P w K mg base 9 CB "_do" (spZ K G Cb (fZ K CB C fGiven))) (h : Dm K CB "turn" "Bench.turn" (inClass (top 42) 4)) : MthZ P w K mg base 10 CB "turn" (spZ K G Cb (fZ K CB C (fun s args => s = .turn ∧ args = []))) :=
  mthZ_of h B.cls (fun f fd F => ok_Z F scB_turn (fun rs A ms ok Post ⟨_, _, _, _, _, _, e, _, _, _, _, e2, _⟩ => by rw [e2, e.2] <;> rfl) fun c' A' outer s H E0 hr rs A ms ok Post vs Q hR sa ha q tk => by
    obtain ⟨b, wd, sy, n, st, args, ⟨rfl, rfl⟩, hn, hok, hsy, h5, rfl, rfl, rfl, rfl, rfl⟩ := hR
    exact f_one (r_ekzB q (ekz_b (s := .turn) mDo tk hr (ed_name 0) (ea_cons (ed_tup (ds := [sS "turn"]) (ea_cons ed_str ea_nil) (by simp)) ea_nil) rfl hn hok hsy h5 muBB ⟨trivial, trivial⟩)))
    fun _ _ _ _ _ _ us hl => match us, hl with | [_], _ => rfl
theorem scB_cut : FnScope ["self"] ["self"] (defScope (inClass (top 42) 5)) := ⟨rfl, rfl, rfl, by decide +kernel, rfl, by decide +kernel, by decide +kernel⟩
theorem ok_bcut (B : BFc K CB) (mDo : MthZ P w K mg base 9 CB "_do" (spZ K G Cb (fZ K CB C fGiven))) (h : Dm K CB "cut" "Bench.cut" (inClass (top 42) 5)) : MthZ P w K mg base 10 CB "cut" (spZ K G Cb (fZ K CB C (fun s args => s = .cut ∧ args = []))) :=
  mthZ_of h B.cls (fun f fd F => ok_Z F scB_cut (fun rs A ms ok Post ⟨_, _, _, _, _, _, e, _, _, _, _, e2, _⟩ => by rw [e2, e.2] <;> rfl) fun c' A' outer s H E0 hr rs A ms ok Post vs Q hR sa ha q tk => by
    obtain ⟨b, wd, sy, n, st, args, ⟨rfl, rfl⟩, hn, hok, hsy, h5, rfl, rfl, rfl, rfl, rfl⟩ := hR
    exact f_one (r_ekzB q (ekz_b (s := .cut) mDo tk hr (ed_name 0) (ea_cons (ed_tup (ds := [sS "cut"]) (ea_cons ed_str ea_nil) (by simp)) ea_nil) rfl hn hok hsy h5 muBB ⟨trivial, trivial⟩)))
    fun _ _ _ _ _ _ us hl => match us, hl with | [_], _ => rfl
theorem scB_seal : FnScope ["self"] ["self"] (defScope (inClass (top 42) 6)) := ⟨rfl, rfl, rfl, by decide +kernel, rfl, by decide +kernel, by decide +kernel⟩
theorem ok_bseal (B : BFc K CB) (mDo : MthZ P w K mg base 9 CB "_do" (spZ K G Cb (fZ K CB C fGiven))) (h : Dm K CB "seal" "Bench.seal" (inClass (top 42) 6)) : MthZ P w K mg base 10 CB "seal" (spZ K G Cb (fZ K CB C (fun s args => s = .sel ∧ args = []))) :=
  mthZ_of h B.cls (fun f fd F => ok_Z F scB_seal (fun rs A ms ok Post ⟨_, _, _, _, _, _, e, _, _, _, _, e2, _⟩ => by rw [e2, e.2] <;> rfl) fun c' A' outer s H E0 hr rs A ms ok Post vs Q hR sa ha q tk => by
    obtain ⟨b, wd, sy, n, st, args, ⟨rfl, rfl⟩, hn, hok, hsy, h5, rfl, rfl, rfl, rfl, rfl⟩ := hR
    exact f_one (r_ekzB q (ekz_b (s := .sel) mDo tk hr (ed_name 0) (ea_cons (ed_tup (ds := [sS "seal"]) (ea_cons ed_str ea_nil) (by simp)) ea_nil) rfl hn hok hsy h5 muBB ⟨trivial, trivial⟩)))
    fun _ _ _ _ _ _ us hl => match us, hl with | [_], _ => rfl
/-! ### _law_done -/
theorem scDone : FnScope ["_law_bench", "_law_step"] ["_law_bench", "_law_step"] (defScope (top 63)) := ⟨rfl, rfl, rfl, by decide +kernel, rfl, by decide +kernel, by decide +kernel⟩
theorem ok_done (m1 : MthZ P w K mg base 10 CB "boot" (spZ K G Cb (fZ K CB C (fun s args => ∃ x, s = .boot x ∧ args = [.d (eNote x)])))) (m2 : MthZ P w K mg base 10 CB "ask" (spZ K G Cb (fZ K CB C (fun s args => ∃ x, s = .ask x ∧ args = [.d (eN x)])))) (m3 : MthZ P w K mg base 10 CB "turn" (spZ K G Cb (fZ K CB C (fun s args => s = .turn ∧ args = []))))
    (m4 : MthZ P w K mg base 10 CB "cut" (spZ K G Cb (fZ K CB C (fun s args => s = .cut ∧ args = [])))) (m5 : MthZ P w K mg base 10 CB "seal" (spZ K G Cb (fZ K CB C (fun s args => s = .sel ∧ args = [])))) (h : Dg K mg "_law_done" (top 63)) : CalZ P w K mg base 11 "_law_done" (spZ K G Cb (fZ K CB C fGiven)) :=
  calZ_of h (fun f fd F => ok_Z F scDone (fun rs A ms ok Post ⟨_, _, _, _, _, _, e, _, _, _, _, e2, _⟩ => by rw [e2, e] <;> rfl) fun c' A' outer s H E0 hr rs A ms ok Post vs Q hR sa ha q tk => by
    obtain ⟨b, wd, sy, n, st, args, rfl, hn, hok, hsy, h5, rfl, rfl, rfl, rfl, rfl⟩ := hR
    have o3 : OffL b.ms [.v (.ref b.b), .d (eStp st)] := ⟨trivial, trivial, trivial⟩
    have sk : ∀ (s : Stp) (x y : Str), SeqAt.shaped (sS (tagP s)) = true := fun s _ _ => tp_shaped s
    cases st with
    | boot x =>
      exact f_cons (f_if (x := true) (et_eq (d := sS "boot") (e := sS "boot") hr (ed_ixc (ds := [sS "boot", eNote x]) (ed_name 1) rfl) ed_str (tp_shaped (.boot x)) (tp_shaped (.boot x))) (fun _ => f_one (r_ekzB q (ekz_b (s := .boot x) m1 tk hr (ed_name 0) (ea_cons (ed_ixc (ds := [sS "boot", eNote x]) (ed_name 1) rfl) ea_nil) ⟨x, rfl, rfl⟩ hn hok hsy h5 muBB o3))) fun e => by cases e)
    | ask x =>
      refine f_skip (x := false) (et_eq (d := sS "ask") (e := sS "boot") hr (ed_ixc (ds := [sS "ask", eN x]) (ed_name 1) rfl) ed_str (tp_shaped (.ask 0)) (tp_shaped (.boot ⟨0, none, [], 0⟩))) ?_ rfl
      exact f_cons (f_if (x := true) (et_eq (d := sS "ask") (e := sS "ask") hr (ed_ixc (ds := [sS "ask", eN x]) (ed_name 1) rfl) ed_str (tp_shaped (.ask 0)) (tp_shaped (.ask 0))) (fun _ => f_one (r_ekzB q (ekz_b (s := .ask x) m2 tk hr (ed_name 0) (ea_cons (ed_ixc (ds := [sS "ask", eN x]) (ed_name 1) rfl) ea_nil) ⟨x, rfl, rfl⟩ hn hok hsy h5 muBB o3))) fun e => by cases e)
    | turn =>
      refine f_skip (x := false) (et_eq (d := sS "turn") (e := sS "boot") hr (ed_ixc (ds := [sS "turn"]) (ed_name 1) rfl) ed_str (tp_shaped .turn) (tp_shaped (.boot ⟨0, none, [], 0⟩))) ?_ rfl
      refine f_skip (x := false) (et_eq (d := sS "turn") (e := sS "ask") hr (ed_ixc (ds := [sS "turn"]) (ed_name 1) rfl) ed_str (tp_shaped .turn) (tp_shaped (.ask 0))) ?_ rfl
      exact f_one (r_ekzB q (ekz_if (x := true) (et_eq (d := sS "turn") (e := sS "turn") hr (ed_ixc (ds := [sS "turn"]) (ed_name 1) rfl) ed_str (tp_shaped .turn) (tp_shaped .turn)) (fun _ => ekz_b0 (s := .turn) m3 tk hr (ed_name 0) ⟨rfl, rfl⟩ hn hok hsy h5 muBB o3) (fun e => by cases e)))
    | cut =>
      refine f_skip (x := false) (et_eq (d := sS "cut") (e := sS "boot") hr (ed_ixc (ds := [sS "cut"]) (ed_name 1) rfl) ed_str (tp_shaped .cut) (tp_shaped (.boot ⟨0, none, [], 0⟩))) ?_ rfl
      refine f_skip (x := false) (et_eq (d := sS "cut") (e := sS "ask") hr (ed_ixc (ds := [sS "cut"]) (ed_name 1) rfl) ed_str (tp_shaped .cut) (tp_shaped (.ask 0))) ?_ rfl
      exact f_one (r_ekzB q (ekz_if (x := false) (et_eq (d := sS "cut") (e := sS "turn") hr (ed_ixc (ds := [sS "cut"]) (ed_name 1) rfl) ed_str (tp_shaped .cut) (tp_shaped .turn)) (fun e => by cases e) (fun _ => ekz_if (x := true) (et_eq (d := sS "cut") (e := sS "cut") hr (ed_ixc (ds := [sS "cut"]) (ed_name 1) rfl) ed_str (tp_shaped .cut) (tp_shaped .cut)) (fun _ => ekz_b0 (s := .cut) m4 tk hr (ed_name 0) ⟨rfl, rfl⟩ hn hok hsy h5 muBB o3) (fun e => by cases e))))
    | sel =>
      refine f_skip (x := false) (et_eq (d := sS "seal") (e := sS "boot") hr (ed_ixc (ds := [sS "seal"]) (ed_name 1) rfl) ed_str (tp_shaped .sel) (tp_shaped (.boot ⟨0, none, [], 0⟩))) ?_ rfl
      refine f_skip (x := false) (et_eq (d := sS "seal") (e := sS "ask") hr (ed_ixc (ds := [sS "seal"]) (ed_name 1) rfl) ed_str (tp_shaped .sel) (tp_shaped (.ask 0))) ?_ rfl
      exact f_one (r_ekzB q (ekz_if (x := false) (et_eq (d := sS "seal") (e := sS "turn") hr (ed_ixc (ds := [sS "seal"]) (ed_name 1) rfl) ed_str (tp_shaped .sel) (tp_shaped .turn)) (fun e => by cases e) (fun _ => ekz_if (x := false) (et_eq (d := sS "seal") (e := sS "cut") hr (ed_ixc (ds := [sS "seal"]) (ed_name 1) rfl) ed_str (tp_shaped .sel) (tp_shaped .cut)) (fun e => by cases e) (fun _ => ekz_b0 (s := .sel) m5 tk hr (ed_name 0) ⟨rfl, rfl⟩ hn hok hsy h5 muBB o3)))))
    fun _ _ _ _ _ _ us hl => match us, hl with | [_, _], _ => rfl
end
end Wb

namespace Wb
open PySem PySem.Spec PyProof.Rows L2
section
variable {X : Cx} {G : Addr → Prop} {ρ : List Sv} {D : Ends} {L : List (List Addr × Hp)} {A : As G}
/-- a field's store, a new list: what stood is elsewhere -/
theorem f_fldN' {B : Addr → As G} {o e : Expr} {f : Str} {a C : Addr} {ns ns' : List Str} {ρo : List Sv} {ρo' : Addr → List Sv} {ds : List PyData} {pos pos' : Pos} (pt : ∀ p, PutAt f (.l p ds) ns ρo ns' (ρo' p)) (he : En X G e ρ (Jl L A) ds) (ho : Ed X G o ρ (Jl L A) (.v (.ref a))) (hI : ∀ H, A.P H → IAt X.K H a C ns ρo) (hc : Cls X.K C) (hn : NoAttr X.K C f) (hm : Mu L [a])
    (hB : ∀ p H H', A.P H → Tb G H → Gr G [a] H H' → IAt X.K H' a C ns' (ρo' p) → (B p).P H') (k : ∀ p, (∀ b, (∀ H, A.P H → ∃ o, H b = some o) → b ≠ p) → Fin X D.nx ρ (Jl L (B p))) (hsz : ns.length < 1000 := by decide) (hs : swapsWith e (some (.Attribute o f pos')) pos.line X.env = pure false := by rfl) :
    Fin X (cS X (.Assign [.Attribute o f pos'] e pos) D) ρ (Jl L A) := fun σ H s t j => by
  refine ⟨_, ps_fld pe_c pe_c hs, he σ H _ s t j fun p H1 np s1 g1 => ho σ H1 _ (s.g0 g1 t) (t.up g1) ((Jl L A).up g1 t j) fun v H2 s2 g2 => ?_⟩
  cases s2
  have g := g1.trans g2
  have j2 := (Jl L A).up g t j
  obtain ⟨dx, vs, h1, h2, h3⟩ := hI H2 j2.2
  refine ⟨a, C, dx, _, rfl, h1, hc, hn, by rw [List.length_zip, h2, Nat.min_self]; exact hsz, ?_⟩
  have g3 : Gr G [a] H2 (upd H2 a (.ins C dx (putF f (.ref p) (ns.zip vs)))) := Gr.put h1 trivial (by simp)
  refine k p (fun b hb z => ?_) σ _ (Sl.at_ h1 trivial (fun _ z => by cases z) (s.g0 g t)) (t.up (g.wide.trans g3)) (Jl.step j2 g3 hm (hB p _ _ j2.2 (t.up g) g3 ((pt p).do_ h1 h2 h3 (s1.g0 g2 (t.up g1)))))
  obtain ⟨o, e⟩ := hb H j.2
  rw [z, np] at e
  cases e
end
section
variable {P : Program} {w : World} {K : PySem.W.Frag} {mg : Str → Option Value} {base : Heap} {G : Addr → Prop} {C CB Cb : Addr}
def fBInit (K : PySem.W.Frag) (CB C : Addr) : List Sv → As G → List Addr → (Sv → As G → Prop) → Prop := fun rs A ms Post => ∃ (NB : List Addr) (a : Addr) (m : Mach) (k : Nat) (t : Tabl) (mn : Man), House m k t ∧ a ∉ NB ∧ rs = [.v (.ref a), .d (eM m), .d (eN k), .d (eT t), .d (eMan mn)] ∧ A = (As.ins G K a CB [] []).and (As.live G NB) ∧ ms = [a] ∧
  Post = fun r B => r = .d .none ∧ ∃ b : Bf, b.c.m = m ∧ b.c.k = k ∧ b.c.t = t ∧ b.c.mn = mn ∧ b.b = a ∧ (b.st ∉ NB ∧ b.c.n ∉ NB ∧ b.c.s ∉ NB ∧ b.c.p ∉ NB) ∧ B = aB G K CB C b w0 []
theorem scBInit : FnScope ["self", "machine", "marks", "table", "manner"] ["self", "machine", "marks", "table", "manner"] (defScope (inClass (top 42) 0)) := ⟨rfl, rfl, rfl, by decide +kernel, rfl, by decide +kernel, by decide +kernel⟩
theorem aW_lists {c : Cf} {wd : Wd} {H : Hp} (h : (aW G K C c wd).P H) : (∃ o, H c.n = some o) ∧ (∃ o, H c.s = some o) ∧ (∃ o, H c.p = some o) ∧ ∃ o, H c.w = some o := by
  obtain ⟨dy, ws, q1, q2, q3⟩ := h
  obtain ⟨_, _, _, xn, n2, _⟩ := q3.get (i := 4) (r := .l c.n (wd.shelf.map eNote)) rfl
  obtain ⟨_, _, _, xs', s2, _⟩ := q3.get (i := 6) (r := .l c.s (wd.heard.map eH)) rfl
  obtain ⟨_, _, _, xp, pp2, _⟩ := q3.get (i := 7) (r := .l c.p (wd.spoken.map eL)) rfl
  exact ⟨⟨_, n2⟩, ⟨_, s2⟩, ⟨_, pp2⟩, _, q1⟩
theorem aW_frame {c : Cf} {wd : Wd} {a CX_ : Addr} {ns : List Str} {ρo : List Sv} {H H' : Hp} (h : (aW G K C c wd).P H) (hi : IAt K H a CX_ ns ρo) (hl : ns.length ≠ 8) (t : Tb G H) (g : Gr G [a] H H') : (aW G K C c wd).P H' := by
  have e1 : c.w ≠ a := fun z => by
    have hi' : IAt K H c.w CX_ ns ρo := z ▸ hi
    exact hl (hi'.len h)
  obtain ⟨dx, vs, p1, _⟩ := hi
  have h0 := h
  obtain ⟨dy, ws, q1, q2, q3⟩ := h
  obtain ⟨_, _, _, xn, n2, _⟩ := q3.get (i := 4) (r := .l c.n (wd.shelf.map eNote)) rfl
  obtain ⟨_, _, _, xs', s2, _⟩ := q3.get (i := 6) (r := .l c.s (wd.heard.map eH)) rfl
  obtain ⟨_, _, _, xp, pp2, _⟩ := q3.get (i := 7) (r := .l c.p (wd.spoken.map eL)) rfl
  have ne : ∀ b : Addr, ∀ xs : List V, H b = some (.lst xs) → b ≠ a := fun b xs e z => by
    rw [z, p1] at e
    cases e
  refine IAt.frame h0 g t (by simpa using e1) ⟨trivial, trivial, trivial, trivial, ?_, trivial, ?_, ?_, trivial⟩
  · show c.n ∉ [a]
    simpa using ne _ _ n2
  · show c.s ∉ [a]
    simpa using ne _ _ s2
  · show c.p ∉ [a]
    simpa using ne _ _ pp2
theorem ok_binit0 (B : BFc K CB) (cH : Cal P w K mg base 7 "need_house" (spS K G (Pu fNeedH)) []) (cMan : Cal P w K mg base 1 "need_manner" (spS K G (Pu fNeedMan)) []) (mkW : Mkr P w K mg base 1 C "World" (spS K G (fWInit K C)) []) {f : Addr} {fd : FuncData} {dvs : List V} (F : FunD K "__init__" "Bench.__init__" (defArgs (inClass (top 42) 0)) (defBody (inClass (top 42) 0)) (defScope (inClass (top 42) 0)) dvs [] f fd) : FnOk P w K mg base CX0 8 f fd ["self", "machine", "marks", "table", "manner"] (spS K G (fBInit K CB C)) := by
  refine ok_S F scBInit (fun rs A ms Post ⟨_, _, _, _, _, _, _, _, e, _⟩ => by rw [e] <;> rfl) fun c' A' outer s H E0 hcd hr rs A ms Post vs Q hR sa ha q => ?_
  obtain ⟨NB, a, m, k, t, mn, hs, hn, rfl, rfl, rfl, rfl⟩ := hR
  refine f_cons (f_drop (ed_pu (rs := [.d (eM m), .d (eN k), .d (eT t)]) (r := .d .none) cH hr (ea_cons (ed_name 1) (ea_cons (ed_name 2) (ea_cons (ed_name 3) ea_nil))) ⟨m, k, t, hs, rfl, rfl⟩) ?_)
  refine f_cons (f_drop (ed_pu (rs := [.d (eMan mn)]) (r := .d .none) cMan (hr.mono (by decide)) (ea_cons (ed_name 4) ea_nil) ⟨mn, rfl, rfl⟩) ?_)
  refine f_cons (f_fldK (Post := fun r J' => ∃ c : Cf, c.m = m ∧ c.k = k ∧ c.t = t ∧ c.mn = mn ∧ (c.n ∉ NB ∧ c.s ∉ NB ∧ c.p ∉ NB) ∧ r = .v (.ref c.w) ∧ J' = Jl [([a], H)] (((As.ins G K a CB [] []).and (As.live G NB)).and (aW G K C c w0))) (ns := []) (ns' := ["_world"]) (ρo := [])
    (ek_makeF (F := As.live G NB) (ss := []) (P0 := fun x r B => r = .d .none ∧ ∃ c : Cf, c.m = m ∧ c.k = k ∧ c.t = t ∧ c.mn = mn ∧ c.w = x ∧ (c.n ∉ NB ∧ c.s ∉ NB ∧ c.p ∉ NB) ∧ B = aW G K C c w0) mkW (hr.mono (by decide)) (ea_cons (ed_name 1) (ea_cons (ed_name 3) (ea_cons (ed_name 4) ea_nil))) (fun _ => trivial) (fun H h => h.2) (fun x hx => ⟨NB, x, m, k, t, mn, hs, (by obtain ⟨H0, hA, e⟩ := hx; exact live_not hA.2 e), rfl, rfl, rfl, rfl⟩) (fun x r B p => by
      obtain ⟨rfl, c, e1, e2, e3, e4, e5, e6, rfl⟩ := p
      exact ⟨rfl, c, e1, e2, e3, e4, e6, by rw [e5], rfl⟩)) (fun J => ed_name 0) B.cls (B.na _ (by decide +kernel)) muA (fun r J' p => ?_))
  obtain ⟨c, e1, e2, e3, e4, e6, rfl, rfl⟩ := p
  refine ⟨trivial, _, ((As.ins G K a CB ["_world"] [.v (.ref c.w)]).and (As.live G NB)).and (aW G K C c w0), _, rfl, .new (by decide), fun H h => h.1.1, fun H1 H2 hA t1 g hi => ⟨⟨hi, live_gr hA.1.2 g⟩, aW_frame hA.2 hA.1.1 (by decide) t1 g⟩, ?_⟩
  refine f_one (f_fldN' (ds := []) (ns' := bN) (ρo' := fun p => [.v (.ref c.w), .l p []]) (B := fun p => (As.ins G K a CB bN [.v (.ref c.w), .l p []]).and (aW G K C c w0)) (fun p => .new (by decide)) (en_lst (ds := []) ea_nil (by simp)) (ed_name 0) (fun H h => h.1.1) B.cls (B.na _ (by decide +kernel)) muA (fun p H1 H2 hA t1 g hi => ⟨hi, aW_frame hA.2 hA.1.1 (by decide) t1 g⟩) (fun p hp => ?_))
  have n1 : c.n ≠ p := hp c.n fun H h => (aW_lists h.2).1
  have n2 : c.s ≠ p := hp c.s fun H h => (aW_lists h.2).2.1
  have n3 : c.p ≠ p := hp c.p fun H h => (aW_lists h.2).2.2.1
  exact r_end q ⟨rfl, ⟨c, a, p, Ne.symm n1, Ne.symm n2, Ne.symm n3⟩, e1, e2, e3, e4, rfl, ⟨fun z => hp p (fun H h => h.1.2 p z) rfl, e6⟩, rfl⟩
theorem ok_binit (B : BFc K CB) (cH : Cal P w K mg base 7 "need_house" (spS K G (Pu fNeedH)) []) (cMan : Cal P w K mg base 1 "need_manner" (spS K G (Pu fNeedMan)) []) (mkW : Mkr P w K mg base 1 C "World" (spS K G (fWInit K C)) []) (h : Dmd K mg CB "Bench" "Bench.__init__" (inClass (top 42) 0) [.str "sealed"]) :
    Mkr P w K mg base 8 CB "Bench" (spS K G (fBInit K CB C)) [] ∧ Mkr P w K mg base 8 CB "Bench" (spS K G (fBInit K CB C)) [.str "sealed"] := by
  obtain ⟨f, fd, F, hm, hg⟩ := h
  have hok := ok_binit0 (P := P) (w := w) (mg := mg) (base := base) (G := G) B cH cMan mkW F
  obtain ⟨ds, v, b⟩ := F.binds1 (ps := ["self", "machine", "marks", "table", "manner"]) 5 1 (by simp) (by simp) (fun T kV doc pm an cdv ct us its h1 h2 => match us, its, h1, h2 with | [_, _, _, _, _], [_], _, _ => ⟨_, rfl, rfl⟩)
  obtain ⟨ds2, v2, b2⟩ := F.binds1 (ps := ["self", "machine", "marks", "table", "manner"]) 4 0 (by simp) (by simp) (fun T kV doc pm an cdv ct us its h1 h2 => match us, its, h1, h2 with | [_, _, _, _], [_], _, _ => ⟨_, rfl, rfl⟩)
  exact ⟨⟨f, fd, _, ds, hok, hm, hg, b, v⟩, ⟨f, fd, _, ds2, hok, hm, hg, b2, v2⟩⟩
end
end Wb

namespace Wb
open PySem PySem.Spec PyProof.Rows L2
/-! ### the row of draws: the script, three ints -/
/-- the script at sa.1: written in K (sa.2), or in the heap -/
def Scr (K : PySem.W.Frag) (H : Hp) (sa : Addr × Bool) (ns : List Int) : Prop := match sa.2 with
  | true => ∃ (o : Obj) (its : Array Value) (n : Nat), K.lookup sa.1 = some o ∧ o.cls = .type "list" ∧ o.dict = none ∧ o.data = .seq its n ∧ its.size ≤ sizeLine ∧ Vals (ns.map V.int) its.toList
  | false => Rd H sa.1 (.lst (ns.map V.int))
theorem Scr.sq {K : PySem.W.Frag} {H : Hp} {sa : Addr × Bool} {ns : List Int} (h : Scr K H sa ns) : SqL K H sa.1 (ns.map V.int) := by
  obtain ⟨a, b⟩ := sa
  cases b with
  | true => exact .inr h
  | false => exact .inl h
theorem Scr.of {K : PySem.W.Frag} {H : Hp} {a : Addr} {ns : List Int} (h : SqL K H a (ns.map V.int)) : ∃ b, Scr K H (a, b) ns := by
  rcases h with h | h
  · exact ⟨false, h⟩
  · exact ⟨true, h⟩
/-- it stands while other things change -/
theorem Scr.gr {G : Addr → Prop} {ms : List Addr} {K : PySem.W.Frag} {H H' : Hp} {sa : Addr × Bool} {ns : List Int} (h : Scr K H sa ns) (g : Gr G ms H H') (t : Tb G H) (hm : sa.2 = true ∨ sa.1 ∉ ms) : Scr K H' sa ns := by
  obtain ⟨a, b⟩ := sa
  cases b with
  | true => exact h
  | false =>
    have hm' : a ∉ ms := hm.elim (fun z => by cases z) id
    rcases h with h | ⟨o, h⟩
    · exact .inl (g.keep a _ h (not_tab t h (fun q z => by cases z)) hm')
    · exact .inr ⟨o, g.tk.2 _ _ _ h⟩
def RowE (G : Addr → Prop) (K : PySem.W.Frag) (row : Addr) (sa : Addr × Bool) (ns : List Int) (b c d : Int) : As G := ⟨fun H => H row = some (.lst [.ref sa.1, .int b, .int c, .int d]) ∧ Scr K H sa ns, fun g t h => ⟨g.keep row _ h.1 (not_tab t h.1 (fun q z => by cases z)) (by simp), h.2.gr g t (.inr (by simp))⟩⟩
def RowA (G : Addr → Prop) (K : PySem.W.Frag) (row : Addr) (sa : Addr × Bool) (ns : List Int) : As G := ⟨fun H => ∃ b c d : Int, 0 ≤ b ∧ 0 ≤ c ∧ c < 2147483647 ∧ (RowE G K row sa ns b c d).P H, fun g t h => by
  obtain ⟨b, c, d, h1, h2, h3, h4⟩ := h
  exact ⟨b, c, d, h1, h2, h3, (RowE G K row sa ns b c d).up g t h4⟩⟩
section
variable {X : Cx} {G : Addr → Prop} {ρ : List Sv} {L : List (List Addr × Hp)} {row : Addr} {sa : Addr × Bool} {ns : List Int} {b c d : Int} {D : Ends}
/-- row[j] -/
theorem ed_row {j : Nat} {a ix : Expr} {v : V} {r : Sv} {pos : Pos} (ha : Ed X G a ρ (Jl L (RowE G X.K row sa ns b c d)) (.v (.ref row))) (hi : Ed X G ix ρ (Jl L (RowE G X.K row sa ns b c d)) (.d (.int (j : Nat)))) (hv : [V.ref sa.1, .int b, .int c, .int d][j]? = some v) (hr : ∀ H, SvOk X.K H r (some v)) (hs : PlainIx ix := by exact fun _ _ => rfl) : Ed X G (.Subscript a ix pos) ρ (Jl L (RowE G X.K row sa ns b c d)) r :=
  ed_bin (pe_ix ix_list pe_c pe_c hs) ha hi fun x y H Q h1 h2 _ jj q => by
    cases h1
    obtain ⟨_, e2, d2⟩ := h2
    cases e2; cases d2
    exact ⟨row, _, _, v, rfl, rfl, SqL.of jj.2.1, atI_nat hv, q v H (hr H) Gr.refl⟩
theorem ed_row1 {a : Expr} {j : Nat} {pos p2 : Pos} (ha : Ed X G a ρ (Jl L (RowE G X.K row sa ns b c d)) (.v (.ref row))) : Ed X G (.Subscript a (.Constant (.int 1) j p2) pos) ρ (Jl L (RowE G X.K row sa ns b c d)) (.d (.int b)) := ed_row (j := 1) ha ed_int rfl (fun H => ⟨_, rfl, .int b⟩)
theorem ed_row2 {a : Expr} {j : Nat} {pos p2 : Pos} (ha : Ed X G a ρ (Jl L (RowE G X.K row sa ns b c d)) (.v (.ref row))) : Ed X G (.Subscript a (.Constant (.int 2) j p2) pos) ρ (Jl L (RowE G X.K row sa ns b c d)) (.d (.int c)) := ed_row (j := 2) ha ed_int rfl (fun H => ⟨_, rfl, .int c⟩)
theorem ed_row3 {a : Expr} {j : Nat} {pos p2 : Pos} (ha : Ed X G a ρ (Jl L (RowE G X.K row sa ns b c d)) (.v (.ref row))) : Ed X G (.Subscript a (.Constant (.int 3) j p2) pos) ρ (Jl L (RowE G X.K row sa ns b c d)) (.d (.int d)) := ed_row (j := 3) ha ed_int rfl (fun H => ⟨_, rfl, .int d⟩)
theorem ed_row0 {a : Expr} {j : Nat} {pos p2 : Pos} (ha : Ed X G a ρ (Jl L (RowE G X.K row sa ns b c d)) (.v (.ref row))) : Ed X G (.Subscript a (.Constant (.int 0) j p2) pos) ρ (Jl L (RowE G X.K row sa ns b c d)) (.v (.ref sa.1)) := ed_row (j := 0) ha ed_int rfl (fun H => rfl)
/-- len(script) -/
theorem ed_lenR {e : Expr} {p pos : Pos} (hm : X.mg "len" = none) (h : Ed X G e ρ (Jl L (RowE G X.K row sa ns b c d)) (.v (.ref sa.1))) (hg : Gl X "len" := by rfl) (he : starEach [e] X.env = (false, eval e X.env) :: starEach [] X.env := by rfl) (hpl : (backTo pos (starEach [] X.env)).any (·.1) = false := by rfl) :
    Ed X G (.Call (.Name "len" p) [e] [] pos) ρ (Jl L (RowE G X.K row sa ns b c d)) (.d (.int (ns.length : Nat))) :=
  ed_cb (Nm.len hm hg he hpl) (ea_cons h ea_nil he) fun vs H Q s _ jj q => by
    match vs, s with
    | [v], s =>
      cases s.1
      refine ⟨sa.1, _, rfl, .inl jj.2.2.sq, q _ H ⟨_, rfl, ?_⟩ Gr.refl⟩
      rw [List.length_map]
      exact .int _
/-- script[e] -/
theorem ed_cell {a ix : Expr} {j : Nat} {z : Int} {pos : Pos} (ha : Ed X G a ρ (Jl L (RowE G X.K row sa ns b c d)) (.v (.ref sa.1))) (hi : Ed X G ix ρ (Jl L (RowE G X.K row sa ns b c d)) (.d (.int (j : Nat)))) (hz : ns[j]? = some z) (hs : PlainIx ix := by exact fun _ _ => rfl) : Ed X G (.Subscript a ix pos) ρ (Jl L (RowE G X.K row sa ns b c d)) (.d (.int z)) :=
  ed_bin (pe_ix ix_list pe_c pe_c hs) ha hi fun x y H Q h1 h2 _ jj q => by
    cases h1
    obtain ⟨_, e2, d2⟩ := h2
    cases e2; cases d2
    exact ⟨sa.1, _, _, .int z, rfl, rfl, jj.2.2.sq, atI_nat (by rw [List.getElem?_map, hz] <;> rfl), q _ H ⟨_, rfl, .int z⟩ Gr.refl⟩
/-- row[j] = e -/
theorem f_row {j : Nat} {o ix e : Expr} {z b' c' d' : Int} {p1 pos : Pos} (he : Ed X G e ρ (Jl L (RowE G X.K row sa ns b c d)) (.d (.int z))) (ho : Ed X G o ρ (Jl L (RowE G X.K row sa ns b c d)) (.v (.ref row))) (hi : Ed X G ix ρ (Jl L (RowE G X.K row sa ns b c d)) (.d (.int (j : Nat)))) (hj : j < 4) (hm : Mu L [row]) (hoff : OffL [row] ρ)
    (hv : [V.ref sa.1, .int b, .int c, .int d].set j (.int z) = [V.ref sa.1, .int b', .int c', .int d']) (k : Fin X D.nx ρ (Jl L (RowE G X.K row sa ns b' c' d')))
    (hs : swapsWithSole [.Subscript o ix p1] e pos.line X.env = pure false := by rfl) (hw : swappedStores [.Subscript o ix p1] e X.env = pure none := by rfl) (h1 : List.map (fun x => x.snd) (assignEach [.Subscript o ix p1] X.env) = [assign (.Subscript o ix p1) X.env] := by rfl)
    (h2 : ∀ (v : Value), assign (.Subscript o ix p1) X.env v = (do
      let ov ← holding [v] (eval o X.env)
      let iv ← holding [v, ov] (eval ix X.env)
      standAt p1
      holding [v, ov, iv] (setItem ov iv v)
      release [v, ov, iv] []) := by intro _; rfl) : Fin X (cS X (.Assign [.Subscript o ix p1] e pos) D) ρ (Jl L (RowE G X.K row sa ns b c d)) := fun σ H s t jj => by
  refine ⟨_, ps_asg pe_c (pg_sub pe_c pe_c set_list h2) hs hw h1, he σ H _ s t jj fun v H1 s1 g1 => ho σ H1 _ (s.g0 g1 t) (t.up g1) ((Jl L _).up g1 t jj) fun x H2 s2 g2 => hi σ H2 _ (s.g0 (g1.trans g2) t) (t.up (g1.trans g2)) ((Jl L _).up (g1.trans g2) t jj) fun y H3 s3 g3 => ?_⟩
  obtain ⟨_, e1, d1⟩ := s1
  obtain ⟨_, e3, d3⟩ := s3
  cases e1; cases d1; cases s2; cases e3; cases d3
  have g := g1.trans (g2.trans g3)
  have j3 := (Jl L _).up g t jj
  obtain ⟨h4, h5⟩ := j3.2
  refine ⟨row, _, _, j, rfl, rfl, h4, ?_, ?_⟩
  · have : ixN 4 (j : Int) = some j := by
      rcases j with _ | _ | _ | _ | j
      · rfl
      · rfl
      · rfl
      · rfl
      · omega
    exact this
  · rw [hv]
    have g4 : Gr G [row] H3 (upd H3 row (.lst [.ref sa.1, .int b', .int c', .int d'])) := Gr.put h4 trivial (by simp)
    refine k σ _ (Sl.up g4 (t.up g) hoff.all (s.g0 g t)) ((t.up g).up g4) (Jl.step j3 g4 hm ⟨upd_same, ?_⟩)
    obtain ⟨sa1, sb⟩ := sa
    cases sb with
    | true => exact h5
    | false =>
      rcases h5 with h5 | ⟨o, h5⟩
      · have e : sa1 ≠ row := fun e => by
          have h5' : H3 sa1 = some (.lst (ns.map V.int)) := h5
          rw [e, h4] at h5'
          injection h5' with h5'
          injection h5' with h5'
          cases ns with
          | nil => cases h5'
          | cons n ns =>
            rw [List.map_cons] at h5'
            injection h5' with h6 h7
            cases h6
        exact .inl (by show upd H3 row _ sa1 = _; rw [upd_ne e]; exact h5)
      · have e : sa1 ≠ row := fun z => by
          have h5' : H3 sa1 = some (.frz o (.lst (ns.map V.int))) := h5
          rw [z, h4] at h5'
          cases h5'
        exact .inr ⟨o, by show upd H3 row _ sa1 = _; rw [upd_ne e]; exact h5⟩
/-! ints -/
theorem ed_int1 {J : As G} {e : Expr} {i : Int} {p pos : Pos} (hm : X.mg "int" = none) (h : Ed X G e ρ J (.d (.int i))) (hg : Gl X "int" := by rfl) (he : starEach [e] X.env = (false, eval e X.env) :: starEach [] X.env := by rfl) (hpl : (backTo pos (starEach [] X.env)).any (·.1) = false := by rfl) :
    Ed X G (.Call (.Name "int" p) [e] [] pos) ρ J (.d (.int i)) :=
  ed_cb (pe_callTy call_int1 hg hm (by decide +kernel) pa_c (by decide) (by decide) he hpl) (ea_cons h ea_nil he) fun vs H Q s _ _ q => by
    match vs, s with
    | [v], s =>
      obtain ⟨_, e1, d1⟩ := s.1
      cases e1; cases d1
      exact .inl ⟨i, rfl, q _ H ⟨_, rfl, .int i⟩ Gr.refl⟩
theorem ed_int1b {J : As G} {e : Expr} {x : Bool} {p pos : Pos} (hm : X.mg "int" = none) (h : Ed X G e ρ J (.d (.bool x))) (hg : Gl X "int" := by rfl) (he : starEach [e] X.env = (false, eval e X.env) :: starEach [] X.env := by rfl) (hpl : (backTo pos (starEach [] X.env)).any (·.1) = false := by rfl) :
    Ed X G (.Call (.Name "int" p) [e] [] pos) ρ J (.d (eN (if x = true then 1 else 0))) :=
  ed_cb (pe_callTy call_int1 hg hm (by decide +kernel) pa_c (by decide) (by decide) he hpl) (ea_cons h ea_nil he) fun vs H Q s _ _ q => by
    match vs, s with
    | [v], s =>
      obtain ⟨_, e1, d1⟩ := s.1
      cases e1; cases d1
      refine .inr ⟨x, rfl, q _ H ⟨_, rfl, ?_⟩ Gr.refl⟩
      cases x <;> exact .int _
theorem ed_mod {J : As G} {a b : Expr} {i j : Int} {pos : Pos} (ha : Ed X G a ρ J (.d (.int i))) (hb : Ed X G b ρ J (.d (.int j))) (h0 : j ≠ 0) : Ed X G (.BinOp a .Mod b pos) ρ J (.d (.int (i.fmod j))) :=
  ed_bin (pe_op op_modN pe_c pe_c) ha hb fun v w H Q h1 h2 _ _ q => by
    obtain ⟨_, e1, d1⟩ := h1
    obtain ⟨_, e2, d2⟩ := h2
    cases e1; cases e2; cases d1; cases d2
    exact ⟨i, j, rfl, rfl, h0, q _ H ⟨_, rfl, .int _⟩ Gr.refl⟩
theorem ed_div {J : As G} {a b : Expr} {i j : Int} {pos : Pos} (ha : Ed X G a ρ J (.d (.int i))) (hb : Ed X G b ρ J (.d (.int j))) (h0 : j ≠ 0) (h9 : j.natAbs < 1073741824) : Ed X G (.BinOp a .FloorDiv b pos) ρ J (.d (.int (i.fdiv j))) :=
  ed_bin (pe_op op_fdivN pe_c pe_c) ha hb fun v w H Q h1 h2 _ _ q => by
    obtain ⟨_, e1, d1⟩ := h1
    obtain ⟨_, e2, d2⟩ := h2
    cases e1; cases e2; cases d1; cases d2
    exact ⟨i, j, rfl, rfl, ⟨h0, h9⟩, q _ H ⟨_, rfl, .int _⟩ Gr.refl⟩
theorem ed_mul {J : As G} {a b : Expr} {i j : Int} {pos : Pos} (ha : Ed X G a ρ J (.d (.int i))) (hb : Ed X G b ρ J (.d (.int j))) (h0 : -(2 ^ 64) < i ∧ i < 2 ^ 64) : Ed X G (.BinOp a .Mult b pos) ρ J (.d (.int (i * j))) :=
  ed_bin (pe_op op_mul pe_c pe_c) ha hb fun v w H Q h1 h2 _ _ q => by
    obtain ⟨_, e1, d1⟩ := h1
    obtain ⟨_, e2, d2⟩ := h2
    cases e1; cases e2; cases d1; cases d2
    exact ⟨i, j, rfl, rfl, .inl h0, q _ H ⟨_, rfl, .int _⟩ Gr.refl⟩
theorem ed_pow {J : As G} {a b : Expr} {i j : Int} {pos : Pos} (ha : Ed X G a ρ J (.d (.int i))) (hb : Ed X G b ρ J (.d (.int j))) (h0 : 0 ≤ j ∧ j ≤ 1000000 ∧ i.natAbs < 2 ^ 64) : Ed X G (.BinOp a .Pow b pos) ρ J (.d (.int (i ^ j.toNat))) :=
  ed_bin (pe_op op_pow pe_c pe_c) ha hb fun v w H Q h1 h2 _ _ q => by
    obtain ⟨_, e1, d1⟩ := h1
    obtain ⟨_, e2, d2⟩ := h2
    cases e1; cases e2; cases d1; cases d2
    exact ⟨i, j, rfl, rfl, h0, q _ H ⟨_, rfl, .int _⟩ Gr.refl⟩
end
section
variable {P : Program} {w : World} {K : PySem.W.Frag} {mg : Str → Option Value} {base : Heap} {G : Addr → Prop}
/-! ### _law_taken -/
/-- a draw: the answer is one of these -/
def fDraw (K : PySem.W.Frag) (f : List Sv → Addr → PyData → Prop) : List Sv → As G → List Addr → (Sv → As G → Prop) → Prop := fun rs A ms Post => ∃ (row : Addr) (sa : Addr × Bool) (ns : List Int) (args : List Sv), (∃ z, f args row z) ∧ rs = .v (.ref row) :: args ∧ A = RowA G K row sa ns ∧ ms = [row] ∧ Post = fun r B => (∃ z, f args row z ∧ r = .d z) ∧ B = RowA G K row sa ns
def gTaken (args : List Sv) (row : Addr) (z : PyData) : Prop := ∃ (m n : Nat), 0 < m ∧ m ≤ 1000000 ∧ args = [.d (eN m)] ∧ n < m ∧ z = eN n
theorem scTaken : FnScope ["_law_row_here", "_law_many", "_law_found", "_law_cell"] ["_law_row_here", "_law_many"] (defScope (top 44)) := ⟨rfl, rfl, rfl, by decide +kernel, rfl, by decide +kernel, by decide +kernel⟩
theorem fmodN (i : Int) {m : Nat} (h : 0 < m) : ∃ n : Nat, n < m ∧ i.fmod (m : Nat) = (n : Nat) := by
  have h1 := Int.fmod_nonneg_of_pos i (b := (m : Int)) (by omega)
  have h2 := Int.fmod_lt_of_pos i (b := (m : Int)) (by omega)
  exact ⟨(i.fmod m).toNat, by omega, by omega⟩
theorem ok_taken (E : Ev K mg) (h : Dg K mg "_law_taken" (top 44)) : Cal P w K mg base 1 "_law_taken" (spS K G (fDraw K gTaken)) [] :=
  cal_of h (fun f fd F => ok_S F scTaken (fun rs A ms Post ⟨_, _, _, _, ⟨_, _, _, _, _, e, _⟩, e2, _⟩ => by rw [e2, e] <;> rfl) fun c' A' outer s H E0 hcd hr rs A ms Post vs Q hR sa ha q => by
    obtain ⟨row, sca, ns, args, ⟨z, m, n0, h1, h2, rfl, _, _⟩, rfl, rfl, rfl, rfl⟩ := hR
    have m0 : ((m : Nat) : Int) ≠ 0 := by omega
    have m9 : ((m : Nat) : Int).natAbs < 1073741824 := by omega
    have o4 : ∀ {a b c : Sv}, OffL [row] [.v (.ref row), .d (eN m), .u, .u] := ⟨trivial, trivial, trivial, trivial, trivial⟩
    have out : ∀ (n : Nat), n < m → ∀ {J : PyData}, J = eN n → (∃ z, gTaken [.d (eN m)] row z ∧ Sv.d J = .d z) := fun n hn J hJ => ⟨eN n, ⟨m, n, h1, h2, rfl, hn, rfl⟩, by rw [hJ]⟩
    have toA : ∀ {b c d : Int}, 0 ≤ b → 0 ≤ c → c < 2147483647 → ∀ H, (RowE G K row sca ns b c d).P H → (RowA G K row sca ns).P H := fun h1 h2 h3 H h => ⟨_, _, _, h1, h2, h3, h⟩
    refine f_ex (α := { p : Int × Int × Int // 0 ≤ p.1 ∧ 0 ≤ p.2.1 ∧ p.2.1 < 2147483647 }) (J' := fun p => Jl [([row], H)] (RowE G K row sca ns p.1.1 p.1.2.1 p.1.2.2)) (fun p => ?_) (fun H1 j => by
      obtain ⟨b, c, d, hb, hc, hc2, hE⟩ := j.2
      exact ⟨⟨(b, c, d), hb, hc, hc2⟩, j.1, hE⟩)
    obtain ⟨⟨b, c, d⟩, hb, hc, hc2⟩ := p
    simp only at hb hc hc2
    refine f_cons (f_if (x := decide ((0 : Int) < d)) (et_gt (ed_row3 (ed_name 0)) ed_int) (fun _ => ?_) fun _ => f_nil ?_)
    · obtain ⟨n, hn, en⟩ := fmodN d h1
      refine f_cons (f_set 2 (r := .d (eN n)) (Ed.to (ed_mod (ed_int1 E.int (ed_row3 (ed_name 0))) (ed_name 1) m0) (by rw [en] <;> rfl)) ?_ scTaken.nd)
      refine f_cons (f_row (j := 3) (b' := b) (c' := c) (d' := d.fdiv m) (ed_div (ed_row3 (ed_name 0)) (ed_name 1) m0 m9) (ed_name 0) ed_int (by decide) muA ⟨trivial, trivial, trivial, trivial, trivial⟩ rfl ?_)
      exact f_one (r_ed q (ed_name 2) ⟨out n hn rfl, rfl⟩ (hAB := toA hb hc hc2))
    refine f_cons (f_row (j := 1) (b' := b + 1) (c' := c) (d' := d) (ed_add (ed_row1 (ed_name 0)) ed_int) (ed_name 0) ed_int (by decide) muA ⟨trivial, trivial, trivial, trivial, trivial⟩ rfl ?_)
    refine f_cons (f_if (x := decide (((ns.length : Nat) : Int) < b + 1)) (et_gt (ed_row1 (ed_name 0)) (ed_lenR E.len (ed_row0 (ed_name 0)))) (fun _ => ?_) fun e => f_nil ?_)
    · obtain ⟨c2, hc3, ec⟩ := fmodN (c * 48271 + 11) (m := 2147483647) (by decide)
      refine f_cons (f_row (j := 2) (z := (c2 : Nat)) (b' := b + 1) (c' := (c2 : Nat)) (d' := d) (Ed.to (ed_mod (ed_int1 E.int (ed_add (ed_mul (ed_row2 (ed_name 0)) ed_int ⟨by omega, by omega⟩) ed_int)) ed_int (by decide)) (by rw [← ec] <;> rfl)) (ed_name 0) ed_int (by decide) muA ⟨trivial, trivial, trivial, trivial, trivial⟩ rfl ?_)
      obtain ⟨n, hn, en⟩ := fmodN (((c2 : Nat) : Int).fdiv 7) h1
      exact f_one (r_ed q (r := .d (eN n)) (Ed.to (ed_mod (ed_int1 E.int (ed_div (ed_row2 (ed_name 0)) ed_int (by decide) (by decide))) (ed_name 1) m0) (by rw [en] <;> rfl)) ⟨out n hn rfl, rfl⟩ (hAB := toA (by omega) (by omega) (by omega)))
    have hlt : b.toNat < ns.length := by
      have := of_decide_eq_false e
      omega
    have hz : ns[b.toNat]? = some ns[b.toNat] := List.getElem?_eq_getElem hlt
    refine f_cons (f_set 3 (r := .d (.int ns[b.toNat])) (ed_cell (j := b.toNat) (ed_row0 (ed_name 0)) (Ed.to (ed_sub (ed_row1 (ed_name 0)) ed_int) (by congr 2; omega)) hz) ?_ scTaken.nd)
    obtain ⟨c2, hc3, ec⟩ := fmodN (c * 48271 + ns[b.toNat] + 11) (m := 2147483647) (by decide)
    refine f_cons (f_row (j := 2) (z := (c2 : Nat)) (b' := b + 1) (c' := (c2 : Nat)) (d' := d) (Ed.to (ed_mod (ed_int1 E.int (ed_add (ed_add (ed_mul (ed_row2 (ed_name 0)) ed_int ⟨by omega, by omega⟩) (ed_name 3)) ed_int)) ed_int (by decide)) (by rw [← ec] <;> rfl)) (ed_name 0) ed_int (by decide) muA ⟨trivial, trivial, trivial, trivial, trivial⟩ rfl ?_)
    obtain ⟨n, hn, en⟩ := fmodN ns[b.toNat] h1
    refine f_cons (f_if (et_ge (ed_name 3) (ed_pow ed_int ed_int ⟨by decide, by decide, by decide⟩)) (fun _ => ?_) fun _ => f_nil ?_)
    · refine f_one (f_row (j := 3) (b' := b + 1) (c' := (c2 : Nat)) (d' := (ns[b.toNat]).fdiv m) (ed_div (ed_name 3) (ed_name 1) m0 m9) (ed_name 0) ed_int (by decide) muA ⟨trivial, trivial, trivial, trivial, trivial⟩ rfl ?_)
      exact f_one (r_ed q (r := .d (eN n)) (Ed.to (ed_mod (ed_int1 E.int (ed_name 3)) (ed_name 1) m0) (by rw [en] <;> rfl)) ⟨out n hn rfl, rfl⟩ (hAB := toA (by omega) (by omega) (by omega)))
    · exact f_one (r_ed q (r := .d (eN n)) (Ed.to (ed_mod (ed_int1 E.int (ed_name 3)) (ed_name 1) m0) (by rw [en] <;> rfl)) ⟨out n hn rfl, rfl⟩ (hAB := toA (by omega) (by omega) (by omega))))
    fun _ _ _ _ _ _ us hl => match us, hl with | [_, _], _ => rfl
end
end Wb

namespace Wb
open PySem PySem.Spec PyProof.Rows L2
section
variable {X : Cx} {G : Addr → Prop} {ρ : List Sv} {L : List (List Addr × Hp)} {A : As G} {D : Ends} {J : As G}
/-! ### a list, new or known -/
def El (X : Cx) (G : Addr → Prop) (e : Expr) (ρ : List Sv) (J : As G) (Pa : Addr → Prop) (ds : List PyData) : Prop := ∀ (σ : L2.St) (H : Hp) (Q : VK), Sl X.K H ρ σ → Tb G H → J.P H → (∀ a H', Pa a → SvOk X.K H' (.l a ds) (some (.ref a)) → Gr G [] H H' → Q (.ref a) H') → cE X e σ H Q
theorem el_ed {e : Expr} {a : Addr} {ds : List PyData} {Pa : Addr → Prop} (h : Ed X G e ρ J (.l a ds)) (ha : Pa a) : El X G e ρ J Pa ds := fun σ H Q s t j q => h σ H Q s t j fun v H' s' g => by
  have e := s'.1
  injection e with e
  subst e
  exact q a H' ha s' g
theorem el_en {e : Expr} {ds : List PyData} {Pa : Addr → Prop} (h : En X G e ρ J ds) (ha : ∀ H a, J.P H → H a = none → Pa a) : El X G e ρ J Pa ds := fun σ H Q s t j q => h σ H Q s t j fun a H' n s' g => q a H' (ha H a j n) s' g
theorem el_if {c a b : Expr} {x : Bool} {Pa : Addr → Prop} {ds : List PyData} {pos : Pos} (h : Et X G c ρ J x) (h1 : x = true → El X G a ρ J Pa ds) (h2 : x = false → El X G b ρ J Pa ds) : El X G (.IfExp c a b pos) ρ J Pa ds := fun σ H Q hs ht hj q =>
  ⟨_, pe_ifExp pt_c pe_c pe_c, h σ H _ hs ht hj fun H1 g1 => by
    cases x with
    | true => exact h1 rfl σ H1 Q (hs.g0 g1 ht) (ht.up g1) (J.up g1 ht hj) fun a H2 p s2 g2 => q a H2 p s2 (g1.trans g2)
    | false => exact h2 rfl σ H1 Q (hs.g0 g1 ht) (ht.up g1) (J.up g1 ht hj) fun a H2 p s2 g2 => q a H2 p s2 (g1.trans g2)⟩
/-! ### draws -/
section
variable {g : List Sv → Addr → PyData → Prop} {x : Str} {k : Nat} {p pos : Pos} {e : Expr} {es : List Expr} {row : Addr} {sa : Addr × Bool} {ns : List Int} {args : List Sv}
theorem ek_draw (C : Cal X.prog X.w X.K X.mg X.base k x (spS X.K G (fDraw X.K g)) []) (hr : Room k X.A) (ha : Ea X G (e :: es) ρ (Jl L (RowA G X.K row sa ns)) (.v (.ref row) :: args)) (hz : ∃ z, g args row z) (hm : Mu L [row]) (hoff : OffL [row] ρ)
    (hg : Gl X x := by rfl) (hdb : (x == ("__debug__" : Str)) = false := by decide) (he : starEach (e :: es) X.env = (false, eval e X.env) :: starEach es X.env := by rfl) (hpl : (backTo pos (starEach es X.env)).any (·.1) = false := by rfl) :
    Ek X G (.Call (.Name x p) (e :: es) [] pos) ρ (Jl L (RowA G X.K row sa ns)) (fun r J' => (∃ z, g args row z ∧ r = .d z) ∧ J' = Jl L (RowA G X.K row sa ns)) :=
  ek_call (ss := []) (ms := [row]) (A := RowA G X.K row sa ns) (P0 := fun r B => (∃ z, g args row z ∧ r = .d z) ∧ B = RowA G X.K row sa ns) C hr ha (fun _ => trivial) (by rw [List.append_nil]; exact ⟨row, sa, ns, args, hz, rfl, rfl, rfl, rfl⟩) (fun _ h => h.2) hoff
    (fun r B H H' p j t g b => ⟨_, ⟨p.1, rfl⟩, Jl.step j g hm (by rw [← p.2]; exact b)⟩) hg hdb he hpl
def gPick (args : List Sv) (row : Addr) (z : PyData) : Prop := ∃ (a : Addr) (ds : List PyData), args = [.l a ds] ∧ ds ≠ [] ∧ ds.length ≤ 1000 ∧ a ≠ row ∧ z ∈ ds
/-- pick(row, xs): xs new or known -/
theorem ek_pick {e2 : Expr} {ds : List PyData} (C : Cal X.prog X.w X.K X.mg X.base k "_law_pick" (spS X.K G (fDraw X.K gPick)) []) (hr : Room k X.A) (ho : Ed X G e ρ (Jl L (RowA G X.K row sa ns)) (.v (.ref row))) (hl : El X G e2 ρ (Jl L (RowA G X.K row sa ns)) (fun a => a ≠ row) ds) (h0 : ds ≠ []) (h1 : ds.length ≤ 1000) (hm : Mu L [row]) (hoff : OffL [row] ρ)
    (hg : Gl X "_law_pick" := by rfl) (he : starEach [e, e2] X.env = (false, eval e X.env) :: starEach [e2] X.env := by rfl) (he2 : starEach [e2] X.env = (false, eval e2 X.env) :: starEach [] X.env := by rfl) (hpl : (backTo pos (starEach [e2] X.env)).any (·.1) = false := by rfl) :
    Ek X G (.Call (.Name "_law_pick" p) [e, e2] [] pos) ρ (Jl L (RowA G X.K row sa ns)) (fun r J' => ∃ z, z ∈ ds ∧ r = .d z ∧ J' = Jl L (RowA G X.K row sa ns)) := fun σ H Q s t j q => by
  obtain ⟨f, fd, ps, dd, F, hm', hk, hb, hv⟩ := C
  refine ⟨_, pe_call F hr hg hm' hk hb hv pass0 (pa_cons pe_c (pa_cons pe_c pa_nil he2) he) (by decide) he hpl, ho σ H _ s t j fun v H1 s1 g1 => ?_⟩
  cases s1
  refine hl σ H1 _ (s.g0 g1 t) (t.up g1) ((Jl L _).up g1 t j) fun a H2 ha s2 g2 => ?_
  have g12 := g1.trans g2
  refine ret_k (ss := []) (rs := [.v (.ref row), .l a ds]) (vs := [.ref row, .ref a]) (dvs := []) (ms := [row]) (A := RowA G X.K row sa ns) (P0 := fun r B => (∃ z, gPick [.l a ds] row z ∧ r = .d z) ∧ B = RowA G X.K row sa ns) (fun _ => trivial)
    (by
      obtain ⟨z, zs, e⟩ := List.exists_cons_of_ne_nil h0
      exact ⟨row, sa, ns, [.l a ds], ⟨z, a, ds, rfl, h0, h1, ha, by rw [e]; exact List.mem_cons_self⟩, rfl, rfl, rfl, rfl⟩) (fun H (h : (Jl L (RowA G X.K row sa ns)).P H) => h.2) hoff (fun r B H H' p j t g b => ?_) s t j ⟨rfl, s2, trivial⟩ g12 q
  obtain ⟨⟨z, ⟨a', ds', e, _, _, _, hz⟩, rfl⟩, rfl⟩ := p
  injection e with e
  injection e with e1 e2
  subst e1 e2
  exact ⟨_, ⟨z, hz, rfl, rfl⟩, Jl.step j g hm b⟩
end
/-! ### range(an expression that draws) -/
theorem ei_rngK {ms : List Addr} {e : Expr} {Post : Nat → As G → Prop} {x : Str} {px p1 p2 : Pos} (hm : X.mg "range" = none) (he : Ek X G e ρ J (fun r J' => ∃ n : Nat, r = .d (eN n) ∧ n ≤ 1000000 ∧ Post n J')) (hg : Gl X "range" := by rfl) (h1 : starEach [e] X.env = [(false, eval e X.env)] := by rfl) :
    Ei X G ms (.Name x px) (.Call (.Name "range" p1) [e] [] p2) ρ J (fun ds J' => ∃ n, ds = rngD 0 n ∧ Post n J') := fun σ H R s t j q => by
  refine ⟨_, pi_range1 hg hm (pa_cons pe_c pa_nil (by rw [h1] <;> rfl)) h1, he σ H _ s t j fun r J' v H1 p s1 _ sl t1 tk dm j1 => ?_⟩
  obtain ⟨n, rfl, hn, p⟩ := p
  obtain ⟨_, e1, d1⟩ := s1
  cases e1; cases d1
  refine ⟨(n : Nat), rfl, by omega, by omega, ?_⟩
  have e : ((n : Nat) : Int).toNat = n := by omega
  rw [e]
  exact q _ J' _ H1 ⟨n, rfl, p⟩ (wk_rng (lo := 0)) sl t1 tk dm j1
theorem f_forK (i : Nat) {x : Str} {it : Expr} {body : List Stmt} {px pos : Pos} (ms : List Addr) {Pd : List PyData → Prop} (hit : Ei X G ms (.Name x px) it ρ (Jl L A) (fun ds J' => Pd ds ∧ J' = Jl L A)) (I : List PyData → Nat → List Sv → As G → Prop) (i0 : ∀ ds, Pd ds → I ds 0 ρ A)
    (hs : ∀ ds, Pd ds → ∀ H1 n d ρ A', ds[n]? = some d → I ds n ρ A' → Fin X (cSs X body { D with nx := Nxt X ms H1 L (I ds (n + 1)), ct := Nxt X ms H1 L (I ds (n + 1)), bk := D.nx }) (ρ.set i (.d d)) (Jl ((ms, H1) :: L) A'))
    (hd : ∀ ds, Pd ds → ∀ ρ A', I ds ds.length ρ A' → Fin X D.nx ρ (Jl L A'))
    (hN : X.N.Nodup) (hp : PassesOwn (model X.prog X.w) X.A X.env X.xe := by exact PassesOwn.never) (hc : X.calm = true := by rfl) (hi : X.N[i]? = some x := by rfl) (hx : Loc X.env.scope x := by first | exact Or.inl rfl | exact Or.inr rfl)
    (hf : X.fn x = true ∨ X.env.scope.names.lookup x = some .local := by first | exact .inl rfl | exact .inr rfl) (hsi : ∀ x, foldedSetIterable it X.env x = pure x := by intro _; rfl) :
    Fin X (cS X (.For (.Name x px) it body [] pos) D) ρ (Jl L A) :=
  f_for i ms hit (fun ds J1 σ H1 hJ _ _ j1 => by
    obtain ⟨hP, rfl⟩ := hJ
    exact ⟨L, I ds, ⟨A, i0 ds hP, j1⟩, fun n d ρ A' hd hI => hs ds hP H1 n d ρ A' hd hI, fun ρ A' hI => hd ds hP ρ A' hI⟩) hp hN hc hi hx hf hsi
/-! ### statements around draws -/
abbrev Dr (L : List (List Addr × Hp)) (A : As G) (Pd : PyData → Prop) : Sv → As G → Prop := fun r J' => ∃ d, r = .d d ∧ Pd d ∧ J' = Jl L A
theorem f_parKN (i j : Nat) {x y : Str} {a b : Expr} {px py pt : Pos} {kt k2 pt2} {pos : Pos} {Pd : PyData → Prop} {ds : List PyData} (ha : Ek X G a ρ (Jl L A) (Dr L A Pd)) (hb : En X G b ρ (Jl L A) ds) (k : ∀ d a, Pd d → Mu L [a] → OffL [a] ρ → (∀ b, (∀ H, A.P H → ∃ o, H b = some o) → b ≠ a) → Fin X D.nx ((ρ.set i (.d d)).set j (.l a ds)) (Jl L A)) (hN : X.N.Nodup) (hij : i ≠ j := by decide) (hc : X.calm = true := by rfl) (hi : X.N[i]? = some x := by rfl) (hj : X.N[j]? = some y := by rfl)
    (hx : X.env.scope.names.lookup x = some .local := by rfl) (hy : X.env.scope.names.lookup y = some .local := by rfl)
    (hw : swappedStores [.Tuple [.Name x px, .Name y py] kt pt] (.Tuple [a, b] k2 pt2) X.env = pure (some [x, y]) := by rfl) (h0 : starEach [a, b] X.env = (false, eval a X.env) :: starEach [b] X.env := by rfl) (h1 : starEach [b] X.env = (false, eval b X.env) :: starEach [] X.env := by rfl)
    (hs : swapsWithSole [.Tuple [.Name x px, .Name y py] kt pt] (.Tuple [a, b] k2 pt2) pos.line X.env = pure false := by rfl) : Fin X (cS X (.Assign [.Tuple [.Name x px, .Name y py] kt pt] (.Tuple [a, b] k2 pt2) pos) D) ρ (Jl L A) := fun σ H sl t jj =>
  ⟨_, ps_par hc hN hi hj hij hx hy (pa_cons pe_c (pa_cons pe_c pa_nil h1) h0) hw hs, ha σ H _ sl t jj fun r J' v H1 p s1 _ sl1 t1 _ _ j1 => by
    obtain ⟨d, rfl, hd, rfl⟩ := p
    refine hb σ H1 _ sl1 t1 j1 fun p H2 np s2 g2 => ?_
    refine ⟨v, _, rfl, k d p hd (Jl.fresh j1 np) (OffL.newS np sl1) (fun b hb z => ?_) _ H2 (((sl1.g0 g2 t1).set i (s1.g0 g2 t1)).set j s2) (t1.up g2) ((Jl L A).up g2 t1 j1)⟩
    obtain ⟨o, e⟩ := hb H1 j1.2
    rw [z, np] at e
    cases e⟩
theorem f_parKK (i j : Nat) {x y : Str} {a b : Expr} {px py pt : Pos} {kt k2 pt2} {pos : Pos} {Pd Pe : PyData → Prop} (ha : Ek X G a ρ (Jl L A) (Dr L A Pd)) (hb : Ek X G b ρ (Jl L A) (Dr L A Pe)) (k : ∀ d e, Pd d → Pe e → Fin X D.nx ((ρ.set i (.d d)).set j (.d e)) (Jl L A)) (hN : X.N.Nodup) (hij : i ≠ j := by decide) (hc : X.calm = true := by rfl) (hi : X.N[i]? = some x := by rfl) (hj : X.N[j]? = some y := by rfl)
    (hx : X.env.scope.names.lookup x = some .local := by rfl) (hy : X.env.scope.names.lookup y = some .local := by rfl)
    (hw : swappedStores [.Tuple [.Name x px, .Name y py] kt pt] (.Tuple [a, b] k2 pt2) X.env = pure (some [x, y]) := by rfl) (h0 : starEach [a, b] X.env = (false, eval a X.env) :: starEach [b] X.env := by rfl) (h1 : starEach [b] X.env = (false, eval b X.env) :: starEach [] X.env := by rfl)
    (hs : swapsWithSole [.Tuple [.Name x px, .Name y py] kt pt] (.Tuple [a, b] k2 pt2) pos.line X.env = pure false := by rfl) : Fin X (cS X (.Assign [.Tuple [.Name x px, .Name y py] kt pt] (.Tuple [a, b] k2 pt2) pos) D) ρ (Jl L A) := fun σ H sl t jj =>
  ⟨_, ps_par hc hN hi hj hij hx hy (pa_cons pe_c (pa_cons pe_c pa_nil h1) h0) hw hs, ha σ H _ sl t jj fun r J' v H1 p s1 _ sl1 t1 _ _ j1 => by
    obtain ⟨d, rfl, hd, rfl⟩ := p
    refine hb σ H1 _ sl1 t1 j1 fun r2 J2 v2 H2 p2 s2 _ sl2 t2 tk2 _ j2 => ?_
    obtain ⟨e, rfl, he, rfl⟩ := p2
    exact ⟨v, v2, rfl, k d e hd he _ H2 ((sl2.set i (SvOk.tk (r := .d d) tk2 trivial s1)).set j s2) t2 j2⟩⟩
theorem f_appK (i : Nat) {x : Str} {e : Expr} {a : Addr} {ds : List PyData} {Pd : PyData → Prop} {p1 apos cpos pos : Pos} (he : Ek X G e ρ (Jl L A) (Dr L A Pd)) (hl : ds.length ≤ 1000000) (hm : Mu L [a]) (hρ : OffL [a] (ρ.set i .u)) (hA : ∀ H xs ys, A.P H → H a = some (.lst xs) → A.P (upd H a (.lst ys))) (k : ∀ d, Pd d → Fin X D.nx (ρ.set i (.l a (ds ++ [d]))) (Jl L A))
    (hr : ρ[i]? = some (.l a ds) := by rfl) (hN : X.N[i]? = some x := by rfl) (hv : Vis X.env.scope x := by first | exact Or.inl rfl | exact Or.inr (Or.inl rfl) | exact Or.inr (Or.inr rfl)) (hd : (x == ("__debug__" : Str)) = false := by decide) (hcd : (x == ("__classdict__" : Str)) = false := by decide)
    (hs : swapsWith (.Call (.Attribute (.Name x p1) "append" apos) [e] [] cpos) none pos.line X.env = pure false := by rfl)
    (hbase : attributeBase (.Name x p1) "append" X.env (eval (.Name x p1) X.env) = eval (.Name x p1) X.env := by rfl)
    (hfew : ((backTo cpos (starEach (e :: []) X.env)).all (fun x => !x.1) && (backToKw cpos (keywordEach [] X.env)).all (fun x => x.1.isSome)
      && decide ((e :: []).length + ([] : List Keyword).length + (if ([] : List Keyword).isEmpty then 0 else 1) < 30)) = true := by rfl)
    (hline : (apos.endLine == cpos.line) = true := by rfl) (hst : starEach (e :: []) X.env = (false, eval e X.env) :: starEach [] X.env := by rfl) (hplain : (backTo cpos (starEach [] X.env)).any (·.1) = false := by rfl) :
    Fin X (cS X (.Expr (.Call (.Attribute (.Name x p1) "append" apos) [e] [] cpos) pos) D) ρ (Jl L A) := fun σ H s t j => by
  obtain ⟨o, e1, e2, vs, hH, hda, hz⟩ := s.get hr
  cases e2
  refine ⟨_, ps_expr (pe_bm PySem.F.plainAttrs_list PySem.F.slot_list_append PySem.F.type_list_append mt_append (pe_var (i := i) hN hv hd hcd) (pa_cons pe_c pa_nil hst) hbase hfew hline hst hplain) hs, .ref a, e1, .inl ⟨rfl, vs, SqL.of hH⟩, ?_⟩
  refine he σ H _ s t j fun r J' v H1 p s1 _ sl1 t1 _ _ j1 => ?_
  obtain ⟨d, rfl, hP, rfl⟩ := p
  obtain ⟨_, e3, d1⟩ := s1
  cases e3
  obtain ⟨o', e1', e2', vs', hH1, hda', hz'⟩ := sl1.get hr
  have hlen := hda'.len
  refine ⟨a, vs', v, rfl, rfl, hH1, Nat.lt_of_le_of_lt (show vs'.length ≤ 1000000 by omega) (by decide), ?_⟩
  have g2 : Gr G [a] H1 (upd H1 a (.lst (vs' ++ [v]))) := Gr.put hH1 trivial (by simp)
  have s2 : Sl X.K (upd H1 a (.lst (vs' ++ [v]))) (ρ.set i .u) (σ.set i (some (.ref a))) := Sl.up g2 t1 hρ.all (sl1.set i trivial)
  have s3 := s2.set (r := .l a (ds ++ [d])) (o := some (.ref a)) i ⟨rfl, vs' ++ [v], upd_same, (hda'.app (.cons d1 .nil)).up g2, by rw [List.length_append, List.length_singleton]; exact Nat.le_trans (show vs'.length + 1 ≤ 1000001 by omega) (by decide)⟩
  rw [List.set_set, List.set_set] at s3
  have eσ : σ.set i (some (.ref a)) = σ := by
    apply List.ext_getElem?
    intro n
    by_cases hn : n = i
    · subst hn
      obtain ⟨h1, h2⟩ := List.getElem?_eq_some_iff.mp e1
      rw [List.getElem?_set_self h1, e1]
    · rw [List.getElem?_set_ne (Ne.symm hn)]
  rw [eσ] at s3
  exact k d hP σ _ s3 (t1.up g2) (Jl.step j1 g2 hm (hA H1 vs' _ j1.2 hH1))
/-- (e1, e2), the first draws -/
theorem ek_tup2 {a b : Expr} {Pd : PyData → Prop} {e : PyData} {Post : Sv → As G → Prop} {k : Nat} {pos : Pos} (ha : Ek X G a ρ (Jl L A) (Dr L A Pd)) (hb : Ed X G b ρ (Jl L A) (.d e)) (hP : ∀ d, Pd d → Post (.d (.tuple [d, e])) (Jl L A))
    (h0 : starEach [a, b] X.env = (false, eval a X.env) :: starEach [b] X.env := by rfl) (h1 : starEach [b] X.env = (false, eval b X.env) :: starEach [] X.env := by rfl) : Ek X G (.Tuple [a, b] k pos) ρ (Jl L A) Post := fun σ H Q s t j q =>
  ⟨_, pe_tup (pa_cons pe_c (pa_cons pe_c pa_nil h1) h0), ha σ H _ s t j fun r J' v H1 p s1 _ sl1 t1 tk1 dm1 j1 => by
    obtain ⟨d, rfl, hd, rfl⟩ := p
    refine hb σ H1 _ sl1 t1 j1 fun w H2 s2 g2 => ?_
    obtain ⟨_, ev, dv⟩ := s1.g0 g2 t1
    obtain ⟨_, ew, dw⟩ := s2
    cases ev; cases ew
    refine ⟨show 2 ≤ sizeLine by decide, fun n hn => ?_⟩
    have gn : Gr G [] H2 (upd H2 n (.tup [v, w])) := Gr.new hn
    have g := g2.trans gn
    exact q _ _ _ _ (hP d hd) ⟨_, rfl, .tup (SqT.of upd_same) (.cons (dv.up gn) (.cons (dw.up gn) .nil))⟩ trivial (sl1.g0 g t1) (t1.up g) ⟨fun c xs e => g.tk.1 c xs (tk1.1 c xs e), fun c o u e => g.tk.2 c o u (tk1.2 c o u e)⟩ (fun b e => dm1 b (g.dom b e)) ((Jl L A).up g t1 j1)⟩
end
section
variable {P : Program} {w : World} {K : PySem.W.Frag} {mg : Str → Option Value} {base : Heap} {G : Addr → Prop}
theorem rowEx {row : Addr} {sa : Addr × Bool} {ns : List Int} : ∀ H, (RowA G K row sa ns).P H → ∃ o, H row = some o := fun H h => by
  obtain ⟨b, c, d, _, _, _, h, _⟩ := h
  exact ⟨_, h⟩
theorem rowInd {row a : Addr} {sa : Addr × Bool} {ns : List Int} (hne : row ≠ a) (hs : sa.2 = true ∨ sa.1 ≠ a) (H : Hp) (xs ys : List V) (h : (RowA G K row sa ns).P H) (e : H a = some (.lst xs)) : (RowA G K row sa ns).P (upd H a (.lst ys)) := by
  obtain ⟨b, c, d, h1, h2, h3, h4, h5⟩ := h
  refine ⟨b, c, d, h1, h2, h3, by rw [upd_ne hne]; exact h4, ?_⟩
  have g : Gr (fun _ => False) [a] H (upd H a (.lst ys)) := Gr.put e trivial (by simp)
  exact h5.gr g (fun _ z => z.elim) (hs.imp id fun z w => z (List.mem_singleton.mp w))
/-- a new address is neither the row's nor the script's -/
theorem rowNew {row a : Addr} {sa : Addr × Bool} {ns : List Int} (h : ∀ b, (∀ H, (RowA G K row sa ns).P H → ∃ o, H b = some o) → b ≠ a) : row ≠ a ∧ (sa.2 = true ∨ sa.1 ≠ a) := by
  refine ⟨h row rowEx, ?_⟩
  cases e : sa.2 with
  | true => exact .inl rfl
  | false =>
    refine .inr (h sa.1 fun H hh => ?_)
    obtain ⟨b, c, d, _, _, _, _, h5⟩ := hh
    unfold Scr at h5
    rw [e] at h5
    rcases h5 with h5 | ⟨o, h5⟩
    · exact ⟨_, h5⟩
    · exact ⟨_, h5⟩
/-! ### _law_pick -/
theorem scPick : FnScope ["_law_row_here", "_law_things"] ["_law_row_here", "_law_things"] (defScope (top 45)) := ⟨rfl, rfl, rfl, by decide +kernel, rfl, by decide +kernel, by decide +kernel⟩
theorem ok_pick (E : Ev K mg) (cTaken : Cal P w K mg base 1 "_law_taken" (spS K G (fDraw K gTaken)) []) (h : Dg K mg "_law_pick" (top 45)) : Cal P w K mg base 2 "_law_pick" (spS K G (fDraw K gPick)) [] :=
  cal_of h (fun f fd F => ok_S F scPick (fun rs A ms Post ⟨_, _, _, _, ⟨_, _, _, e, _⟩, e2, _⟩ => by rw [e2, e] <;> rfl) fun c' A' outer s H E0 hcd hr rs A ms Post vs Q hR sa ha q => by
    obtain ⟨row, sca, ns, args, ⟨z, a, ds, rfl, h1, h2, h3, _⟩, rfl, rfl, rfl, rfl⟩ := hR
    have h0 : 0 < ds.length := List.length_pos_iff.mpr h1
    refine f_one (r_ek q (ek_ix (Post := fun r J' => ∃ z, z ∈ ds ∧ r = .d z ∧ J' = Jl [([row], H)] (RowA G K row sca ns)) 1 (Ek.mono (ek_draw (args := [.d (eN ds.length)]) cTaken hr (ea_cons (ed_name 0) (ea_cons (ed_lenL (a := a) (ds := ds) E.len (ed_name 1)) ea_nil)) ⟨eN 0, ds.length, 0, h0, by omega, rfl, h0, rfl⟩ muA ⟨trivial, by simpa [Off] using h3, trivial⟩) (fun r J' p => ?_))) (fun r J' p => ?_))
    · obtain ⟨⟨z, ⟨m, n, _, _, e, hn, rfl⟩, rfl⟩, rfl⟩ := p
      injection e with e
      injection e with e
      have e := eN_inj e
      subst e
      exact ⟨n, ds[n], rfl, List.getElem?_eq_getElem hn, ds[n], List.getElem_mem hn, rfl, rfl⟩
    · obtain ⟨z, hz, rfl, rfl⟩ := p
      exact ⟨_, ⟨⟨z, ⟨a, ds, rfl, h1, h2, h3, hz⟩, rfl⟩, rfl⟩, fun H j => j⟩)
    fun _ _ _ _ _ _ us hl => match us, hl with | [_, _], _ => rfl
end
end Wb

namespace Wb
open PySem PySem.Spec PyProof.Rows L2
theorem Sl.forget {K : PySem.W.Frag} {H : Hp} : ∀ {ρ : List Sv} {σ : L2.St} (i : Nat), Sl K H ρ σ → Sl K H (ρ.set i .u) σ
  | [], [], _, _ => trivial
  | _ :: _, _ :: _, 0, h => ⟨trivial, h.2⟩
  | _ :: _, _ :: _, i + 1, h => ⟨h.1, Sl.forget i h.2⟩
  | [], _ :: _, _, h => h.elim
  | _ :: _, [], _, h => h.elim
section
variable {X : Cx} {G : Addr → Prop} {ρ : List Sv} {L : List (List Addr × Hp)} {J : As G} {row : Addr} {sa : Addr × Bool} {ns : List Int}
theorem Ei.mono {ms : List Addr} {tg e : Expr} {P0 P1 : List PyData → As G → Prop} (h : Ei X G ms tg e ρ J P0) (hP : ∀ ds J', P0 ds J' → P1 ds J') : Ei X G ms tg e ρ J P1 := fun σ H R s t j q => h σ H R s t j fun ds J' T H1 p => q ds J' T H1 (hP ds J' p)
theorem En.to {e : Expr} {ds ds' : List PyData} (h : En X G e ρ J ds) (e' : ds = ds') : En X G e ρ J ds' := e' ▸ h
/-- a slot forgotten -/
theorem f_wk (i : Nat) {Y : L2.St → Hp → Prop} (h : Fin X Y (ρ.set i .u) J) : Fin X Y ρ J := fun σ H s t j => h σ H (s.forget i) t j
theorem ek_tk {k m : Nat} {e e2 : Expr} {p pos : Pos} (C : Cal X.prog X.w X.K X.mg X.base 1 "_law_taken" (spS X.K G (fDraw X.K gTaken)) []) (hr : Room k X.A) (ho : Ed X G e ρ (Jl L (RowA G X.K row sa ns)) (.v (.ref row))) (he2 : Ed X G e2 ρ (Jl L (RowA G X.K row sa ns)) (.d (eN m))) (h0 : 0 < m) (h1 : m ≤ 1000000) (hm : Mu L [row]) (hoff : OffL [row] ρ) (hk : 1 ≤ k := by decide)
    (hg : Gl X "_law_taken" := by rfl) (he : starEach [e, e2] X.env = (false, eval e X.env) :: starEach [e2] X.env := by rfl) (he3 : starEach [e2] X.env = (false, eval e2 X.env) :: starEach [] X.env := by rfl) (hpl : (backTo pos (starEach [e2] X.env)).any (·.1) = false := by rfl) :
    Ek X G (.Call (.Name "_law_taken" p) [e, e2] [] pos) ρ (Jl L (RowA G X.K row sa ns)) (Dr L (RowA G X.K row sa ns) fun d => ∃ n, n < m ∧ d = eN n) :=
  Ek.mono (ek_draw (args := [.d (eN m)]) C (hr.mono hk) (ea_cons ho (ea_cons he2 ea_nil he3) he) ⟨eN 0, m, 0, h0, h1, rfl, h0, rfl⟩ hm hoff hg (by decide) he hpl) fun r J' p => by
    obtain ⟨⟨z, ⟨m', n, _, _, e, hn, rfl⟩, rfl⟩, rfl⟩ := p
    injection e with e
    injection e with e
    have e := eN_inj e
    subst e
    exact ⟨_, rfl, ⟨n, hn, rfl⟩, rfl⟩
theorem ek_tk1 {m j : Nat} {e2 e1 : Expr} {pos' : Pos} (h1' : Ed X G e1 ρ (Jl L (RowA G X.K row sa ns)) (.d (eN j))) (h : Ek X G e2 ρ (Jl L (RowA G X.K row sa ns)) (Dr L (RowA G X.K row sa ns) fun d => ∃ n, n < m ∧ d = eN n)) :
    Ek X G (.BinOp e1 .Add e2 pos') ρ (Jl L (RowA G X.K row sa ns)) (Dr L (RowA G X.K row sa ns) fun d => ∃ n, n < m ∧ d = eN (j + n)) :=
  ek_add (i := (j : Nat)) h1' (Ek.mono h fun r J' p => by
    obtain ⟨d, rfl, ⟨n, hn, rfl⟩, rfl⟩ := p
    exact ⟨n, rfl, _, rfl, ⟨n, hn, by simp [eN]⟩, rfl⟩)
end
theorem muR {L : List (List Addr × Hp)} {row : Addr} (h : ∀ p ∈ L, row ∈ p.1) : Mu L [row] := fun p hp a ha => .inl (by rw [List.mem_singleton.mp ha]; exact h p hp)
section
variable {P : Program} {w : World} {K : PySem.W.Frag} {mg : Str → Option Value} {base : Heap} {G : Addr → Prop}
/-! ### _law_machine -/
def gMachine (args : List Sv) (row : Addr) (z : PyData) : Prop := args = [.d (.int 3), .d (.int 3)] ∧ ∃ m, MachOk m ∧ z = eM m
def StOk (many : Nat) (s : List (Nat × Word)) : Prop := s.length ≤ 3 ∧ ∀ o ∈ s, o.1 < many ∧ WordOk o.2
def wl : List Word := [none, some "a", some "b", some "yes", some "no", some "ab"]
theorem wl_ok : ∀ x ∈ wl, WordOk x := by
  intro x hx
  simp only [wl, List.mem_cons, List.not_mem_nil, or_false] at hx
  rcases hx with e | e | e | e | e | e <;> subst e <;> simp [WordOk]
abbrev nM : List Str := ["_law_row_here", "_law_most", "_law_options", "_law_many", "_law_found", "_law_words", "_law_way", "_law_state", "_law_lot", "_law_least", "_law_option", "_law_word"]
theorem scMachine : FnScope nM ["_law_row_here", "_law_most", "_law_options"] (defScope (top 46)) := ⟨rfl, rfl, rfl, by decide +kernel, rfl, by decide +kernel, by decide +kernel⟩
theorem ok_machine (E : Ev K mg) (cTaken : Cal P w K mg base 1 "_law_taken" (spS K G (fDraw K gTaken)) []) (cPick : Cal P w K mg base 2 "_law_pick" (spS K G (fDraw K gPick)) []) (h : Dg K mg "_law_machine" (top 46)) : Cal P w K mg base 3 "_law_machine" (spS K G (fDraw K gMachine)) [] :=
  cal_of h (fun f fd F => ok_S F scMachine (fun rs A ms Post ⟨_, _, _, _, ⟨_, e, _⟩, e2, _⟩ => by rw [e2, e] <;> rfl) fun c' A' outer s H E0 hcd hr rs A ms Post vs Q hR sa ha q => by
    obtain ⟨row, sca, ns, args, ⟨z, rfl, _⟩, rfl, rfl, rfl, rfl⟩ := hR
    have nd := scMachine.nd
    refine f_cons (f_parKN 3 4 (ds := []) (Pd := fun d => ∃ n, n < 3 ∧ d = eN (1 + n)) (ek_tk1 (m := 3) (j := 1) ed_int (ek_tk cTaken hr (ed_name 0) (ed_name 1) (by decide) (by decide) muA ⟨trivial, trivial, trivial, trivial, trivial, trivial, trivial, trivial, trivial, trivial, trivial, trivial, trivial⟩)) (en_lst (ds := []) ea_nil (by decide)) (fun d fa hd muF offF neF => ?_) nd)
    obtain ⟨m0, hm0, rfl⟩ := hd
    generalize hmany : 1 + m0 = many
    have hmany1 : 1 ≤ many ∧ many ≤ 3 := by omega
    obtain ⟨rf, sf⟩ := rowNew neF
    refine f_cons (f_newL 5 (ds := wl.map eW) (en_lst (ds := wl.map eW) (ea_cons ed_non (ea_cons ed_str (ea_cons ed_str (ea_cons ed_str (ea_cons ed_str (ea_cons ed_str ea_nil)))))) (by decide)) (fun wa muW offW neW => ?_) nd)
    obtain ⟨rw_, sw⟩ := rowNew neW
    have fw : fa ≠ wa := by
      have := offW.2.2.2.2.1
      simpa [Off] using this
    refine f_cons (f_setK 6 (ek_tk (m := 3) cTaken hr (ed_name 0) ed_int (by decide) (by decide) muA ⟨trivial, trivial, trivial, trivial, by simpa [Off] using Ne.symm rf, by simpa [Off] using Ne.symm rw_, trivial, trivial, trivial, trivial, trivial, trivial, trivial⟩) (fun r J' p => ?_) nd)
    obtain ⟨_, rfl, ⟨wy, hwy, rfl⟩, rfl⟩ := p
    refine f_cons (f_forP 7 [row, fa] (ep_rng1 (n := many) E.range (ed_name 3) (by omega)) (fun n ρ A => A = RowA G K row sca ns ∧ ∃ (dn : Mach) (u9 u10 u11 u7 : Sv), dn.length = n ∧ (∀ s ∈ dn, StOk many s) ∧ (Still u9 ∧ Still u10 ∧ Still u11 ∧ Still u7) ∧ ρ = [.v (.ref row), .d (.int 3), .d (.int 3), .d (eN many), .l fa (dn.map eS), .l wa (wl.map eW), .d (eN wy), u7, .u, u9, u10, u11]) ⟨rfl, [], .u, .u, .u, .u, rfl, by simp, ⟨trivial, trivial, trivial, trivial⟩, rfl⟩ (fun H1 n d ρ A' hd hI => ?_) (fun ρ A' hI => ?_) nd)
    · obtain ⟨rfl, dn, u9, u10, u11, u7, hl, hdn, ⟨st9, st10, st11, st7⟩, rfl⟩ := hI
      unfold rngD at hd
      obtain ⟨n', hn', rfl⟩ := map_at' hd
      obtain ⟨hn1, hn2⟩ := List.getElem?_eq_some_iff.mp hn'
      have hnl : n < many := by simpa using hn1
      have e : n' = n := by rw [← hn2]; simp
      subst e
      have off1 : ∀ {u : Sv}, Still u → ∀ a : Addr, Off [a] u := fun {u} h a => by cases u <;> first | trivial | exact h.elim
      refine f_cons (f_newL 8 (ds := []) (en_lst (ds := []) ea_nil (by decide)) (fun la muL offL neL => ?_) nd)
      obtain ⟨rl, sl⟩ := rowNew neL
      have fl : fa ≠ la := by
        have := offL.2.2.2.2.1
        simpa [Off] using this
      have wl_ : wa ≠ la := by
        have := offL.2.2.2.2.2.1
        simpa [Off] using this
      have lsle : (if (decide (n' = 0) && decide (0 < wy)) = true then 1 else 0 : Nat) ≤ 1 := by split <;> omega
      refine f_cons (f_set 9 (r := .d (eN (if (decide (n' = 0) && decide (0 < wy)) = true then 1 else 0))) (ed_int1b E.int (ed_and (Ed.to (ed_eq (d := eN n') (e := eN 0) hr (ed_name 7) ed_int rfl rfl) (by rw [eqvN])) fun _ => ed_one (Ed.to (ed_gt (i := (wy : Nat)) (j := 0) (ed_name 6) ed_int) (by congr 2; simp)))) ?_ nd)
      generalize (if (decide (n' = 0) && decide (0 < wy)) = true then 1 else 0 : Nat) = ls at lsle
      refine f_cons (f_forK 10 [row, la] (Pd := fun ds => ∃ j, j ≤ 3 ∧ ds = rngD 0 j) (Ei.mono (ei_rngK (Post := fun n J' => n ≤ 3 ∧ J' = Jl [([row, fa], H1), ([row], H)] (RowA G K row sca ns)) E.range (Ek.mono (ek_tk1 (m := 4 - ls) (j := ls) (ed_name 9) (ek_tk cTaken hr (ed_name 0) (Ed.to (ed_sub (ed_add (ed_name 2) ed_int) (ed_name 9)) (by congr 2; omega)) (by omega) (by omega) (muR (by simp)) ?_)) (fun r J' p => ?_))) (fun ds J' p => ?_)) (fun ds j ρ A => A = RowA G K row sca ns ∧ ∃ (cur : List (Nat × Word)) (v10 v11 : Sv), cur.length = j ∧ (∀ o ∈ cur, o.1 < many ∧ WordOk o.2) ∧ (Still v10 ∧ Still v11) ∧ ρ = [.v (.ref row), .d (.int 3), .d (.int 3), .d (eN many), .l fa (dn.map eS), .l wa (wl.map eW), .d (eN wy), .d (.int (n' : Nat)), .l la (cur.map eO), .d (eN ls), v10, v11]) (fun ds hds => ⟨rfl, [], u10, u11, rfl, by simp, ⟨st10, st11⟩, rfl⟩) (fun ds hds H2 j d ρ A' hd hI => ?_) (fun ds hds ρ A' hI => ?_) nd)
      · exact ⟨trivial, trivial, trivial, trivial, by simpa [Off] using Ne.symm rf, by simpa [Off] using Ne.symm rw_, trivial, trivial, by simpa [Off] using Ne.symm rl, trivial, off1 st10 row, off1 st11 row, trivial⟩
      · obtain ⟨d, rfl, ⟨n, hn, rfl⟩, rfl⟩ := p
        exact ⟨ls + n, rfl, by omega, by omega, rfl⟩
      · obtain ⟨n, rfl, hn, rfl⟩ := p
        exact ⟨⟨n, hn, rfl⟩, rfl⟩
      · obtain ⟨rfl, cur, v10, v11, hcl, hcur, ⟨sv10, sv11⟩, rfl⟩ := hI
        obtain ⟨k3, hk3, rfl⟩ := hds
        have hj3 : j < 3 := by
          have := (List.getElem?_eq_some_iff.mp hd).1
          have e : (rngD 0 k3).length = k3 := by simp [rngD]
          omega
        obtain ⟨n2, hn2, rfl⟩ : ∃ n2 : Nat, True ∧ d = .int (n2 : Nat) := by
          unfold rngD at hd
          obtain ⟨n2, _, e⟩ := map_at' hd
          exact ⟨n2, trivial, e⟩
        have mrow : Mu [([row, la], H2), ([row, fa], H1), ([row], H)] [row] := muR (by simp)
        refine f_cons (f_setK 11 (ek_pick (ds := if wy < 2 then wl.map eW else (wl.map eW).drop 1) cPick hr (ed_name 0) (el_if (x := decide (wy < 2)) (Et.to (et_lt (i := (wy : Nat)) (j := 2) (ed_name 6) ed_int) (by congr 1; simp; omega)) (fun e => ?_) (fun e => ?_)) ?_ ?_ mrow ⟨trivial, trivial, trivial, trivial, by simpa [Off] using Ne.symm rf, by simpa [Off] using Ne.symm rw_, trivial, trivial, by simpa [Off] using Ne.symm rl, trivial, trivial, off1 sv11 row, trivial⟩) (fun r J' p => ?_) nd)
        · rw [if_pos (of_decide_eq_true e)]
          exact el_ed (ed_name 5) (Ne.symm rw_)
        · rw [if_neg (of_decide_eq_false e)]
          exact el_en (En.to (en_sl (ds := wl.map eW) (l := some 1) (u := none) (ed_name 5) (eo_some ed_int) eo_none) (cut_drop _ 1)) (fun H a j n z => by
            obtain ⟨o, e⟩ := rowEx H j.2
            rw [← z, n] at e
            cases e)
        · split <;> simp [wl]
        · split <;> simp [wl]
        · obtain ⟨z, hz, rfl, rfl⟩ := p
          have hz2 : z ∈ wl.map eW := by
            by_cases e : wy < 2
            · rw [if_pos e] at hz; exact hz
            · rw [if_neg e] at hz; exact List.mem_of_mem_drop hz
          obtain ⟨wd, hwd, rfl⟩ := List.mem_map.mp hz2
          have hwok := wl_ok wd hwd
          refine f_one (f_appK 8 (a := la) (ds := cur.map eO) (Pd := fun d => ∃ o : Nat × Word, (o.1 < many ∧ WordOk o.2) ∧ d = eO o) (ek_tup2 (ek_tk (m := many) cTaken hr (ed_name 0) (ed_name 3) (by omega) (by omega) mrow ⟨trivial, trivial, trivial, trivial, by simpa [Off] using Ne.symm rf, by simpa [Off] using Ne.symm rw_, trivial, trivial, by simpa [Off] using Ne.symm rl, trivial, trivial, trivial, trivial⟩) (ed_name 11) (fun d hd => ?_)) (by rw [List.length_map]; omega) (Mu.cons (fun b hb => .inl (by rw [List.mem_singleton.mp hb]; simp)) muL) ⟨trivial, trivial, trivial, trivial, by simpa [Off] using fl, by simpa [Off] using wl_, trivial, trivial, trivial, trivial, trivial, trivial, trivial⟩ (fun H xs ys h e => rowInd rl sl H xs ys h e) (fun d hd => ?_))
          · obtain ⟨n, hn, rfl⟩ := hd
            exact ⟨_, rfl, ⟨(n, wd), ⟨hn, hwok⟩, rfl⟩, rfl⟩
          · obtain ⟨o, ho, rfl⟩ := hd
            refine f_next ⟨rfl, cur ++ [o], .d (.int (n2 : Nat)), .d (eW wd), by rw [List.length_append, hcl] <;> rfl, fun x hx => ?_, ⟨trivial, trivial⟩, by rw [List.map_append] <;> rfl⟩
            rcases List.mem_append.mp hx with q | q
            · exact hcur x q
            · rw [List.mem_singleton.mp q]; exact ho
      · obtain ⟨rfl, cur, v10, v11, hcl, hcur, ⟨sv10, sv11⟩, rfl⟩ := hI
        obtain ⟨k3, hk3, rfl⟩ := hds
        have e : (rngD 0 k3).length = k3 := by simp [rngD]
        rw [e] at hcl
        refine f_one (f_appJ 4 (a := fa) (ds := dn.map eS) (d := eS cur) (ed_tupleL (ds := cur.map eO) E.tuple (ed_name 8)) (by rw [List.length_map]; omega) (Mu.cons (fun b hb => .inl (by rw [List.mem_singleton.mp hb]; simp)) muF) ⟨trivial, trivial, trivial, trivial, trivial, by simpa [Off] using Ne.symm fw, trivial, trivial, by simpa [Off] using Ne.symm fl, trivial, off1 sv10 fa, off1 sv11 fa, trivial⟩ (fun H xs ys h e => rowInd rf sf H xs ys h e) (f_wk 8 (f_next ⟨rfl, dn ++ [cur], .d (eN ls), v10, v11, .d (.int (n' : Nat)), by rw [List.length_append, hl] <;> rfl, fun x hx => ?_, ⟨trivial, sv10, sv11, trivial⟩, by rw [List.map_append] <;> rfl⟩)))
        rcases List.mem_append.mp hx with q | q
        · exact hdn x q
        · rw [List.mem_singleton.mp q]; exact ⟨by omega, hcur⟩
    · obtain ⟨rfl, dn, u9, u10, u11, u7, hl, hdn, _, rfl⟩ := hI
      have e : (rngD 0 many).length = many := by simp [rngD]
      rw [e] at hl
      refine f_one (r_ed q (r := .d (eM dn)) (ed_tupleL (ds := dn.map eS) E.tuple (ed_name 4)) ⟨⟨eM dn, ⟨rfl, dn, ⟨by omega, by omega, fun s hs => by rw [hl]; exact hdn s hs⟩, rfl⟩, rfl⟩, rfl⟩))
    fun _ _ _ _ _ _ us hl => match us, hl with | [_, _, _], _ => rfl
end
end Wb

namespace Wb
open PySem PySem.Spec PyProof.Rows L2
section
variable {X : Cx} {G : Addr → Prop} {ρ : List Sv} {J : As G}
/-- a list's address -/
def lA : Sv → List Addr
  | .l a _ => [a]
  | _ => []
/-- a comprehension whose items change the heap, read -/
theorem lc_kC (i : Nat) (ms : List Addr) {elt it : Expr} {scope : Scope} {x : Str} {px : Pos} {Pi : List PyData → As G → Prop} {Post : Sv → As G → Prop} (hit : Ei X G ms (.Name x px) it ρ J Pi)
    (h : ∀ ds J1 σ H1, Pi ds J1 → Sl X.K H1 ρ σ → Tb G H1 → J1.P H1 → ds.length ≤ 1000000 ∧ ∃ (L : List (List Addr × Hp)) (A : As G) (I : Nat → List PyData → Prop), (Jl L A).P H1 ∧ I 0 [] ∧
      (∀ D H xs ys, H1 D = none → A.P H → H D = some (.lst xs) → A.P (upd H D (.lst ys))) ∧
      (∀ n d acc D vs, ds[n]? = some d → I n acc → H1 D = none → ∀ s H0 C cl fp, Ek (Bk X scope s H0 C cl fp) G elt (ρ.set i (.d d)) (Jl ((ms, H1) :: L) (A.and (As.one D vs))) (fun r J' => ∃ y, r = .d y ∧ I (n + 1) (acc ++ [y]) ∧ J' = Jl ((ms, H1) :: L) (A.and (As.one D vs)))) ∧
      ∀ acc D, I ds.length acc → acc.length = ds.length → Post (.l D acc) (Jl L A))
    (hu : ρ[i]? = some .u) :
    ∀ (σ : L2.St) (H : Hp) (Q : VK), Sl X.K H ρ σ → Tb G H → J.P H → (∀ r J' v H', Post r J' → SvOk X.K H' r (some v) → Fresh H r → Sl X.K H' ρ σ → Tb G H' → Tk H H' → (∀ b, H' b = none → H b = none) → J'.P H' → Q v H') → Lc X scope elt it [] x px i σ H Q := fun σ H Q s t j q => by
  refine hit σ H _ s t j fun ds J1 T H1 hP wk s1 t1 tk1 dm1 j1 D hD => ?_
  obtain ⟨hsz, L, A, I, jl, i0, hind, hstep, hend⟩ := h ds J1 σ H1 hP s1 t1 j1
  have fresh := Jl.fresh jl hD
  have offD := OffL.newS hD s1
  let Pv : Nat → Hp → Prop := fun n H' => (Jl ((ms, H1) :: L) A).P H' ∧ Sl X.K H' ρ σ ∧ Tb G H' ∧ ∃ acc vs, I n acc ∧ acc.length = n ∧ H' D = some (.lst vs) ∧ Da X.K H' vs acc
  have mu : Mu ((ms, H1) :: L) [D] := Mu.cons (fun b hb => .inr (by rw [List.mem_singleton.mp hb]; exact hD)) fresh
  have put : ∀ {H' : Hp} {vs ws : List V}, (Jl ((ms, H1) :: L) A).P H' → Tb G H' → H' D = some (.lst vs) → Gr G [D] H' (upd H' D (.lst ws)) ∧ (Jl ((ms, H1) :: L) A).P (upd H' D (.lst ws)) := by
    intro H' vs ws j' t' e
    have g : Gr G [D] H' (upd H' D (.lst ws)) := Gr.put e trivial (by simp)
    exact ⟨g, Jl.step j' g mu (hind D _ _ _ hD j'.2 e)⟩
  have g0 : Gr G [] H1 (upd H1 D (.lst [])) := Gr.new hD
  have jl1 : (Jl ((ms, H1) :: L) A).P (upd H1 D (.lst [])) := ⟨fun p hp => by
    rcases List.mem_cons.mp hp with e | hp
    · rw [e]; exact g0.wide
    · exact (jl.1 p hp).trans g0.wide, A.up g0 t1 jl.2⟩
  refine ⟨fun n m H' => m + n = ds.length ∧ Pv n H', ⟨ds.length, rfl, jl1, s1.g0 g0 t1, t1.up g0, [], [], i0, rfl, upd_same, .nil⟩, fun n m H' hw => ?_⟩
  obtain ⟨hm, jh, sh, th, acc, vs, hI, hal, hv, dv⟩ := hw
  have gh : Gr G ms H1 H' := jh.1 _ List.mem_cons_self
  obtain ⟨hstop, hgo⟩ := wk H' gh th
  by_cases hn : n < ds.length
  · obtain ⟨hg, hy⟩ := hgo n hn
    refine .inr ⟨hg, Pv (n + 1), fun H'' h => ⟨m - 1, by omega, by omega, h⟩, fun y H'' hyd => ?_⟩
    obtain ⟨gy, d, hd, dy⟩ := hy y H'' hyd
    have tY := th.up gy
    refine ⟨show (((wipe σ [i]).set i (some y)).set i none) = wipe σ [i] from by rw [List.set_set]; exact List.set_set .., bt_nil ?_⟩
    rw [if_pos rfl]
    intro s' H0 C cl fp
    have slY : Sl X.K H'' (ρ.set i (.d d)) ((wipe σ [i]).set i (some y)) := by
      have h3 := ((sh.g0 gy th).wipe1 (i := i)).set (r := .d d) (o := some y) i ⟨y, rfl, dy⟩
      rw [List.set_set] at h3
      exact h3
    have hvY : H'' D = some (.lst vs) := gy.keep D _ hv (not_tab th hv (fun q z => by cases z)) (by simp)
    have jY := (Jl ((ms, H1) :: L) A).up gy th jh
    refine hstep n d acc D vs hd hI hD s' H0 C cl fp _ _ _ slY tY ⟨jY.1, jY.2, hvY⟩ fun r J' w H4 p s4 _ sl4 t4 tk4 dm4 j4 => ?_
    obtain ⟨z, rfl, hI', rfl⟩ := p
    obtain ⟨_, e4, d4⟩ := s4
    cases e4
    obtain ⟨jA, jB, jC⟩ := j4
    have dv4 : Da X.K H4 vs acc := Da.tk tk4 _ _ (dv.up gy)
    have l := dv4.len
    obtain ⟨gP, jP⟩ := put (ws := vs ++ [w]) (show (Jl ((ms, H1) :: L) A).P H4 from ⟨jA, jB⟩) t4 jC
    refine ⟨vs, jC, Nat.lt_of_le_of_lt (show vs.length ≤ 1000000 by omega) (by decide), jP, ?_, t4.up gP, acc ++ [z], vs ++ [w], hI', by rw [List.length_append, List.length_singleton, hal], upd_same, (dv4.app (.cons d4 .nil)).up gP⟩
    refine Sl.up gP t4 offD.all ?_
    have h5 : Sl X.K H4 ((ρ.set i (.d d)).set i .u) (((wipe σ [i]).set i (some y)).set i ((σ[i]?).getD none)) := sl4.set i trivial
    rw [List.set_set, List.set_set] at h5
    have eρ : ρ.set i .u = ρ := by
      apply List.ext_getElem?
      intro k
      by_cases hk : k = i
      · subst hk
        obtain ⟨h1, h2⟩ := List.getElem?_eq_some_iff.mp hu
        rw [List.getElem?_set_self h1, hu]
      · rw [List.getElem?_set_ne (Ne.symm hk)]
    have eσ : (wipe σ [i]).set i ((σ[i]?).getD none) = σ := by
      show (σ.set i none).set i ((σ[i]?).getD none) = σ
      rw [List.set_set]
      apply List.ext_getElem?
      intro k
      by_cases hk : k = i
      · subst hk
        by_cases hl : k < σ.length
        · rw [List.getElem?_set_self hl, List.getElem?_eq_getElem hl] <;> rfl
        · rw [List.getElem?_eq_none (by rw [List.length_set]; omega), List.getElem?_eq_none (by omega)]
      · rw [List.getElem?_set_ne (Ne.symm hk)]
    rw [eρ, eσ] at h5
    exact h5
  · have e : n = ds.length := by
      have := hm
      omega
    subst e
    have l := dv.len
    refine .inl ⟨hstop, q (.l D acc) (Jl L A) _ H' (hend acc D hI hal) ⟨rfl, vs, hv, dv, Nat.le_trans (show vs.length ≤ 1000000 by omega) (by decide)⟩ (dm1 D hD) sh th ⟨fun c xs e => gh.tk.1 c xs (tk1.1 c xs e), fun c o u e => gh.tk.2 c o u (tk1.2 c o u e)⟩ (fun b e => dm1 b (gh.dom b e)) (Jl.pop jh)⟩
theorem f_setLcK (i k : Nat) (ms : List Addr) {D : Ends} {elt it : Expr} {scope : Scope} {x y : Str} {px py pos spos : Pos} {Pi : List PyData → As G → Prop} {Post : Sv → As G → Prop} (hit : Ei X G ms (.Name x px) it ρ J Pi)
    (h : ∀ ds J1 σ H1, Pi ds J1 → Sl X.K H1 ρ σ → Tb G H1 → J1.P H1 → ds.length ≤ 1000000 ∧ ∃ (L : List (List Addr × Hp)) (A : As G) (I : Nat → List PyData → Prop), (Jl L A).P H1 ∧ I 0 [] ∧
      (∀ D H xs ys, H1 D = none → A.P H → H D = some (.lst xs) → A.P (upd H D (.lst ys))) ∧
      (∀ n d acc D vs, ds[n]? = some d → I n acc → H1 D = none → ∀ s H0 C cl fp, Ek (Bk X scope s H0 C cl fp) G elt (ρ.set i (.d d)) (Jl ((ms, H1) :: L) (A.and (As.one D vs))) (fun r J' => ∃ y, r = .d y ∧ I (n + 1) (acc ++ [y]) ∧ J' = Jl ((ms, H1) :: L) (A.and (As.one D vs)))) ∧
      ∀ acc D, I ds.length acc → acc.length = ds.length → Post (.l D acc) (Jl L A))
    (hu : ρ[i]? = some .u) (kk : ∀ r J' (H0 : Hp), Post r J' → J.P H0 → Fresh H0 r → OffL (lA r) ρ → Fin X D.nx (ρ.set k r) J')
    (hN : X.N.Nodup) (ok : BlkOk X.N X.env.scope scope [(x, i)]) (hk : X.N[k]? = some y := by rfl) (hy : X.env.scope.names.lookup y = some .local := by rfl)
    (hs : swapsWith (.ListComp elt [{ target := .Name x px, iter := it, ifs := [], is_async := 0 }] scope pos) (some (.Name y py)) spos.line X.env = pure true := by exact sw_true rfl rfl rfl (by decide +kernel))
    (hc : X.calm = true := by rfl) (hl : ∀ cl C, (compEnvC scope cl C X.env).scope.names.lookup x = some .local := by intro _ _; rfl) (hsi : ∀ x, foldedSetIterable it X.env x = pure x := by intro _; rfl) :
    Fin X (cS X (.Assign [.Name y py] (.ListComp elt [{ target := .Name x px, iter := it, ifs := [], is_async := 0 }] scope pos) spos) D) ρ J := fun σ H s t j =>
  ⟨_, ps_setLc (own := [(x, i)]) (i := k) hc hN hk hy hs pi_c ok (fun s H C cl fp => pg_name (i := i) hN (ok.ix (x, i) (by simp)) (.inl (hl _ _)) (.inr (hl _ _))) (fun s H C cl fp => pts_b s H C cl fp) (fun s H C cl fp => pe_b s H C cl fp) hsi,
    lc_kC i ms hit h hu σ H (fun v H2 => gName k v σ H2 D.nx) s t j fun r J' v H2 p s2 f2 sl2 t2 _ _ j2 => kk r J' H p j f2 (by
      cases r with
      | l a ds => exact OffL.newS f2 s
      | _ => exact OffL.of fun r _ => by cases r <;> simp [Off, lA]) _ H2 (sl2.set k s2) t2 j2⟩
/-- tuple(..) of it -/
theorem ek_tupleK {L : List (List Addr × Hp)} {A : As G} {Pa : List PyData → Prop} {e : Expr} {p pos : Pos} (hm : X.mg "tuple" = none) (h : Ek X G e ρ J (fun r J' => ∃ D acc, r = .l D acc ∧ Pa acc ∧ J' = Jl L A)) (hg : Gl X "tuple" := by rfl) (he : starEach [e] X.env = (false, eval e X.env) :: starEach [] X.env := by rfl) (hpl : (backTo pos (starEach [] X.env)).any (·.1) = false := by rfl) :
    Ek X G (.Call (.Name "tuple" p) [e] [] pos) ρ J (Dr L A fun d => ∃ acc, Pa acc ∧ d = .tuple acc) := fun σ H Q s t j q =>
  ⟨_, pe_callTy call_tuple_of hg hm (by decide +kernel) (pa_cons pe_c pa_nil he) (by decide) (by decide) he hpl, h σ H _ s t j fun r J' v H1 p s1 f1 sl1 t1 tk1 dm1 j1 => by
    obtain ⟨D, acc, rfl, hP, rfl⟩ := p
    obtain ⟨e1, xs, hx, a1, _⟩ := s1
    cases e1
    refine ⟨D, xs, rfl, .inl ⟨SqL.of hx, fun l hl => ?_⟩⟩
    have g : Gr G [] H1 (upd H1 l (.tup xs)) := Gr.new hl
    exact q _ _ _ _ ⟨_, rfl, ⟨acc, hP, rfl⟩, rfl⟩ ⟨_, rfl, .tup (SqT.of upd_same) (a1.up g)⟩ trivial (sl1.g0 g t1) (t1.up g) ⟨fun c xs e => g.tk.1 c xs (tk1.1 c xs e), fun c o u e => g.tk.2 c o u (tk1.2 c o u e)⟩ (fun b e => dm1 b (g.dom b e)) ((Jl L A).up g t1 j1)⟩
/-- xs + ys, xs known, ys new -/
theorem en_cat {a b : Expr} {p : Addr} {ds es : List PyData} {pos : Pos} (ha : Ed X G a ρ J (.l p ds)) (hb : En X G b ρ J es) (hl : ds.length + es.length ≤ 1000000) : En X G (.BinOp a .Add b pos) ρ J (ds ++ es) := fun σ H Q hs ht hj q =>
  ⟨_, pe_op op_cat pe_c pe_c, ha σ H _ hs ht hj fun v H1 s1 g1 => hb σ H1 _ (hs.g0 g1 ht) (ht.up g1) (J.up g1 ht hj) fun p2 H2 np s2 g2 => by
    obtain ⟨e1, xs, hx, a1, _⟩ := s1.g0 g2 (ht.up g1)
    obtain ⟨_, ys, hy, b1, _⟩ := s2
    cases e1
    have l1 := a1.len
    have l2 := b1.len
    refine ⟨p, p2, xs, ys, rfl, rfl, hx, hy, Nat.le_trans (show xs.length + ys.length ≤ 1000000 by omega) (by decide), fun n hn => ?_⟩
    have g := g1.trans g2
    have gn : Gr G [] H2 (upd H2 n (.lst (xs ++ ys))) := Gr.new hn
    exact q n _ (g.free hn) ⟨rfl, xs ++ ys, upd_same, (a1.app b1).up gn, by rw [List.length_append]; exact Nat.le_trans (show xs.length + ys.length ≤ 1000000 by omega) (by decide)⟩ (g.trans gn)⟩
/-- while, a number n in the slots grows up to B -/
theorem f_whileN {D : Ends} {L : List (List Addr × Hp)} {A : As G} {c : Expr} {body : List Stmt} {pos : Pos} (B n0 : Nat) (I : Nat → List Sv → As G → Prop) (h0 : I n0 ρ A) (hI : ∀ n ρ A, I n ρ A → n ≤ B)
    (hs : ∀ n ρ A, I n ρ A → ∃ b, Et X G c ρ (Jl L A) b ∧ (b = true → Fin X (cSs X body { D with nx := Any X (fun ρ J => ∃ A, J = Jl L A ∧ I (n + 1) ρ A), ct := Any X (fun ρ J => ∃ A, J = Jl L A ∧ I (n + 1) ρ A), bk := D.nx }) ρ (Jl L A)) ∧ (b = false → Fin X D.nx ρ (Jl L A)))
    (hp : PassesOwn (model X.prog X.w) X.A X.env X.xe := by exact PassesOwn.never) : Fin X (cS X (.While c body [] pos) D) ρ (Jl L A) := fun σ H s t j => by
  refine ⟨_, ps_while hp pt_c pss_c, fun m σ H => ∃ n, m + n = B ∧ Any X (fun ρ J => ∃ A, J = Jl L A ∧ I n ρ A) σ H, ⟨B - n0, n0, by have := hI _ _ _ h0; omega, ρ, _, ⟨A, rfl, h0⟩, s, t, j⟩, fun m σ H hw => ?_⟩
  obtain ⟨n, hm, ρ', J', ⟨A', rfl, hI'⟩, s', t', j'⟩ := hw
  obtain ⟨b, hc, h1, h2⟩ := hs n ρ' A' hI'
  refine hc σ H _ s' t' j' fun H1 g => ?_
  cases b with
  | true =>
    rw [if_pos rfl]
    refine ⟨_, fun σ'' H'' hq => ?_, h1 rfl σ H1 (s'.g0 g t') (t'.up g) ((Jl L A').up g t' j')⟩
    obtain ⟨ρ2, J2, ⟨A2, rfl, hI2⟩, s2, t2, j2⟩ := hq
    have := hI _ _ _ hI2
    exact ⟨m - 1, by omega, n + 1, by omega, ρ2, _, ⟨A2, rfl, hI2⟩, s2, t2, j2⟩
  | false => exact h2 rfl σ H1 (s'.g0 g t') (t'.up g) ((Jl L A').up g t' j')
end
section
variable {P : Program} {w : World} {K : PySem.W.Frag} {mg : Str → Option Value} {base : Heap} {G : Addr → Prop}
/-! ### _law_row -/
def gRow (args : List Sv) (row : Addr) (z : PyData) : Prop := ∃ (k most : Nat), 0 < k ∧ k ≤ 1000 ∧ 0 < most ∧ most ≤ 8 ∧ args = [.d (eN k), .d (eN most)] ∧ ∃ l : List Nat, (1 ≤ l.length ∧ l.length ≤ most ∧ ∀ x ∈ l, x < k) ∧ z = eL l
theorem scLRow : FnScope ["_law_row_here", "_law_marks", "_law_most", "_law_place"] ["_law_row_here", "_law_marks", "_law_most"] (defScope (top 47)) := ⟨rfl, rfl, rfl, by decide +kernel, rfl, by decide +kernel, by decide +kernel⟩
theorem ok_lrow (E : Ev K mg) (cTaken : Cal P w K mg base 1 "_law_taken" (spS K G (fDraw K gTaken)) []) (h : Dg K mg "_law_row" (top 47)) : Cal P w K mg base 2 "_law_row" (spS K G (fDraw K gRow)) [] :=
  cal_of h (fun f fd F => ok_S F scLRow (fun rs A ms Post ⟨_, _, _, _, ⟨_, _, _, _, _, _, _, e, _⟩, e2, _⟩ => by rw [e2, e] <;> rfl) fun c' A' outer s H E0 hcd hr rs A ms Post vs Q hR sa ha q => by
    obtain ⟨row, sca, ns, args, ⟨z, k, most, hk0, hk1, hm0, hm1, rfl, _⟩, rfl, rfl, rfl, rfl⟩ := hR
    refine f_one (r_ek q (ek_tupleK (L := [([row], H)]) (A := RowA G K row sca ns) (Pa := fun acc => ∃ l : List Nat, (1 ≤ l.length ∧ l.length ≤ most ∧ ∀ x ∈ l, x < k) ∧ acc = l.map eN) E.tuple (ek_lcK 3 [row] (Pi := fun ds J' => ∃ n, ds = rngD 0 n ∧ (1 ≤ n ∧ n ≤ most) ∧ J' = Jl [([row], H)] (RowA G K row sca ns))
      (Ei.mono (ei_rngK (Post := fun n J' => (1 ≤ n ∧ n ≤ most) ∧ J' = Jl [([row], H)] (RowA G K row sca ns)) E.range (Ek.mono (ek_tk1 (m := most) (j := 1) ed_int (ek_tk cTaken hr (ed_name 0) (ed_name 2) hm0 (by omega) muA ⟨trivial, trivial, trivial, trivial, trivial⟩)) (fun r J' p => ?_))) (fun ds J' p => ?_)) (fun ds J1 σ H1 hP s1 t1 j1 => ?_) rfl scLRow.nd (blkOk_by (N := ["_law_row_here", "_law_marks", "_law_most", "_law_place"]) (sc := defScope (top 47)) (by decide +kernel)))) (fun r J' p => ?_))
    · obtain ⟨d, rfl, ⟨n, hn, rfl⟩, rfl⟩ := p
      exact ⟨1 + n, rfl, by omega, ⟨by omega, by omega⟩, rfl⟩
    · obtain ⟨n, rfl, hn, rfl⟩ := p
      exact ⟨n, rfl, hn, rfl⟩
    · obtain ⟨n, rfl, hn, rfl⟩ := hP
      have el : (rngD 0 n).length = n := by simp [rngD]
      refine ⟨by omega, [([row], H)], RowA G K row sca ns, fun j acc => ∃ l : List Nat, l.length = j ∧ (∀ x ∈ l, x < k) ∧ acc = l.map eN, j1, ⟨[], rfl, by simp, rfl⟩, fun D H2 xs ys hD hA e => ?_, fun j d acc D vs hd hI hD s' H0 C cl fp => ?_, fun acc D hI hacc => ?_⟩
      · have h2 := rowNew (row := row) (sa := sca) (ns := ns) (K := K) (G := G) (a := D) fun b hb z => by
          obtain ⟨o, e⟩ := hb H1 j1.2
          rw [z, hD] at e
          cases e
        exact rowInd h2.1 h2.2 H2 xs ys hA e
      · obtain ⟨l, hl, hlx, rfl⟩ := hI
        have hne : D ≠ row := fun z => by
          obtain ⟨o, e⟩ := rowEx H1 j1.2
          rw [← z, hD] at e
          cases e
        refine ek_call (ss := []) (rs := [.v (.ref row), .d (eN k)]) (ms := [row]) (A := RowA G K row sca ns) (P0 := fun r B => (∃ z, gTaken [.d (eN k)] row z ∧ r = .d z) ∧ B = RowA G K row sca ns) cTaken (hr.mono (by decide)) (ea_cons (ed_name 0) (ea_cons (ed_name 1) ea_nil)) (fun _ => trivial) (by rw [List.append_nil]; exact ⟨row, sca, ns, _, ⟨eN 0, k, 0, hk0, by omega, rfl, hk0, rfl⟩, rfl, rfl, rfl, rfl⟩) (fun _ h => h.2.1) ⟨trivial, trivial, trivial, trivial, trivial⟩ (fun r B H2 H3 p jj tt g bb => ?_)
        obtain ⟨⟨z, ⟨m', x, _, _, e, hx, rfl⟩, rfl⟩, rfl⟩ := p
        injection e with e
        injection e with e
        have e := eN_inj e
        subst e
        refine ⟨_, ⟨eN x, rfl, ⟨l ++ [x], by rw [List.length_append, hl] <;> rfl, fun y hy => ?_, by rw [List.map_append] <;> rfl⟩, rfl⟩, Jl.step jj g (muR (by simp)) ⟨bb, ?_⟩⟩
        · rcases List.mem_append.mp hy with q | q
          · exact hlx y q
          · rw [List.mem_singleton.mp q]; exact hx
        · have h3 := jj.2.2
          exact g.keep D _ h3 (not_tab tt h3 (fun q z => by cases z)) (by simpa using hne)
      · obtain ⟨l, hl, hlx, rfl⟩ := hI
        rw [el] at hl
        exact ⟨D, _, rfl, ⟨l, ⟨by omega, by omega, hlx⟩, rfl⟩, rfl⟩
    · obtain ⟨d, rfl, ⟨acc, ⟨l, hl, rfl⟩, rfl⟩, rfl⟩ := p
      exact ⟨_, ⟨⟨eL l, ⟨k, most, hk0, hk1, hm0, hm1, rfl, l, hl, rfl⟩, rfl⟩, rfl⟩, fun H j => j⟩)
    fun _ _ _ _ _ _ us hl => match us, hl with | [_, _, _], _ => rfl
end
end Wb

namespace Wb
open PySem PySem.Spec PyProof.Rows L2
/-! ### all rows of one length -/
def everyL (k : Nat) : Nat → List (List Nat)
  | 0 => [[]]
  | n + 1 => (everyL k n).flatMap fun one => (List.range k).map fun x => one ++ [x]
theorem everyL_ok {k : Nat} : ∀ (n : Nat), ∀ l ∈ everyL k n, l.length = n ∧ ∀ x ∈ l, x < k
  | 0, l, h => by
    simp only [everyL, List.mem_singleton] at h
    subst h
    simp
  | n + 1, l, h => by
    simp only [everyL, List.mem_flatMap, List.mem_map, List.mem_range] at h
    obtain ⟨one, ho, x, hx, rfl⟩ := h
    obtain ⟨h1, h2⟩ := everyL_ok n one ho
    refine ⟨by simp [h1], fun y hy => ?_⟩
    rcases List.mem_append.mp hy with q | q
    · exact h2 y q
    · rw [List.mem_singleton.mp q]; exact hx
theorem everyL_len {k : Nat} : ∀ (n : Nat), (everyL k n).length = k ^ n
  | 0 => rfl
  | n + 1 => by
    have ih := everyL_len (k := k) n
    have key : ∀ xs : List (List Nat), (xs.flatMap fun one => (List.range k).map fun x => one ++ [x]).length = xs.length * k := by
      intro xs
      induction xs with
      | nil => simp
      | cons x xs ihx => rw [List.flatMap_cons, List.length_append, ihx, List.length_map, List.length_range, List.length_cons, Nat.succ_mul]; omega
    show ((everyL k n).flatMap fun one => (List.range k).map fun x => one ++ [x]).length = _
    rw [key, ih, Nat.pow_succ]
theorem pow9 {k n : Nat} (hk : k ≤ 3) (hn : n ≤ 2) : k ^ n ≤ 9 := Nat.le_trans (Nat.pow_le_pow_left hk n) (Nat.le_trans (Nat.pow_le_pow_right (by decide) hn) (by decide))
section
variable {P : Program} {w : World} {K : PySem.W.Frag} {mg : Str → Option Value} {base : Heap} {G : Addr → Prop}
def fEvery (rs : List Sv) (ds : List PyData) : Prop := ∃ (k n : Nat), 1 ≤ k ∧ k ≤ 3 ∧ n ≤ 2 ∧ rs = [.d (eN k), .d (eN n)] ∧ ds = (everyL k n).map eL
abbrev nE : List Str := ["_law_marks", "_law_length", "_law_found", "_law_place", "_law_longer", "_law_one", "_law_mark"]
theorem scEvery : FnScope nE ["_law_marks", "_law_length"] (defScope (top 48)) := ⟨rfl, rfl, rfl, by decide +kernel, rfl, by decide +kernel, by decide +kernel⟩
theorem rng_map (n : Nat) : rngD 0 n = (List.range n).map eN := by
  unfold rngD
  rw [List.range_eq_range']
  rfl
theorem ok_every (E : Ev K mg) (h : Dg K mg "_law_every" (top 48)) : Cal P w K mg base 1 "_law_every" (spS K G (PuN fEvery)) [] :=
  cal_of h (fun f fd F => ok_S F scEvery (fun rs A ms Post ⟨r, ⟨_, _, _, _, _, e, _⟩, _⟩ => by rw [e] <;> rfl) fun c' A' outer s H E0 hcd hr rs A ms Post vs Q hR sa ha q => by
    obtain ⟨r, ⟨k, n, hk1, hk3, hn2, rfl, rfl⟩, rfl, rfl, rfl⟩ := hR
    have nd := scEvery.nd
    refine f_cons (f_newL 2 (ds := [eL []]) (en_lst (ds := [eL []]) (ea_cons (ed_tup (ds := []) ea_nil (by decide)) ea_nil) (by simp)) (fun a0 mu0 off0 _ => ?_) nd)
    refine f_cons (f_forP 3 [] (ep_rng1 (n := n) E.range (ed_name 1) (by omega)) (fun j ρ A => A = As.tt ∧ ∃ (a : Addr) (u3 u5 : Sv), Mu [([], H)] [a] ∧ j ≤ n ∧ ρ = [.d (eN k), .d (eN n), .l a ((everyL k j).map eL), u3, .u, u5, .u]) ⟨rfl, a0, .u, .u, mu0, Nat.zero_le _, rfl⟩ (fun H1 j d ρ A' hd hI => ?_) (fun ρ A' hI => ?_) nd)
    · obtain ⟨rfl, a, u3, u5, mua, hjn, rfl⟩ := hI
      have hj : j < n := by
        have := (List.getElem?_eq_some_iff.mp hd).1
        have e : (rngD 0 n).length = n := by simp [rngD]
        omega
      have hp := pow9 hk3 (show j ≤ 2 by omega)
      have hl := everyL_len (k := k) j
      refine f_cons (f_newL 4 (ds := []) (en_lst (ds := []) ea_nil (by decide)) (fun b mub offb _ => ?_) nd)
      refine f_cons (f_forP 5 [] (ep_lst (a := a) (ds := (everyL k j).map eL) (ed_name 2) (by simp)) (fun i ρ A => A = As.tt ∧ ∃ (b : Addr) (u5 : Sv), Mu [([], H)] [b] ∧ i ≤ (everyL k j).length ∧ ρ = [.d (eN k), .d (eN n), .l a ((everyL k j).map eL), .d d, .l b ((((everyL k j).take i).flatMap fun one => (List.range k).map fun x => one ++ [x]).map eL), u5, .u]) ⟨rfl, b, u5, fun p hp => mub p (List.mem_cons_of_mem _ hp), Nat.zero_le _, rfl⟩ (fun H2 i d2 ρ A' hd2 hI => ?_) (fun ρ A' hI => ?_) nd)
      · obtain ⟨rfl, b, u5, mub, hil, rfl⟩ := hI
        obtain ⟨one, hone, rfl⟩ := map_at' hd2
        have hil2 := (List.getElem?_eq_some_iff.mp hone).1
        have h1len := (everyL_ok j one (List.mem_of_getElem? hone)).1
        have el : rngD 0 k = (List.range k).map eN := rng_map k
        have key : ∀ xs : List (List Nat), (xs.flatMap fun one => (List.range k).map fun x => one ++ [x]).length = xs.length * k := by
          intro xs
          induction xs with
          | nil => simp
          | cons x xs ihx => rw [List.flatMap_cons, List.length_append, ihx, List.length_map, List.length_range, List.length_cons, Nat.succ_mul]; omega
        have hbound : ((everyL k j).take i).length * k ≤ 27 := by
          have : ((everyL k j).take i).length ≤ 9 := by rw [List.length_take]; omega
          calc ((everyL k j).take i).length * k ≤ 9 * 3 := Nat.mul_le_mul this hk3
            _ = 27 := rfl
        refine f_one (f_newL 4 (ds := (((everyL k j).take (i + 1)).flatMap fun one => (List.range k).map fun x => one ++ [x]).map eL) (En.to (en_cat (p := b) (ds := (((everyL k j).take i).flatMap fun one => (List.range k).map fun x => one ++ [x]).map eL) (es := ((List.range k).map fun x => eL (one ++ [x]))) (ed_name 4) (En.to (en_lc 6 (ds := rngD 0 k) (fun _ => true) (liftD eN fun x => eL (one ++ [x])) (ep_rng1 E.range (ed_name 0) (by omega)) (by rw [el]; simp; omega) (fun d hd s H0 C' cl fp => .nil) (fun d hd _ s H0 C' cl fp => ?_) nd (blkOk_by (N := nE) (sc := defScope (top 48)) (by decide +kernel))) (by rw [el, keepM_all (fun _ _ => eN_inj)])) ?_) ?_) (fun b2 mub2 offb2 _ => ?_) nd)
        · rw [el] at hd
          obtain ⟨x, _, rfl⟩ := List.mem_map.mp hd
          rw [liftD_at (fun _ _ => eN_inj)]
          exact Ed.to (ed_cat (ds := one.map eN) (es := [eN x]) (ed_name 5) (ed_tup (ds := [eN x]) (ea_cons (ed_name 6) ea_nil) (by simp)) (by simp; omega)) (by simp [eL])
        · rw [List.length_map, List.length_map, key, List.length_range]; omega
        · rw [take_snoc hone, List.flatMap_append, List.map_append, List.flatMap_singleton, List.map_map]
          rfl
        · exact f_next ⟨rfl, b2, .d (eL one), fun p hp => mub2 p (List.mem_cons_of_mem _ (List.mem_cons_of_mem _ hp)), hil2, rfl⟩
      · obtain ⟨rfl, b, u5, mub, hil, rfl⟩ := hI
        rw [List.length_map, List.take_length]
        refine f_one (f_set 2 (r := .l b ((everyL k (j + 1)).map eL)) (ed_name 4) (f_wk 4 (f_next ⟨rfl, b, .d d, u5, mub, hj, rfl⟩)) nd)
    · obtain ⟨rfl, a, u3, u5, mua, hjn, rfl⟩ := hI
      have e : (rngD 0 n).length = n := by simp [rngD]
      rw [e]
      exact f_one (r_ed q (ed_name 2) ⟨⟨a, rfl⟩, rfl⟩ (hF := mua.fr (by simp))))
    fun _ _ _ _ _ _ us hl => match us, hl with | [_, _], _ => rfl
end
end Wb

namespace Wb
open PySem PySem.Spec PyProof.Rows L2
section
variable {X : Cx} {G : Addr → Prop} {ρ : List Sv} {L : List (List Addr × Hp)} {A : As G} {D : Ends} {J : As G}
/-- len(a new list) -/
theorem ed_lenN {e : Expr} {ds : List PyData} {p pos : Pos} (hm : X.mg "len" = none) (h : En X G e ρ J ds) (hg : Gl X "len" := by rfl) (he : starEach [e] X.env = (false, eval e X.env) :: starEach [] X.env := by rfl) (hpl : (backTo pos (starEach [] X.env)).any (·.1) = false := by rfl) :
    Ed X G (.Call (.Name "len" p) [e] [] pos) ρ J (.d (.int (ds.length : Nat))) := fun σ H Q s t j q =>
  ⟨_, pe_callB call_len_seq hg hm boot_len (pa_cons pe_c pa_nil he) (by decide) (by decide) he hpl, h σ H _ s t j fun a H1 na s1 g1 => by
    obtain ⟨_, xs, hx, a1, _⟩ := s1
    refine ⟨a, xs, rfl, .inl (SqL.of hx), q _ H1 ⟨_, rfl, ?_⟩ g1⟩
    rw [a1.len]
    exact .int _⟩
theorem slSet {K : PySem.W.Frag} {H : Hp} {σ : L2.St} {i : Nat} {a : Addr} (h : Sl K H ρ σ) (e1 : σ[i]? = some (some (.ref a))) {r : Sv} (hr : SvOk K H r (some (.ref a))) : Sl K H (ρ.set i r) σ := by
  have h2 := h.set (r := r) (o := some (.ref a)) i hr
  have eσ : σ.set i (some (.ref a)) = σ := by
    apply List.ext_getElem?
    intro n
    by_cases hn : n = i
    · subst hn
      obtain ⟨h1, h2⟩ := List.getElem?_eq_some_iff.mp e1
      rw [List.getElem?_set_self h1, e1]
    · rw [List.getElem?_set_ne (Ne.symm hn)]
  rwa [eσ] at h2
/-- xs.append(ys.pop(e)), xs in the slot i, ys in the slot k; e draws a place -/
theorem f_appPop (i k : Nat) {x y : Str} {e : Expr} {a b : Addr} {ds es : List PyData} {p1 p2 apos cpos apos2 cpos2 pos : Pos} (hik : i ≠ k) (hab : a ≠ b) (he : Ek X G e ρ (Jl L A) (Dr L A fun d => ∃ n, n < es.length ∧ d = eN n)) (hl : ds.length ≤ 1000000) (hle : es.length ≤ 1000000) (ma : Mu L [a]) (mb : Mu L [b]) (oa : OffL [a] ((ρ.set i .u).set k .u)) (ob : OffL [b] ((ρ.set i .u).set k .u))
    (hA : ∀ H xs ys, A.P H → H a = some (.lst xs) → A.P (upd H a (.lst ys))) (hB : ∀ H xs ys, A.P H → H b = some (.lst xs) → A.P (upd H b (.lst ys))) (kk : ∀ n d, es[n]? = some d → Fin X D.nx ((ρ.set i (.l a (ds ++ [d]))).set k (.l b (es.eraseIdx n))) (Jl L A))
    (hr : ρ[i]? = some (.l a ds) := by rfl) (hN : X.N[i]? = some x := by rfl) (hv : Vis X.env.scope x := by first | exact Or.inl rfl | exact Or.inr (Or.inl rfl) | exact Or.inr (Or.inr rfl)) (hd : (x == ("__debug__" : Str)) = false := by decide) (hcd : (x == ("__classdict__" : Str)) = false := by decide)
    (hr2 : ρ[k]? = some (.l b es) := by rfl) (hN2 : X.N[k]? = some y := by rfl) (hv2 : Vis X.env.scope y := by first | exact Or.inl rfl | exact Or.inr (Or.inl rfl) | exact Or.inr (Or.inr rfl)) (hd2 : (y == ("__debug__" : Str)) = false := by decide) (hcd2 : (y == ("__classdict__" : Str)) = false := by decide)
    (hs : swapsWith (.Call (.Attribute (.Name x p1) "append" apos) [.Call (.Attribute (.Name y p2) "pop" apos2) [e] [] cpos2] [] cpos) none pos.line X.env = pure false := by rfl)
    (hbase : attributeBase (.Name x p1) "append" X.env (eval (.Name x p1) X.env) = eval (.Name x p1) X.env := by rfl)
    (hfew : ((backTo cpos (starEach [.Call (.Attribute (.Name y p2) "pop" apos2) [e] [] cpos2] X.env)).all (fun x => !x.1) && (backToKw cpos (keywordEach [] X.env)).all (fun x => x.1.isSome)
      && decide (([.Call (.Attribute (.Name y p2) "pop" apos2) [e] [] cpos2] : List Expr).length + ([] : List Keyword).length + (if ([] : List Keyword).isEmpty then 0 else 1) < 30)) = true := by rfl)
    (hline : (apos.endLine == cpos.line) = true := by rfl) (hst : starEach [.Call (.Attribute (.Name y p2) "pop" apos2) [e] [] cpos2] X.env = (false, eval (.Call (.Attribute (.Name y p2) "pop" apos2) [e] [] cpos2) X.env) :: starEach [] X.env := by rfl) (hplain : (backTo cpos (starEach [] X.env)).any (·.1) = false := by rfl)
    (hbase2 : attributeBase (.Name y p2) "pop" X.env (eval (.Name y p2) X.env) = eval (.Name y p2) X.env := by rfl)
    (hfew2 : ((backTo cpos2 (starEach [e] X.env)).all (fun x => !x.1) && (backToKw cpos2 (keywordEach [] X.env)).all (fun x => x.1.isSome)
      && decide (([e] : List Expr).length + ([] : List Keyword).length + (if ([] : List Keyword).isEmpty then 0 else 1) < 30)) = true := by rfl)
    (hline2 : (apos2.endLine == cpos2.line) = true := by rfl) (hst2 : starEach [e] X.env = (false, eval e X.env) :: starEach [] X.env := by rfl) (hplain2 : (backTo cpos2 (starEach [] X.env)).any (·.1) = false := by rfl) :
    Fin X (cS X (.Expr (.Call (.Attribute (.Name x p1) "append" apos) [.Call (.Attribute (.Name y p2) "pop" apos2) [e] [] cpos2] [] cpos) pos) D) ρ (Jl L A) := fun σ H s t j => by
  obtain ⟨o, e1, e2, vs, hH, hda, hz⟩ := s.get hr
  cases e2
  obtain ⟨o2, f1, f2, ws, hW, hwa, hwz⟩ := s.get hr2
  cases f2
  refine ⟨_, ps_expr (pe_bm PySem.F.plainAttrs_list PySem.F.slot_list_append PySem.F.type_list_append mt_append (pe_var (i := i) hN hv hd hcd) (pa_cons (pe_bm PySem.F.plainAttrs_list PySem.F.slot_list_pop PySem.F.type_list_pop mt_popAt (pe_var (i := k) hN2 hv2 hd2 hcd2) (pa_cons pe_c pa_nil hst2) hbase2 hfew2 hline2 hst2 hplain2) pa_nil hst) hbase hfew hline hst hplain) hs, .ref a, e1, .inl ⟨rfl, vs, SqL.of hH⟩, .ref b, f1, .inl ⟨rfl, ws, SqL.of hW⟩, ?_⟩
  refine he σ H _ s t j fun r J' v H1 p s1 _ sl1 t1 _ _ j1 => ?_
  obtain ⟨d, rfl, ⟨n, hn, rfl⟩, rfl⟩ := p
  obtain ⟨_, e3, d1⟩ := s1
  cases e3; cases d1
  obtain ⟨_, _, _, vs', hH1, hda', hz'⟩ := sl1.get hr
  obtain ⟨_, _, _, ws', hW1, hwa', hwz'⟩ := sl1.get hr2
  have lw := hwa'.len
  have lv := hda'.len
  have hd' : es[n]? = some es[n] := List.getElem?_eq_getElem hn
  obtain ⟨z, hz1, dz⟩ := hwa'.get hd'
  have g1 : Gr G [b] H1 (upd H1 b (.lst (ws'.eraseIdx n))) := Gr.put hW1 trivial (by simp)
  have hH2 : (upd H1 b (.lst (ws'.eraseIdx n))) a = some (.lst vs') := by rw [upd_ne hab]; exact hH1
  have g2 : Gr G [a] (upd H1 b (.lst (ws'.eraseIdx n))) (upd (upd H1 b (.lst (ws'.eraseIdx n))) a (.lst (vs' ++ [z]))) := Gr.put hH2 trivial (by simp)
  refine ⟨b, ws', (n : Nat), n, z, rfl, rfl, hW1, by omega, by omega, ?_, hz1, a, vs', z, rfl, rfl, hH2, Nat.lt_of_le_of_lt (show vs'.length ≤ 1000000 by omega) (by decide), ?_⟩
  · have : n < ws'.length := by omega
    unfold seqIndex?
    simp
    omega
  · have t2 := t1.up g1
    have jA := Jl.step j1 g1 mb (hB H1 ws' _ j1.2 hW1)
    have jB := Jl.step jA g2 ma (hA _ vs' _ jA.2 hH2)
    have sU : Sl X.K H1 ((ρ.set i .u).set k .u) σ := (sl1.forget i).forget k
    have sA := Sl.up g2 t2 oa.all (Sl.up g1 t1 ob.all sU)
    have eb : (upd (upd H1 b (.lst (ws'.eraseIdx n))) a (.lst (vs' ++ [z]))) b = some (.lst (ws'.eraseIdx n)) := by rw [upd_ne (Ne.symm hab), upd_same]
    have gA : Gr G [b, a] H1 (upd (upd H1 b (.lst (ws'.eraseIdx n))) a (.lst (vs' ++ [z]))) := (g1.mono (by simp)).trans (g2.mono (by simp))
    have sB := slSet (r := .l b (es.eraseIdx n)) sA f1 ⟨rfl, _, eb, (hwa'.erase n).up gA, Nat.le_trans (List.length_eraseIdx_le _ _) (Nat.le_trans (show ws'.length ≤ 1000000 by omega) (by decide))⟩
    have sC := slSet (r := .l a (ds ++ [es[n]])) sB e1 ⟨rfl, _, upd_same, (hda'.app (.cons dz .nil)).up gA, by rw [List.length_append, List.length_singleton]; exact Nat.le_trans (show vs'.length + 1 ≤ 1000001 by omega) (by decide)⟩
    have eρ : ((((ρ.set i .u).set k .u).set k (.l b (es.eraseIdx n))).set i (.l a (ds ++ [es[n]]))) = (ρ.set i (.l a (ds ++ [es[n]]))).set k (.l b (es.eraseIdx n)) := by
      rw [List.set_set, List.set_comm _ _ hik, List.set_set, List.set_comm _ _ (Ne.symm hik)]
    rw [eρ] at sC
    exact kk n es[n] hd' σ _ sC (t2.up g2) jB
/-- t + e, a tuple and what draws one -/
theorem ek_cat {a b : Expr} {ds : List PyData} {Pd : List PyData → Prop} {pos : Pos} (ha : Ed X G a ρ (Jl L A) (.d (.tuple ds))) (hb : Ek X G b ρ (Jl L A) (Dr L A fun d => ∃ es, Pd es ∧ d = .tuple es)) (hl : ∀ es, Pd es → ds.length + es.length ≤ 100000) : Ek X G (.BinOp a .Add b pos) ρ (Jl L A) (Dr L A fun d => ∃ es, Pd es ∧ d = .tuple (ds ++ es)) := fun σ H Q hs ht hj q =>
  ⟨_, pe_op op_catA pe_c pe_c, ha σ H _ hs ht hj fun v H1 s1 g1 => by
    refine hb σ H1 _ (hs.g0 g1 ht) (ht.up g1) ((Jl L A).up g1 ht hj) fun r J' w H2 p s2 _ sl2 t2 tk2 dm2 j2 => ?_
    obtain ⟨d, rfl, ⟨es, hP, rfl⟩, rfl⟩ := p
    obtain ⟨_, e1, d1⟩ := SvOk.tk (r := .d (.tuple ds)) tk2 trivial s1
    obtain ⟨_, e2, d2⟩ := s2
    cases e1; cases e2
    obtain ⟨p, xs, rfl, s1', a1⟩ := d1.tup_inv
    obtain ⟨p', ys, rfl, s2', a2⟩ := d2.tup_inv
    have l1 := a1.len
    have l2 := a2.len
    have hl' := hl es hP
    have dm : ∀ b, H2 b = none → H b = none := fun b e => g1.dom b (dm2 b e)
    have tk : Tk H H2 := ⟨fun c xs e => tk2.1 c xs (g1.tk.1 c xs e), fun c o u e => tk2.2 c o u (g1.tk.2 c o u e)⟩
    refine ⟨p, p', xs, ys, rfl, rfl, s1', s2', Nat.le_trans (show xs.length + ys.length ≤ 100000 by omega) (by decide), fun e => ?_, fun _ e => ?_, fun _ _ n hn => ?_⟩
    · subst e
      have e2 : ds = [] := List.length_eq_zero_iff.mp l1.symm
      subst e2
      exact q _ _ _ H2 ⟨_, rfl, ⟨es, hP, rfl⟩, rfl⟩ ⟨_, rfl, .tup s2' a2⟩ trivial sl2 t2 tk dm j2
    · subst e
      have e2 : es = [] := List.length_eq_zero_iff.mp l2.symm
      subst e2
      exact q _ _ _ H2 ⟨_, rfl, ⟨[], hP, rfl⟩, rfl⟩ ⟨_, rfl, by rw [List.append_nil]; exact .tup s1' a1⟩ trivial sl2 t2 tk dm j2
    · have gn : Gr G [] H2 (upd H2 n (.tup (xs ++ ys))) := Gr.new hn
      exact q _ _ _ _ ⟨_, rfl, ⟨es, hP, rfl⟩, rfl⟩ ⟨_, rfl, .tup (SqT.of upd_same) ((a1.app a2).up gn)⟩ trivial (sl2.g0 gn t2) (t2.up gn) ⟨fun c xs e => gn.tk.1 c xs (tk.1 c xs e), fun c o u e => gn.tk.2 c o u (tk.2 c o u e)⟩ (fun b e => dm b (gn.dom b e)) ((Jl L A).up gn t2 j2)⟩
/-- xs[0] = e, xs in the slot i, e draws -/
theorem f_set0K (i : Nat) {x : Str} {e : Expr} {a : Addr} {d0 : PyData} {ds : List PyData} {Pd : PyData → Prop} {j0 : Nat} {px p2 p1 pos : Pos} (he : Ek X G e ρ (Jl L A) (Dr L A Pd)) (hm : Mu L [a]) (hρ : OffL [a] (ρ.set i .u)) (hA : ∀ H xs ys, A.P H → H a = some (.lst xs) → A.P (upd H a (.lst ys))) (k : ∀ d, Pd d → Fin X D.nx (ρ.set i (.l a (d :: ds))) (Jl L A))
    (hr : ρ[i]? = some (.l a (d0 :: ds)) := by rfl) (hN : X.N[i]? = some x := by rfl) (hv : Vis X.env.scope x := by first | exact Or.inl rfl | exact Or.inr (Or.inl rfl) | exact Or.inr (Or.inr rfl)) (hd : (x == ("__debug__" : Str)) = false := by decide) (hcd : (x == ("__classdict__" : Str)) = false := by decide)
    (hs : swapsWithSole [.Subscript (.Name x px) (.Constant (.int 0) j0 p2) p1] e pos.line X.env = pure false := by rfl) (hw : swappedStores [.Subscript (.Name x px) (.Constant (.int 0) j0 p2) p1] e X.env = pure none := by rfl) (h1 : List.map (fun x => x.snd) (assignEach [.Subscript (.Name x px) (.Constant (.int 0) j0 p2) p1] X.env) = [assign (.Subscript (.Name x px) (.Constant (.int 0) j0 p2) p1) X.env] := by rfl)
    (h2 : ∀ (v : Value), assign (.Subscript (.Name x px) (.Constant (.int 0) j0 p2) p1) X.env v = (do
      let ov ← holding [v] (eval (.Name x px) X.env)
      let iv ← holding [v, ov] (eval (.Constant (.int 0) j0 p2) X.env)
      standAt p1
      holding [v, ov, iv] (setItem ov iv v)
      release [v, ov, iv] []) := by intro _; rfl) : Fin X (cS X (.Assign [.Subscript (.Name x px) (.Constant (.int 0) j0 p2) p1] e pos) D) ρ (Jl L A) := fun σ H s t j => by
  refine ⟨_, ps_asg pe_c (pg_sub (pe_var (i := i) hN hv hd hcd) pe_int set_list h2) hs hw h1, he σ H _ s t j fun r J' v H1 p s1 _ sl1 t1 _ _ j1 => ?_⟩
  obtain ⟨d, rfl, hP, rfl⟩ := p
  obtain ⟨_, e3, d1⟩ := s1
  cases e3
  obtain ⟨o, e1, e2, vs, hH, hda, hz⟩ := sl1.get hr
  cases e2
  cases hda with
  | cons q0 qs =>
    rename_i w0 ws
    have g : Gr G [a] H1 (upd H1 a (.lst (v :: ws))) := Gr.put hH trivial (by simp)
    refine ⟨.ref a, e1, a, _, 0, 0, rfl, rfl, hH, by simp [ixN], ?_⟩
    have sU := Sl.up g t1 hρ.all (sl1.forget i)
    have sV := slSet (r := .l a (d :: ds)) sU e1 ⟨rfl, v :: ws, upd_same, .cons (d1.up g) (qs.up g), hz⟩
    rw [List.set_set] at sV
    exact k d hP σ _ sV (t1.up g) (Jl.step j1 g hm (hA H1 _ _ j1.2 hH))
/-- (e1, e2, e3), the third draws -/
theorem ek_tup3 {a b c : Expr} {Pd : PyData → Prop} {d e : PyData} {Post : Sv → As G → Prop} {k : Nat} {pos : Pos} (ha : Ed X G a ρ (Jl L A) (.d d)) (hb : Ed X G b ρ (Jl L A) (.d e)) (hc : Ek X G c ρ (Jl L A) (Dr L A Pd)) (hP : ∀ z, Pd z → Post (.d (.tuple [d, e, z])) (Jl L A))
    (h0 : starEach [a, b, c] X.env = (false, eval a X.env) :: starEach [b, c] X.env := by rfl) (h1 : starEach [b, c] X.env = (false, eval b X.env) :: starEach [c] X.env := by rfl) (h2 : starEach [c] X.env = (false, eval c X.env) :: starEach [] X.env := by rfl) : Ek X G (.Tuple [a, b, c] k pos) ρ (Jl L A) Post := fun σ H Q s t j q =>
  ⟨_, pe_tup (pa_cons pe_c (pa_cons pe_c (pa_cons pe_c pa_nil h2) h1) h0), ha σ H _ s t j fun v H1 s1 g1 => hb σ H1 _ (s.g0 g1 t) (t.up g1) ((Jl L A).up g1 t j) fun w H2 s2 g2 => by
    have g12 := g1.trans g2
    refine hc σ H2 _ (s.g0 g12 t) (t.up g12) ((Jl L A).up g12 t j) fun r J' z H3 p s3 _ sl3 t3 tk3 dm3 j3 => ?_
    obtain ⟨zd, rfl, hz, rfl⟩ := p
    obtain ⟨_, ev, dv⟩ := SvOk.tk (r := .d d) tk3 trivial (s1.g0 g2 (t.up g1))
    obtain ⟨_, ew, dw⟩ := SvOk.tk (r := .d e) tk3 trivial s2
    obtain ⟨_, ez, dz⟩ := s3
    cases ev; cases ew; cases ez
    refine ⟨show 3 ≤ sizeLine by decide, fun n hn => ?_⟩
    have gn : Gr G [] H3 (upd H3 n (.tup [v, w, z])) := Gr.new hn
    exact q _ _ _ _ (hP zd hz) ⟨_, rfl, .tup (SqT.of upd_same) (.cons (dv.up gn) (.cons (dw.up gn) (.cons (dz.up gn) .nil)))⟩ trivial (sl3.g0 gn t3) (t3.up gn) ⟨fun c xs e => gn.tk.1 c xs (tk3.1 c xs (g12.tk.1 c xs e)), fun c o u e => gn.tk.2 c o u (tk3.2 c o u (g12.tk.2 c o u e))⟩ (fun b e => g12.dom b (dm3 b (gn.dom b e))) ((Jl L A).up gn t3 j3)⟩
end
end Wb

namespace Wb
open PySem PySem.Spec PyProof.Rows L2
section
variable {P : Program} {w : World} {K : PySem.W.Frag} {mg : Str → Option Value} {base : Heap} {G : Addr → Prop}
/-! ### _law_table -/
def gTable (args : List Sv) (row : Addr) (z : PyData) : Prop := ∃ (m : Mach) (k : Nat), MachOk m ∧ 1 ≤ k ∧ k ≤ 3 ∧ args = [.d (eM m), .d (eN k), .d (.int 2)] ∧ ∃ t, House m k t ∧ z = eT t
abbrev nT : List Str := ["_law_row_here", "_law_machine_here", "_law_marks", "_law_most", "_law_way", "_law_found", "_law_state", "_law_rows", "_law_option", "_law_length", "_law_every_here"]
theorem scTable : FnScope nT ["_law_row_here", "_law_machine_here", "_law_marks", "_law_most"] (defScope (top 49)) := ⟨rfl, rfl, rfl, by decide +kernel, rfl, by decide +kernel, by decide +kernel⟩
theorem House.some {m : Mach} {k : Nat} (h : MachOk m) (hk : 1 ≤ k) (hk3 : k ≤ 3) : ∃ t, House m k t := by
  refine ⟨m.map fun s => s.map fun _ => [0], h.1, h.2.1, h.2.2, hk, by omega, by simp, ?_, ?_⟩
  · intro i s rs h1 h2
    rw [List.getElem?_map, h1] at h2
    have := Option.some.inj h2
    rw [← this]
    simp
  · intro rs hrs r hr
    obtain ⟨s, _, rfl⟩ := List.mem_map.mp hrs
    obtain ⟨_, _, rfl⟩ := List.mem_map.mp hr
    simp
    omega
def RwOk (k b : Nat) (r : List Nat) : Prop := 1 ≤ r.length ∧ r.length ≤ b ∧ ∀ x ∈ r, x < k
def TabI (m : Mach) (k n : Nat) (tn : List (List (List Nat))) : Prop := tn.length = n ∧ (∀ (i : Nat) (st : List (Nat × Word)) (rs : List (List Nat)), m[i]? = some st → tn[i]? = some rs → rs.length = st.length) ∧ ∀ rs ∈ tn, ∀ r ∈ rs, RwOk k 8 r
theorem TabI.snoc {m : Mach} {k n : Nat} {tn : List (List (List Nat))} {st : List (Nat × Word)} {rs : List (List Nat)} (h : TabI m k n tn) (e : m[n]? = some st) (hl : rs.length = st.length) (hr : ∀ r ∈ rs, RwOk k 8 r) : TabI m k (n + 1) (tn ++ [rs]) := by
  obtain ⟨h1, h2, h3⟩ := h
  refine ⟨by rw [List.length_append, h1] <;> rfl, fun i st' rs' e1 e2 => ?_, fun x hx => ?_⟩
  · by_cases hi : i < tn.length
    · rw [List.getElem?_append_left hi] at e2
      exact h2 i st' rs' e1 e2
    · rw [List.getElem?_append_right (by omega)] at e2
      have hi2 : i = n := by
        have := (List.getElem?_eq_some_iff.mp e2).1
        simp at this
        omega
      subst hi2
      rw [e] at e1
      have e1 := Option.some.inj e1
      rw [h1] at e2
      simp at e2
      rw [← e1, ← e2]
      exact hl
  · rcases List.mem_append.mp hx with q | q
    · exact h3 x q
    · rw [List.mem_singleton.mp q]; exact hr
theorem erase_map {α β : Type} {f : α → β} : ∀ (xs : List α) (n : Nat), (xs.map f).eraseIdx n = (xs.eraseIdx n).map f
  | [], _ => rfl
  | _ :: _, 0 => rfl
  | x :: xs, n + 1 => by
    show f x :: (xs.map f).eraseIdx n = f x :: (xs.eraseIdx n).map f
    rw [erase_map xs n]
theorem Fin.app {X : Cx} {G : Addr → Prop} {Y : L2.St → Hp → Prop} {ρ : List Sv} {J : As G} (h : Fin X Y ρ J) {σ : L2.St} {H : Hp} (s : Sl X.K H ρ σ) (t : Tb G H) (j : J.P H) : Y σ H := h σ H s t j
theorem eqvNil (ds : List PyData) : PyData.eqv (.list ds) (.list []) = decide (ds = []) := by cases ds <;> rfl
theorem ok_table (E : Ev K mg) (cTaken : Cal P w K mg base 1 "_law_taken" (spS K G (fDraw K gTaken)) []) (cRow : Cal P w K mg base 2 "_law_row" (spS K G (fDraw K gRow)) []) (cEvery : Cal P w K mg base 1 "_law_every" (spS K G (PuN fEvery)) []) (h : Dg K mg "_law_table" (top 49)) : Cal P w K mg base 3 "_law_table" (spS K G (fDraw K gTable)) [] :=
  cal_of h (fun f fd F => ok_S F scTable (fun rs A ms Post ⟨_, _, _, _, ⟨_, _, _, _, _, _, e, _⟩, e2, _⟩ => by rw [e2, e] <;> rfl) fun c' A' outer s H E0 hcd hr rs A ms Post vs Q hR sa ha q => by
    obtain ⟨row, sca, ns, args, ⟨z, m, k, hm, hk1, hk3, rfl, _⟩, rfl, rfl, rfl, rfl⟩ := hR
    have nd := scTable.nd
    refine f_cons (f_parKN 4 5 (ds := []) (Pd := fun d => ∃ n, n < 3 ∧ d = eN n) (ek_tk cTaken hr (ed_name 0) (ed_int (i := 3)) (by decide) (by decide) muA ⟨trivial, trivial, trivial, trivial, trivial, trivial, trivial, trivial, trivial, trivial, trivial, trivial⟩) (en_lst (ds := []) ea_nil (by decide)) (fun d fa hd muF offF neF => ?_) nd)
    obtain ⟨wy, hwy, rfl⟩ := hd
    obtain ⟨rf, sf⟩ := rowNew neF
    refine f_cons (f_forP 6 [row, fa] (ep_tup (ds := m.map eS) (ed_name 1)) (fun n ρ A => A = RowA G K row sca ns ∧ ∃ (tn : List (List (List Nat))) (u6 : Sv), TabI m k n tn ∧ Still u6 ∧ ρ = [.v (.ref row), .d (eM m), .d (eN k), .d (.int 2), .d (eN wy), .l fa (tn.map eRs), u6, .u, .u, .u, .u]) ⟨rfl, [], .u, ⟨rfl, by simp, by simp⟩, trivial, rfl⟩ (fun H1 n d ρ A' hd hI => ?_) (fun ρ A' hI => ?_) nd)
    · obtain ⟨rfl, tn, u6, hti, hu6, rfl⟩ := hI
      obtain ⟨st, hst, rfl⟩ := map_at' hd
      have hs3 := (hm.2.2 st (List.mem_of_getElem? hst)).1
      have offr : OffL [row] [.v (.ref row), .d (eM m), .d (eN k), .d (.int 2), .d (eN wy), .l fa (tn.map eRs), .d (eS st), .u, .u, .u, .u] := ⟨trivial, trivial, trivial, trivial, trivial, by simpa [Off] using Ne.symm rf, trivial, trivial, trivial, trivial, trivial, trivial⟩
      have mrow1 : Mu [([row, fa], H1), ([row], H)] [row] := muR (by simp)
      refine f_cons (f_setLcK 8 7 [row] (Pi := Just (st.map eO) (Jl [([row, fa], H1), ([row], H)] (RowA G K row sca ns))) (Post := fun r J' => ∃ (D : Addr) (rs : List (List Nat)), rs.length = st.length ∧ (∀ r ∈ rs, RwOk k 2 r) ∧ r = .l D (rs.map eL) ∧ J' = Jl [([row, fa], H1), ([row], H)] (RowA G K row sca ns)) (ei_p (ep_tup (ds := st.map eO) (ed_name 6))) (fun ds J1 σ H2 hJ s1 t1 j1 => ?_) rfl (fun r J' H0 p j0 fr offD => ?_) nd (blkOk_by (N := nT) (sc := defScope (top 49)) (by decide +kernel)))
      · obtain ⟨rfl, rfl⟩ := hJ
        refine ⟨by rw [List.length_map]; omega, [([row, fa], H1), ([row], H)], RowA G K row sca ns, fun j acc => ∃ rs : List (List Nat), rs.length = j ∧ (∀ r ∈ rs, RwOk k 2 r) ∧ acc = rs.map eL, j1, ⟨[], rfl, by simp, rfl⟩, fun D H3 xs ys hD hA e => ?_, fun j d acc D vs hd hI hD s' H0 C cl fp => ?_, fun acc D hI hacc => ?_⟩
        · have h2 := rowNew (row := row) (sa := sca) (ns := ns) (K := K) (G := G) (a := D) fun b hb z => by
            obtain ⟨o, e⟩ := hb H2 j1.2
            rw [z, hD] at e
            cases e
          exact rowInd h2.1 h2.2 H3 xs ys hA e
        · obtain ⟨rs, hl, hlx, rfl⟩ := hI
          obtain ⟨o, ho, rfl⟩ := map_at' hd
          have hne : D ≠ row := fun z => by
            obtain ⟨o, e⟩ := rowEx H2 j1.2
            rw [← z, hD] at e
            cases e
          refine ek_call (ss := []) (rs := [.v (.ref row), .d (eN k), .d (eN 2)]) (ms := [row]) (A := RowA G K row sca ns) (P0 := fun r B => (∃ z, gRow [.d (eN k), .d (eN 2)] row z ∧ r = .d z) ∧ B = RowA G K row sca ns) cRow hr (ea_cons (ed_name 0) (ea_cons (ed_name 2) (ea_cons (ed_name 3) ea_nil))) (fun _ => trivial) (by rw [List.append_nil]; exact ⟨row, sca, ns, _, ⟨eL [0], k, 2, by omega, by omega, by omega, by omega, rfl, [0], ⟨by simp, by simp, by simp; omega⟩, rfl⟩, rfl, rfl, rfl, rfl⟩) (fun _ h => h.2.1) ⟨trivial, trivial, trivial, trivial, trivial, by simpa [Off] using Ne.symm rf, trivial, trivial, trivial, trivial, trivial, trivial⟩ (fun r B H3 H4 p jj tt g bb => ?_)
          obtain ⟨⟨z, ⟨k', mo, _, _, _, _, e, l, hll, rfl⟩, rfl⟩, rfl⟩ := p
          injection e with e1 e2
          injection e1 with e1
          injection e2 with e2
          injection e2 with e2
          have e1 := eN_inj e1
          have e2 := eN_inj e2
          subst e1 e2
          refine ⟨_, ⟨eL l, rfl, ⟨rs ++ [l], by rw [List.length_append, hl] <;> rfl, fun y hy => ?_, by rw [List.map_append] <;> rfl⟩, rfl⟩, Jl.step jj g (muR (by simp)) ⟨bb, ?_⟩⟩
          · rcases List.mem_append.mp hy with q | q
            · exact hlx y q
            · rw [List.mem_singleton.mp q]; exact hll
          · have h3 := jj.2.2
            exact g.keep D _ h3 (not_tab tt h3 (fun q z => by cases z)) (by simpa using hne)
        · obtain ⟨rs, hl, hlx, rfl⟩ := hI
          rw [List.length_map] at hl
          exact ⟨D, rs, hl, hlx, rfl, rfl⟩
      obtain ⟨D, rs, hrl, hrs, rfl, rfl⟩ := p
      have muD : Mu [([row, fa], H1), ([row], H)] [D] := Jl.fresh j0 fr
      have fD : fa ≠ D := by
        have := offD.2.2.2.2.2.1
        simpa [Off, lA] using this
      have hRes : ∀ r ∈ rs, RwOk k 8 r := fun r hr => ⟨(hrs r hr).1, Nat.le_trans (hrs r hr).2.1 (by decide), (hrs r hr).2.2⟩
      refine f_cut (Mid := Any (cxOf CX0 P w K mg base nT "_law_table" (defScope (top 49)) f (.ref c') A' outer s H E0).nox (fun ρ' J' => ∃ (ra : Addr) (rs : List (List Nat)) (u8 u9 u10 : Sv), fa ≠ ra ∧ Still u8 ∧ Still u9 ∧ Off [fa] u10 ∧ rs.length = st.length ∧ (∀ r ∈ rs, RwOk k 8 r) ∧ ρ' = [.v (.ref row), .d (eM m), .d (eN k), .d (.int 2), .d (eN wy), .l fa (tn.map eRs), .d (eS st), .l ra (rs.map eL), u8, u9, u10] ∧ J' = Jl [([row, fa], H1), ([row], H)] (RowA G K row sca ns))) ?_ (fun σ2 H2 hM => ?_)
      · refine f_if (x := decide ((0 : Int) < (wy : Nat)) && decide ((1 : Int) < (k : Nat))) (et_w (ew_and (et_gt (ed_name 4) ed_int) fun _ => ew_and1 (et_gt (ed_name 2) ed_int))) (fun e => ?_) fun e => f_nil (fin_any ⟨D, rs, .u, .u, .u, fD, trivial, trivial, trivial, hrl, hRes, rfl, rfl⟩)
        have hk2 : 2 ≤ k := by
          have : decide ((1 : Int) < (k : Nat)) = true := by
            rw [Bool.and_eq_true] at e
            exact e.2
          have := of_decide_eq_true this
          omega
        refine f_cons (f_parJ 9 7 (r := .d (eN 1)) (ds := []) ed_int (en_lst (ds := []) ea_nil (by decide)) (fun ra muR_ offR neR => ?_) nd)
        obtain ⟨rr, sr⟩ := rowNew neR
        have fr_ : fa ≠ ra := by
          have := offR.2.2.2.2.2.1
          simpa [Off] using this
        refine f_cons (f_whileN 2 1 (fun n ρ A => A = RowA G K row sca ns ∧ 1 ≤ n ∧ n ≤ 2 ∧ ρ = [.v (.ref row), .d (eM m), .d (eN k), .d (.int 2), .d (eN wy), .l fa (tn.map eRs), .d (eS st), .l ra [], .u, .d (eN n), .u]) ⟨rfl, by decide, by decide, rfl⟩ (fun n ρ A hI => hI.2.2.1) (fun n ρ A hI => ?_))
        obtain ⟨rfl, hn1, hn2, rfl⟩ := hI
        have hp := everyL_len (k := k) n
        refine ⟨decide (k ^ n < st.length), Et.to (et_lt (i := (((everyL k n).map eL).length : Nat)) (j := ((st.map eO).length : Nat)) (ed_lenN E.len (en_pu (rs := [.d (eN k), .d (eN n)]) cEvery (hr.mono (by decide)) (ea_cons (ed_name 2) (ea_cons (ed_name 9) ea_nil)) ⟨k, n, hk1, hk3, hn2, rfl, rfl⟩)) (ed_lenT (ds := st.map eO) E.len (ed_name 6))) (by rw [List.length_map, List.length_map, hp]; exact decide_eq_decide.mpr Int.ofNat_lt), fun e => ?_, fun e => ?_⟩
        · have hlt := of_decide_eq_true e
          have hn : n = 1 := by
            by_cases z : n = 2
            · subst z
              have : 2 ^ 2 ≤ k ^ 2 := Nat.pow_le_pow_left hk2 2
              omega
            · omega
          subst hn
          exact f_one (f_set 9 (r := .d (eN 2)) (Ed.to (ed_add (ed_name 9) ed_int) (eN1 _)) (fin_any ⟨_, rfl, rfl, by decide, by decide, rfl⟩) nd)
        have hge : st.length ≤ k ^ n := by have := of_decide_eq_false e; omega
        refine f_cons (f_newL 10 (ds := (everyL k n).map eL) (en_pu (rs := [.d (eN k), .d (eN n)]) cEvery (hr.mono (by decide)) (ea_cons (ed_name 2) (ea_cons (ed_name 9) ea_nil)) ⟨k, n, hk1, hk3, hn2, rfl, rfl⟩) (fun ea muE offE neE => ?_) nd)
        obtain ⟨re, se⟩ := rowNew neE
        have fe : fa ≠ ea := by
          have := offE.2.2.2.2.2.1
          simpa [Off] using this
        have rae : ra ≠ ea := by
          have := offE.2.2.2.2.2.2.2.1
          simpa [Off] using this
        have hp9 := pow9 hk3 hn2
        refine f_cons (f_forP 8 [row, ra, ea] (ep_tup (ds := st.map eO) (ed_name 6)) (fun i ρ A => A = RowA G K row sca ns ∧ ∃ (rs ev : List (List Nat)) (u8 : Sv), rs.length = i ∧ i ≤ st.length ∧ ev.length + i = k ^ n ∧ (∀ r ∈ rs, RwOk k 2 r) ∧ (∀ r ∈ ev, RwOk k 2 r) ∧ Still u8 ∧ ρ = [.v (.ref row), .d (eM m), .d (eN k), .d (.int 2), .d (eN wy), .l fa (tn.map eRs), .d (eS st), .l ra (rs.map eL), u8, .d (eN n), .l ea (ev.map eL)]) ⟨rfl, [], everyL k n, .u, rfl, Nat.zero_le _, by rw [hp] <;> rfl, by simp, fun r hr => ?_, trivial, rfl⟩ (fun H2 i d ρ A' hd hI => ?_) (fun ρ A' hI => ?_) nd)
        · obtain ⟨h1, h2⟩ := everyL_ok n r hr
          exact ⟨by omega, by omega, h2⟩
        · obtain ⟨rfl, rs, ev, u8, hrl, hil, hel, hrs, hev, hu8, rfl⟩ := hI
          obtain ⟨o, ho, rfl⟩ := map_at' hd
          have hi : i < st.length := (List.getElem?_eq_some_iff.mp ho).1
          have hep : 0 < ev.length := by omega
          refine f_one (f_appPop 7 10 (a := ra) (b := ea) (ds := rs.map eL) (es := ev.map eL) (by decide) rae (Ek.mono (ek_tk (m := (ev.map eL).length) cTaken hr (ed_name 0) (ed_lenL (a := ea) (ds := ev.map eL) E.len (ed_name 10)) (by rw [List.length_map]; exact hep) (by rw [List.length_map]; omega) (muR (by simp)) ⟨trivial, trivial, trivial, trivial, trivial, by simpa [Off] using Ne.symm rf, trivial, by simpa [Off] using Ne.symm rr, trivial, trivial, by simpa [Off] using Ne.symm re, trivial⟩) (fun r J' p => p)) (by rw [List.length_map]; omega) (by rw [List.length_map]; omega)
            (Mu.cons (fun b hb => .inl (by rw [List.mem_singleton.mp hb]; simp)) muR_) (Mu.cons (fun b hb => .inl (by rw [List.mem_singleton.mp hb]; simp)) muE) ⟨trivial, trivial, trivial, trivial, trivial, by simpa [Off] using fr_, trivial, trivial, trivial, trivial, trivial, trivial⟩ ⟨trivial, trivial, trivial, trivial, trivial, by simpa [Off] using fe, trivial, trivial, trivial, trivial, trivial, trivial⟩
            (fun H xs ys h e => rowInd rr sr H xs ys h e) (fun H xs ys h e => rowInd re se H xs ys h e) (fun n2 d2 hd2 => ?_))
          obtain ⟨r, hr2, rfl⟩ := map_at' hd2
          have hr3 := hev r (List.mem_of_getElem? hr2)
          refine f_next ⟨rfl, rs ++ [r], ev.eraseIdx n2, .d (eO o), by rw [List.length_append, hrl] <;> rfl, hi, ?_, fun x hx => ?_, fun x hx => hev x (List.mem_of_mem_eraseIdx hx), trivial, ?_⟩
          · have hn2l := (List.getElem?_eq_some_iff.mp hr2).1
            rw [List.length_eraseIdx_of_lt hn2l]
            omega
          · rcases List.mem_append.mp hx with q | q
            · exact hrs x q
            · rw [List.mem_singleton.mp q]; exact hr3
          · rw [List.map_append]
            have : (ev.map eL).eraseIdx n2 = (ev.eraseIdx n2).map eL := erase_map _ _
            rw [← this]
            rfl
        obtain ⟨rfl, rs, ev, u8, hrl, hil, hel, hrs, hev, hu8, rfl⟩ := hI
        rw [List.length_map] at hrl
        have hRes : ∀ r ∈ rs, RwOk k 8 r := fun r hr => ⟨(hrs r hr).1, Nat.le_trans (hrs r hr).2.1 (by decide), (hrs r hr).2.2⟩
        refine f_one (f_if (x := decide (wy = 2) && !decide (rs.map eL = [])) (et_w (ew_and (Et.to (et_eq (d := eN wy) (e := eN 2) hr (ed_name 4) ed_int rfl rfl) (by rw [eqvN])) fun _ => ew_and1 (Et.to (et_neL (p := ra) (ds := rs.map eL) (es := []) hr (ed_name 7) (en_lst (ds := []) ea_nil (by decide)) (cnl_shaped (n := 1) (fun d hd => by obtain ⟨a, _, rfl⟩ := List.mem_map.mp hd; exact cn_L 0 a)) rfl) (by rw [eqvNil])))) (fun e => ?_) fun e => f_nil (fin_any ⟨ra, rs, u8, .d (eN n), .l ea (ev.map eL), fr_, hu8, trivial, by simpa [Off] using Ne.symm fe, hrl, hRes, rfl, rfl⟩))
        cases rs with
        | nil => simp at e
        | cons r0 rt =>
          have h0 := hrs r0 List.mem_cons_self
          refine f_one (f_set0K 7 (a := ra) (d0 := eL r0) (ds := rt.map eL) (ek_cat (ds := r0.map eN) (Pd := fun es => ∃ l : List Nat, (1 ≤ l.length ∧ l.length ≤ 1 ∧ ∀ x ∈ l, x < k) ∧ es = l.map eN) (ed_ixL (p := ra) (ds := eL r0 :: rt.map eL) (d := eL r0) (i := 0) (ed_name 7) ed_int rfl) (Ek.mono (ek_draw (args := [.d (eN k), .d (eN 1)]) cRow hr (ea_cons (ed_name 0) (ea_cons (ed_name 2) (ea_cons ed_int ea_nil))) ⟨eL [0], k, 1, by omega, by omega, by omega, by omega, rfl, [0], ⟨by simp, by simp, by simp; omega⟩, rfl⟩ (muR (by simp)) ⟨trivial, trivial, trivial, trivial, trivial, by simpa [Off] using Ne.symm rf, trivial, by simpa [Off] using Ne.symm rr, by cases u8 <;> first | trivial | exact hu8.elim, trivial, by simpa [Off] using Ne.symm re, trivial⟩) (fun r J' p => ?_)) (fun es hes => ?_)) muR_ ⟨trivial, trivial, trivial, trivial, trivial, by simpa [Off] using fr_, trivial, trivial, by cases u8 <;> first | trivial | exact hu8.elim, trivial, by simpa [Off] using Ne.symm rae, trivial⟩ (fun H xs ys h e => rowInd rr sr H xs ys h e) (fun d hd => ?_))
          · obtain ⟨⟨z, ⟨k', mo, _, _, _, _, e, l, hll, rfl⟩, rfl⟩, rfl⟩ := p
            injection e with e1 e2
            injection e1 with e1
            injection e2 with e2
            injection e2 with e2
            have e1 := eN_inj e1
            have e2 := eN_inj e2
            subst e1 e2
            exact ⟨eL l, rfl, ⟨l.map eN, ⟨l, hll, rfl⟩, rfl⟩, rfl⟩
          · obtain ⟨l, hl, rfl⟩ := hes
            have := h0.2.1
            simp
            omega
          · obtain ⟨es, ⟨l, hl, rfl⟩, rfl⟩ := hd
            refine fin_any ⟨ra, (r0 ++ l) :: rt, u8, .d (eN n), .l ea (ev.map eL), fr_, hu8, trivial, by simpa [Off] using Ne.symm fe, by simpa using hrl, fun x hx => ?_, by simp [eL], rfl⟩
            rcases List.mem_cons.mp hx with q | q
            · rw [q]
              have a1 := h0.2.1
              have a2 := h0.1
              refine ⟨by simp; omega, by simp; omega, fun y hy => ?_⟩
              rcases List.mem_append.mp hy with z | z
              · exact h0.2.2 y z
              · exact hl.2.2 y z
            · exact hRes x (List.mem_cons_of_mem _ q)
      · obtain ⟨ρ2, J2, ⟨ra, rs, u8, u9, u10, f1, s8, s9, o10, hrl, hrs, rfl, rfl⟩, s2, t2, j2⟩ := hM
        have off1 : ∀ {u : Sv}, Still u → Off [fa] u := fun {u} h => by cases u <;> first | trivial | exact h.elim
        have := hti.1
        have hnm := (List.getElem?_eq_some_iff.mp hst).1
        have hm3 := hm.2.1
        refine Fin.app (X := (cxOf CX0 P w K mg base nT "_law_table" (defScope (top 49)) f (.ref c') A' outer s H E0).nox) ?_ s2 t2 j2
        exact f_one (f_appJ 5 (a := fa) (ds := tn.map eRs) (d := eRs rs) (ed_tupleL (a := ra) (ds := rs.map eL) E.tuple (ed_name 7)) (by rw [List.length_map]; omega) (Mu.cons (fun b hb => .inl (by rw [List.mem_singleton.mp hb]; simp)) muF) ⟨trivial, trivial, trivial, trivial, trivial, trivial, trivial, by simpa [Off] using Ne.symm f1, off1 s8, off1 s9, o10, trivial⟩ (fun H xs ys h e => rowInd rf sf H xs ys h e) (f_wk 7 (f_wk 8 (f_wk 9 (f_wk 10 (f_next ⟨rfl, tn ++ [rs], .d (eS st), hti.snoc hst hrl hrs, trivial, by rw [List.map_append] <;> rfl⟩))))))
    · obtain ⟨rfl, tn, u6, hti, _, rfl⟩ := hI
      rw [List.length_map] at hti
      obtain ⟨htl, htn, hto⟩ := hti
      refine f_one (r_ed q (r := .d (eT tn)) (ed_tupleL (ds := tn.map eRs) E.tuple (ed_name 5)) ⟨⟨eT tn, ⟨m, k, hm, hk1, hk3, rfl, tn, ⟨hm.1, hm.2.1, hm.2.2, hk1, by omega, htl, fun i s rs h1 h2 => htn i s rs h1 h2, hto⟩, rfl⟩, rfl⟩, rfl⟩))
    fun _ _ _ _ _ _ us hl => match us, hl with | [_, _, _, _], _ => rfl
end
end Wb

namespace Wb
open PySem PySem.Spec PyProof.Rows L2
/-! ### a dict with text keys -/
def kvsOf (ns : List Str) (vs : List V) : List (Key × V) := (ns.zip vs).map fun q => ((.inr q.1 : Key), q.2)
def DAt (K : PySem.W.Frag) (H : Hp) (d : Addr) (ns : List Str) (ρ : List Sv) : Prop := ∃ vs, H d = some (.dK (kvsOf ns vs)) ∧ vs.length = ns.length ∧ SvA K H ρ vs
def As.dct (G : Addr → Prop) (K : PySem.W.Frag) (d : Addr) (ns : List Str) (ρ : List Sv) : As G := ⟨fun H => DAt K H d ns ρ, fun g t h => by
  obtain ⟨vs, h1, h2, h3⟩ := h
  exact ⟨vs, g.keep d _ h1 (not_tab t h1 (fun q z => by cases z)) (by simp), h2, h3.g0 g t⟩⟩
theorem valV_kvs {k : Str} : ∀ {ns : List Str} {vs : List V} {j : Nat} {v : V}, ns.Nodup → ns[j]? = some k → vs[j]? = some v → valV (kvsOf ns vs) (.inr k : Key) = some v := by
  intro ns
  induction ns with
  | nil => intro vs j v _ e _; simp at e
  | cons n ns ih =>
    intro vs j v hn e1 e2
    cases vs with
    | nil => simp at e2
    | cons w vs =>
      have hn' := List.nodup_cons.mp hn
      cases j with
      | zero =>
        simp at e1 e2
        subst e1 e2
        simp [valV, kvsOf]
      | succ j =>
        have e1' : ns[j]? = some k := by simpa using e1
        have ne : ¬ (Sum.inr n : Key) = Sum.inr k := fun z => hn'.1 (by injection z with z; rw [z]; exact List.mem_of_getElem? e1')
        have := ih hn'.2 e1' (by simpa using e2)
        unfold valV at this ⊢
        simp only [kvsOf, List.zip_cons_cons, List.map_cons, List.find?_cons]
        rw [show decide ((Sum.inr n : Key) = Sum.inr k) = false from decide_eq_false ne]
        exact this
theorem putK_kvs {k : Str} {y : V} : ∀ {ns : List Str} {vs : List V} {j : Nat}, ns.Nodup → ns[j]? = some k → vs.length = ns.length → putK (kvsOf ns vs) (.inr k : Key) y = kvsOf ns (vs.set j y) := by
  have key : ∀ {ns : List Str} {vs : List V} {j : Nat}, ns.Nodup → ns[j]? = some k → vs.length = ns.length → (kvsOf ns vs).map (fun kv => if kv.1 = (.inr k : Key) then (kv.1, y) else kv) = kvsOf ns (vs.set j y) ∧ ((kvsOf ns vs).any fun kv => decide (kv.1 = (.inr k : Key))) = true := by
    intro ns
    induction ns with
    | nil => intro vs j _ e; simp at e
    | cons n ns ih =>
      intro vs j hn e hl
      cases vs with
      | nil => simp at hl
      | cons w vs =>
        have hn' := List.nodup_cons.mp hn
        cases j with
        | zero =>
          simp at e
          subst e
          refine ⟨?_, by simp [kvsOf]⟩
          simp only [kvsOf, List.zip_cons_cons, List.map_cons, List.set_cons_zero, if_pos rfl]
          congr 1
          have : ∀ q ∈ (ns.zip vs).map (fun q => ((.inr q.1 : Key), q.2)), (if q.1 = (.inr n : Key) then (q.1, y) else q) = q := by
            intro q hq
            obtain ⟨p, hp, rfl⟩ := List.mem_map.mp hq
            rw [if_neg]
            intro z
            injection z with z
            exact hn'.1 (z ▸ (List.of_mem_zip hp).1)
          exact (List.map_congr_left (g := id) this).trans (List.map_id _)
        | succ j =>
          have e' : ns[j]? = some k := by simpa using e
          have ne : ¬ (Sum.inr n : Key) = Sum.inr k := fun z => hn'.1 (by injection z with z; rw [z]; exact List.mem_of_getElem? e')
          obtain ⟨h1, h2⟩ := ih (vs := vs) (j := j) hn'.2 e' (by simpa using hl)
          refine ⟨?_, ?_⟩
          · simp only [kvsOf, List.zip_cons_cons, List.map_cons, List.set_cons_succ, if_neg ne]
            congr 1
          · simp only [kvsOf, List.zip_cons_cons, List.map_cons, List.any_cons]
            rw [show decide ((Sum.inr n : Key) = Sum.inr k) = false from decide_eq_false ne, Bool.false_or]
            exact h2
  intro ns vs j hn e hl
  obtain ⟨h1, h2⟩ := key hn e hl
  unfold putK
  rw [if_pos h2]
  exact h1
theorem putK_new {k : Str} {y : V} {ns : List Str} {vs : List V} (h : k ∉ ns) (hl : vs.length = ns.length) : putK (kvsOf ns vs) (.inr k : Key) y = kvsOf (ns ++ [k]) (vs ++ [y]) := by
  have : ¬ ((kvsOf ns vs).any fun kv => decide (kv.1 = (.inr k : Key))) = true := by
    intro z
    obtain ⟨q, hq, e⟩ := List.any_eq_true.mp z
    obtain ⟨p, hp, rfl⟩ := List.mem_map.mp hq
    have e := of_decide_eq_true e
    injection e with e
    exact h (e ▸ (List.of_mem_zip hp).1)
  unfold putK
  rw [if_neg this]
  unfold kvsOf
  rw [List.zip_append hl.symm, List.map_append]
  rfl
section
variable {X : Cx} {G : Addr → Prop} {ρ : List Sv} {J : As G} {D : Ends} {L : List (List Addr × Hp)} {A : As G}
/-- o['k'] -/
theorem ed_dget {o : Expr} {k : Str} {d : Addr} {ns : List Str} {ρd : List Sv} {r : Sv} {jk n : Nat} {p2 pos : Pos} (j : Nat) (hr : Room n X.A) (ho : Ed X G o ρ J (.v (.ref d))) (hI : ∀ H, J.P H → DAt X.K H d ns ρd) (hnd : ns.Nodup) (hj : ns[j]? = some k := by rfl) (hd : ρd[j]? = some r := by rfl) : Ed X G (.Subscript o (.Constant (.str k) jk p2) pos) ρ J r := fun σ H Q s t jj q => by
  refine ⟨_, pe_dget (hu_of hr) pe_c pe_str (fun _ _ => rfl), ho σ H _ s t jj fun v H1 s1 g1 => ?_⟩
  cases s1
  obtain ⟨vs, h1, h2, h3⟩ := hI H1 (J.up g1 t jj)
  obtain ⟨v, h4, h5⟩ := h3.get hd
  refine ⟨d, v, rfl, ?_, q v H1 h5 g1⟩
  rw [← valV_kvs hnd hj h4]
  exact DGet.k (k := .inr k) h1
/-- a store, the key new or not -/
inductive DPutAt (k : Str) (r : Sv) : List Str → List Sv → List Str → List Sv → Prop
  | old {ns : List Str} {ρo : List Sv} (j : Nat) : ns.Nodup → ns[j]? = some k → DPutAt k r ns ρo ns (ρo.set j r)
  | new {ns : List Str} {ρo : List Sv} : k ∉ ns → DPutAt k r ns ρo (ns ++ [k]) (ρo ++ [r])
theorem DPutAt.do_ {K : PySem.W.Frag} {k : Str} {r : Sv} {ns ns' : List Str} {ρo ρo' : List Sv} (p : DPutAt k r ns ρo ns' ρo') {H : Hp} {d : Addr} {vs : List V} {y : V} (h1 : H d = some (.dK (kvsOf ns vs))) (h2 : vs.length = ns.length) (h3 : SvA K H ρo vs) (hy : SvOk K H r (some y)) :
    DAt K (upd H d (.dK (putK (kvsOf ns vs) (.inr k : Key) y))) d ns' ρo' := by
  cases p with
  | old j hn hj =>
    refine ⟨vs.set j y, ?_, by rw [List.length_set, h2], SvA.at_ h1 trivial (fun _ z => by cases z) (h3.set j hy)⟩
    rw [upd_same, putK_kvs hn hj h2]
  | new hn =>
    refine ⟨vs ++ [y], ?_, by rw [List.length_append, List.length_append, h2] <;> rfl, SvA.at_ h1 trivial (fun _ z => by cases z) (h3.app1 hy)⟩
    rw [upd_same, putK_new hn h2]
theorem kvsOf_len {ns : List Str} {vs : List V} (h : vs.length = ns.length) : (kvsOf ns vs).length = ns.length := by
  unfold kvsOf
  rw [List.length_map, List.length_zip, h, Nat.min_self]
theorem f_dput {B : As G} {o e : Expr} {k : Str} {d : Addr} {ns ns' : List Str} {ρo ρo' : List Sv} {r : Sv} {jk n : Nat} {p2 pos pos' : Pos} (hr : Room n X.A) (pt : DPutAt k r ns ρo ns' ρo') (he : Ed X G e ρ (Jl L A) r) (ho : Ed X G o ρ (Jl L A) (.v (.ref d))) (hI : ∀ H, A.P H → DAt X.K H d ns ρo) (hm : Mu L [d])
    (hB : ∀ H H', A.P H → Tb G H → Gr G [d] H H' → DAt X.K H' d ns' ρo' → B.P H') (kk : Fin X D.nx ρ (Jl L B)) (hsz : ns.length < 1000 := by decide)
    (hs : swapsWith e (some (.Subscript o (.Constant (.str k) jk p2) pos')) pos.line X.env = pure false := by rfl) : Fin X (cS X (.Assign [.Subscript o (.Constant (.str k) jk p2) pos'] e pos) D) ρ (Jl L A) := fun σ H s t j => by
  refine ⟨_, ps_dput (hu_of hr) pe_c pe_str pe_c hs, he σ H _ s t j fun y H1 s1 g1 => ho σ H1 _ (s.g0 g1 t) (t.up g1) ((Jl L _).up g1 t j) fun v H2 s2 g2 => ?_⟩
  cases s2
  have g := g1.trans g2
  have j2 := (Jl L _).up g t j
  obtain ⟨vs, h1, h2, h3⟩ := hI _ j2.2
  refine ⟨d, _, rfl, DPut.k (k := .inr k) h1 (by rw [kvsOf_len h2]; exact Nat.lt_of_lt_of_le hsz (by decide)), ?_⟩
  have g3 : Gr G [d] H2 (upd H2 d (.dK (putK (kvsOf ns vs) (.inr k : Key) y))) := Gr.put h1 trivial (by simp)
  exact kk σ _ (Sl.at_ h1 trivial (fun _ z => by cases z) (s.g0 g t)) ((t.up g).up g3) (Jl.step j2 g3 hm (hB _ _ j2.2 (t.up g) g3 (pt.do_ h1 h2 h3 (s1.g0 g2 (t.up g1)))))
theorem f_dputN {B : Addr → As G} {o e : Expr} {k : Str} {d : Addr} {ns ns' : List Str} {ρo : List Sv} {ρo' : Addr → List Sv} {ds : List PyData} {jk n : Nat} {p2 pos pos' : Pos} (hr : Room n X.A) (pt : ∀ a, DPutAt k (.l a ds) ns ρo ns' (ρo' a)) (he : En X G e ρ (Jl L A) ds) (ho : Ed X G o ρ (Jl L A) (.v (.ref d))) (hI : ∀ H, A.P H → DAt X.K H d ns ρo) (hm : Mu L [d])
    (hB : ∀ a, (∀ b, (∀ H, A.P H → ∃ o, H b = some o) → b ≠ a) → ∀ H H', A.P H → Tb G H → Gr G [d] H H' → DAt X.K H' d ns' (ρo' a) → (B a).P H') (kk : ∀ a, Fin X D.nx ρ (Jl L (B a))) (hsz : ns.length < 1000 := by decide)
    (hs : swapsWith e (some (.Subscript o (.Constant (.str k) jk p2) pos')) pos.line X.env = pure false := by rfl) : Fin X (cS X (.Assign [.Subscript o (.Constant (.str k) jk p2) pos'] e pos) D) ρ (Jl L A) := fun σ H s t j => by
  refine ⟨_, ps_dput (hu_of hr) pe_c pe_str pe_c hs, he σ H _ s t j fun a H1 na s1 g1 => ho σ H1 _ (s.g0 g1 t) (t.up g1) ((Jl L _).up g1 t j) fun v H2 s2 g2 => ?_⟩
  cases s2
  have g := g1.trans g2
  have j2 := (Jl L _).up g t j
  obtain ⟨vs, h1, h2, h3⟩ := hI _ j2.2
  refine ⟨d, _, rfl, DPut.k (k := .inr k) h1 (by rw [kvsOf_len h2]; exact Nat.lt_of_lt_of_le hsz (by decide)), ?_⟩
  have g3 : Gr G [d] H2 (upd H2 d (.dK (putK (kvsOf ns vs) (.inr k : Key) (.ref a)))) := Gr.put h1 trivial (by simp)
  have hn : ∀ b, (∀ H, A.P H → ∃ o, H b = some o) → b ≠ a := fun b hb z => by
    obtain ⟨o, e⟩ := hb H j.2
    rw [z, na] at e
    cases e
  exact kk a σ _ (Sl.at_ h1 trivial (fun _ z => by cases z) (s.g0 g t)) ((t.up g).up g3) (Jl.step j2 g3 hm (hB a hn _ _ j2.2 (t.up g) g3 ((pt a).do_ h1 h2 h3 (s1.g0 g2 (t.up g1)))))
/-- the address of what came back -/
def vA : Sv → List Addr
  | .v (.ref a) => [a]
  | .l a _ => [a]
  | _ => []
theorem f_setKF (i : Nat) {e : Expr} {Post : Sv → As G → Prop} {x : Str} {pos pos' : Pos} (h : Ek X G e ρ (Jl L A) Post) (k : ∀ r J', Post r J' → Mu L (vA r) → Fin X D.nx (ρ.set i r) J') (hN : X.N.Nodup) (hi : X.N[i]? = some x := by rfl) (hx : Loc X.env.scope x := by first | exact Or.inl rfl | exact Or.inr rfl)
    (hs : swapsWith e (some (.Name x pos')) pos.line X.env = pure false := by rfl) (hf : X.fn x = true ∨ X.env.scope.names.lookup x = some .local := by first | exact .inl rfl | exact .inr rfl) : Fin X (cS X (.Assign [.Name x pos'] e pos) D) ρ (Jl L A) := fun σ H s t j =>
  ⟨_, ps_set hN hi hx pe_c hs hf, h σ H _ s t j fun r J' v H1 p s1 f sl t1 _ _ j1 => k r J' p (by
    cases r with
    | l a ds => exact Jl.fresh j f
    | v x => cases x <;> first | exact Mu.emp | exact Jl.fresh j f
    | _ => exact Mu.emp) _ H1 (sl.set i s1) t1 j1⟩
end
/-! ### the law's world -/
def dN5 : List Str := ["wheel", "shelf", "stand", "heard", "spoken"]
def dN : List Str := ["wheel", "shelf", "stand", "heard", "spoken", "manner"]
theorem dN_nd : dN.Nodup := by decide +kernel
def dFs5 (w : Wd) (sh he sp : Addr) : List Sv := [.d (eWh w.wheel), .l sh (w.shelf.map eNote), .d (eSt w.stand), .l he (w.heard.map eH), .l sp (w.spoken.map eL)]
def dFs (mn : Man) (w : Wd) (sh he sp : Addr) : List Sv := [.d (eWh w.wheel), .l sh (w.shelf.map eNote), .d (eSt w.stand), .l he (w.heard.map eH), .l sp (w.spoken.map eL), .d (eMan mn)]
/-- .. its lists told by addresses, none of them in NB -/
def aDx (G : Addr → Prop) (K : PySem.W.Frag) (NB : List Addr) (d : Addr) (mn : Man) (w : Wd) (sh he sp : Addr) : As G := ⟨fun H => DAt K H d dN (dFs mn w sh he sp) ∧ (sh ∉ NB ∧ he ∉ NB ∧ sp ∉ NB) ∧ (As.live G NB).P H, fun g t h => ⟨(As.dct G K d dN (dFs mn w sh he sp)).up g t h.1, h.2.1, live_gr h.2.2 g⟩⟩
def aD (G : Addr → Prop) (K : PySem.W.Frag) (NB : List Addr) (d : Addr) (mn : Man) (w : Wd) : As G := ⟨fun H => ∃ sh he sp, (aDx G K NB d mn w sh he sp).P H, fun g t h => by
  obtain ⟨a, b, c, h⟩ := h
  exact ⟨a, b, c, (aDx G K NB d mn w a b c).up g t h⟩⟩
section
variable {P : Program} {w : World} {K : PySem.W.Frag} {mg : Str → Option Value} {base : Heap} {G : Addr → Prop}
def fLW (K : PySem.W.Frag) : List Sv → As G → List Addr → (Sv → As G → Prop) → Prop := fun rs A ms Post => ∃ NB : List Addr, rs = [] ∧ A = As.live G NB ∧ ms = [] ∧ Post = fun r B => ∃ d sh he sp, r = .v (.ref d) ∧ (sh ∉ NB ∧ he ∉ NB ∧ sp ∉ NB) ∧ B = (As.dct G K d dN5 (dFs5 w0 sh he sp)).and (As.live G NB)
theorem scLW : FnScope [] [] (defScope (top 51)) := ⟨rfl, rfl, rfl, by decide +kernel, rfl, by decide +kernel, by decide +kernel⟩
theorem ok_lw (h : Dg K mg "_law_world" (top 51)) : Cal P w K mg base 1 "_law_world" (spS K G (fLW K)) [] :=
  cal_of h (fun f fd F => ok_S F scLW (fun rs A ms Post ⟨_, e, _⟩ => by rw [e] <;> rfl) fun c' A' outer s H E0 hcd hr rs A ms Post vs Q hR sa ha q => by
    obtain ⟨NB, rfl, rfl, rfl, rfl⟩ := hR
    refine f_one fun σ H1 sl t j => ?_
    refine ⟨_, ps_ret (pe_disp (pps_cons pe_str pe_c (pps_cons pe_str pe_c (pps_cons pe_str pe_c (pps_cons pe_str pe_c (pps_cons pe_str pe_c pps_nil))))) (by rfl) (by rfl) (fun z => by cases z) (by decide)), fun p np => ?_⟩
    have g0 : Gr G [] H1 (upd H1 p (.dK [])) := Gr.new np
    let X := (cxOf CX0 P w K mg base [] "_law_world" (defScope (top 51)) f (.ref c') A' outer s H E0).nox
    have e1 : ∀ {J : As G} {p1 p2 p3 : Pos} {k1 k2 k3 : Nat}, Ed X G (.Tuple [.Constant (.int 0) k1 p1, .Constant .none k2 p2] k3 p3) [] J (.d (eWh (0, none))) := ed_tup (ds := [eN 0, .none]) (ea_cons ed_int (ea_cons ed_non ea_nil)) (by simp)
    refine e1 (J := Jl [] As.tt) σ _ _ (sl.g0 g0 t) (t.up g0) ⟨fun _ h => (nomatch h), trivial⟩ fun v1 H2 s2 g2 => ?_
    have t2 := (t.up g0).up g2
    have sl2 := sl.g0 (g0.trans g2) t
    refine (en_lst (X := X) (ds := [eNote ⟨0, none, [], 0⟩]) (ρ := []) (J := Jl [] As.tt) (ea_cons (ed_tup (ds := [eN 0, .none, eL [], eN 0]) (ea_cons ed_int (ea_cons ed_non (ea_cons (ed_tup (ds := []) ea_nil (by decide)) (ea_cons ed_int ea_nil)))) (by simp)) ea_nil) (by simp)) σ H2 _ sl2 t2 ⟨fun _ h => (nomatch h), trivial⟩ fun a1 H3 n1 s3 g3 => ?_
    have t3 := t2.up g3
    refine (ed_tup (X := X) (ds := [sS "off"]) (ρ := []) (J := Jl [] As.tt) (ea_cons ed_str ea_nil) (by simp)) σ H3 _ (sl2.g0 g3 t2) t3 ⟨fun _ h => (nomatch h), trivial⟩ fun v3 H4 s4 g4 => ?_
    have t4 := t3.up g4
    refine (en_lst (X := X) (ds := []) (ρ := []) (J := Jl [] As.tt) ea_nil (by simp)) σ H4 _ (sl2.g0 (g3.trans g4) t2) t4 ⟨fun _ h => (nomatch h), trivial⟩ fun a2 H5 n2 s5 g5 => ?_
    have t5 := t4.up g5
    refine (en_lst (X := X) (ds := []) (ρ := []) (J := Jl [] As.tt) ea_nil (by simp)) σ H5 _ (sl2.g0 (g3.trans (g4.trans g5)) t2) t5 ⟨fun _ h => (nomatch h), trivial⟩ fun a3 H6 n3 s6 g6 => ?_
    have t6 := t5.up g6
    have m1 : a1 ∉ NB := live_not (live_gr j.2 (g0.trans g2)) n1
    have m2 : a2 ∉ NB := live_not (live_gr j.2 (g0.trans (g2.trans (g3.trans g4)))) n2
    have m3 : a3 ∉ NB := live_not (live_gr j.2 (g0.trans (g2.trans (g3.trans (g4.trans g5))))) n3
    have gA := g2.trans (g3.trans (g4.trans (g5.trans g6)))
    have hp : H6 p = some (.dK []) := gA.keep p _ upd_same (not_tab (t.up g0) upd_same (fun q z => by cases z)) (by simp)
    refine ⟨hp, [(.inr "wheel", v1), (.inr "shelf", .ref a1), (.inr "stand", v3), (.inr "heard", .ref a2), (.inr "spoken", .ref a3)], rfl, by simp, ?_⟩
    have s1 : SvA K H6 (dFs5 w0 a1 a2 a3) [v1, .ref a1, v3, .ref a2, .ref a3] := ⟨s2.g0 (g3.trans (g4.trans (g5.trans g6))) t2, s3.g0 (g4.trans (g5.trans g6)) t3, s4.g0 (g5.trans g6) t4, s5.g0 g6 t5, s6, trivial⟩
    have em : mergeK [] [((.inr "wheel" : Key), v1), (.inr "shelf", .ref a1), (.inr "stand", v3), (.inr "heard", .ref a2), (.inr "spoken", .ref a3)] = kvsOf dN5 [v1, .ref a1, v3, .ref a2, .ref a3] := rfl
    rw [em]
    have gB : Gr G [] H1 (upd H6 p (.dK (kvsOf dN5 [v1, .ref a1, v3, .ref a2, .ref a3]))) := Gr.mut (g0.trans gA) np hp trivial
    refine q (.v (.ref p)) _ (.ref p) _ ⟨p, a1, a2, a3, rfl, ⟨m1, m2, m3⟩, rfl⟩ rfl ((j.1 _ List.mem_cons_self).dom p np) (t.up gB) ⟨fun z hz => by rw [List.mem_singleton.mp hz]; exact (j.1 _ List.mem_cons_self).trans gB, ⟨_, upd_same, rfl, SvA.at_ hp trivial (fun _ z => by cases z) s1⟩, live_gr j.2 gB⟩)
    fun _ _ _ _ _ _ us hl => match us, hl with | [], _ => rfl
end
end Wb

namespace Wb
open PySem PySem.Spec PyProof.Rows L2
section
variable {X : Cx} {G : Addr → Prop} {ρ : List Sv} {J : As G} {D : Ends} {L : List (List Addr × Hp)}
theorem en_if {c a b : Expr} {x : Bool} {ds : List PyData} {pos : Pos} (h : Et X G c ρ J x) (h1 : x = true → En X G a ρ J ds) (h2 : x = false → En X G b ρ J ds) : En X G (.IfExp c a b pos) ρ J ds := fun σ H Q hs ht hj q =>
  ⟨_, pe_ifExp pt_c pe_c pe_c, h σ H _ hs ht hj fun H1 g1 => by
    cases x with
    | true => exact h1 rfl σ H1 Q (hs.g0 g1 ht) (ht.up g1) (J.up g1 ht hj) fun a H2 n s2 g2 => q a H2 (g1.free n) s2 (g1.trans g2)
    | false => exact h2 rfl σ H1 Q (hs.g0 g1 ht) (ht.up g1) (J.up g1 ht hj) fun a H2 n s2 g2 => q a H2 (g1.free n) s2 (g1.trans g2)⟩
/-- world['k'] -/
theorem ed_wd {o : Expr} {k : Str} {NB : List Addr} {d sh he sp : Addr} {mn : Man} {wd : Wd} {r : Sv} {jk n : Nat} {p2 pos : Pos} (j : Nat) (hr : Room n X.A) (hI : ∀ H, J.P H → (aDx G X.K NB d mn wd sh he sp).P H) (ho : Ed X G o ρ J (.v (.ref d))) (hj : dN[j]? = some k := by rfl) (hd : (dFs mn wd sh he sp)[j]? = some r := by rfl) : Ed X G (.Subscript o (.Constant (.str k) jk p2) pos) ρ J r :=
  ed_dget j hr ho (fun H h => (hI H h).1) dN_nd hj hd
theorem dI {K : PySem.W.Frag} {NB : List Addr} {d sh he sp : Addr} {mn : Man} {wd : Wd} : ∀ H, (Jl L (aDx G K NB d mn wd sh he sp)).P H → (aDx G K NB d mn wd sh he sp).P H := fun _ h => h.2
theorem dIA {K : PySem.W.Frag} {NB : List Addr} {d sh he sp : Addr} {mn : Man} {wd : Wd} : ∀ H, (Jl L (aDx G K NB d mn wd sh he sp)).P H → (aD G K NB d mn wd).P H := fun _ h => ⟨sh, he, sp, h.2⟩
/-- the world's lists named -/
theorem f_open {Y : L2.St → Hp → Prop} {NB : List Addr} {d : Addr} {mn : Man} {wd : Wd} (h : ∀ sh he sp, Fin X Y ρ (Jl L (aDx G X.K NB d mn wd sh he sp))) : Fin X Y ρ (Jl L (aD G X.K NB d mn wd)) := fun σ H s t j => by
  obtain ⟨sh, he, sp, hh⟩ := j.2
  exact h sh he sp σ H s t ⟨j.1, hh⟩
end
section
variable {P : Program} {w : World} {K : PySem.W.Frag} {mg : Str → Option Value} {base : Heap} {G : Addr → Prop}
/-- what only looks at the law's world -/
def fD (K : PySem.W.Frag) (f : Man → Wd → List Sv → PyData → Prop) : List Sv → As G → List Addr → (Sv → As G → Prop) → Prop := fun rs A ms Post => ∃ (NB : List Addr) (d : Addr) (mn : Man) (wd : Wd) (args : List Sv) (res : PyData), f mn wd args res ∧ rs = .v (.ref d) :: args ∧ A = aD G K NB d mn wd ∧ ms = [] ∧ Post = fun r B => r = .d res ∧ B = aD G K NB d mn wd
theorem ed_d {X : Cx} {ρ : List Sv} {J : As G} {f : Man → Wd → List Sv → PyData → Prop} {NB : List Addr} {d : Addr} {mn : Man} {wd : Wd} {args : List Sv} {res : PyData} {x : Str} {k : Nat} {p pos : Pos} {e : Expr} {es : List Expr} (C : Cal X.prog X.w X.K X.mg X.base k x (spS X.K G (fD X.K f)) []) (hr : Room k X.A) (ha : Ea X G (e :: es) ρ J (.v (.ref d) :: args)) (hf : f mn wd args res) (hJA : ∀ H, J.P H → (aD G X.K NB d mn wd).P H)
    (hg : Gl X x := by rfl) (hdb : (x == ("__debug__" : Str)) = false := by decide) (he : starEach (e :: es) X.env = (false, eval e X.env) :: starEach es X.env := by rfl) (hpl : (backTo pos (starEach es X.env)).any (·.1) = false := by rfl) : Ed X G (.Call (.Name x p) (e :: es) [] pos) ρ J (.d res) :=
  ed_callS (ss := []) (A := aD G X.K NB d mn wd) (P0 := fun r B => r = .d res ∧ B = aD G X.K NB d mn wd) C hr ha (fun _ => trivial) (by rw [List.append_nil]; exact ⟨NB, d, mn, wd, args, res, hf, rfl, rfl, rfl, rfl⟩) hJA (fun _ _ h => h.1) hg hdb he hpl
/-! ### _law_bad_world -/
def fBW (K : PySem.W.Frag) : List Sv → As G → List Addr → (Sv → As G → Prop) → Prop := fun rs A ms Post => ∃ (NB : List Addr) (mn : Man), rs = [.d (eMan mn)] ∧ A = As.live G NB ∧ ms = [] ∧ Post = fun r B => ∃ d, r = .v (.ref d) ∧ B = aD G K NB d mn w0
theorem scBW : FnScope ["_law_manner", "_law_world_here"] ["_law_manner"] (defScope (top 52)) := ⟨rfl, rfl, rfl, by decide +kernel, rfl, by decide +kernel, by decide +kernel⟩
theorem ok_bw (cW : Cal P w K mg base 1 "_law_world" (spS K G (fLW K)) []) (h : Dg K mg "_law_bad_world" (top 52)) : Cal P w K mg base 2 "_law_bad_world" (spS K G (fBW K)) [] :=
  cal_of h (fun f fd F => ok_S F scBW (fun rs A ms Post ⟨_, _, e, _⟩ => by rw [e] <;> rfl) fun c' A' outer s H E0 hcd hr rs A ms Post vs Q hR sa ha q => by
    obtain ⟨NB, mn, rfl, rfl, rfl, rfl⟩ := hR
    refine f_cons (f_setKF 1 (ek_call0 (ss := []) (ms := []) (A := As.live G NB) (P0 := fun r B => ∃ d sh he sp, r = .v (.ref d) ∧ (sh ∉ NB ∧ he ∉ NB ∧ sp ∉ NB) ∧ B = (As.dct G K d dN5 (dFs5 w0 sh he sp)).and (As.live G NB)) (Post := fun r J' => ∃ d sh he sp, r = .v (.ref d) ∧ (sh ∉ NB ∧ he ∉ NB ∧ sp ∉ NB) ∧ J' = Jl [([], H)] ((As.dct G K d dN5 (dFs5 w0 sh he sp)).and (As.live G NB))) cW hr (fun _ => trivial) ⟨NB, rfl, rfl, rfl, rfl⟩ (fun _ h => h.2) ⟨trivial, trivial, trivial⟩ (fun r B H1 H2 p j t g b => ?_)) (fun r J' p mu => ?_) scBW.nd)
    · obtain ⟨d, sh, he, sp, rfl, n, rfl⟩ := p
      exact ⟨_, ⟨d, sh, he, sp, rfl, n, rfl⟩, Jl.step j g Mu.emp b⟩
    · obtain ⟨d, sh, he, sp, rfl, n, rfl⟩ := p
      refine f_cons (f_dput (B := aDx G K NB d mn w0 sh he sp) (ns' := dN) (ρo' := dFs mn w0 sh he sp) hr (.new (by decide)) (ed_name 0) (ed_name 1) (fun H h => h.1) mu (fun H1 H2 hA _ g hd => ⟨hd, n, live_gr hA.2 g⟩) ?_)
      exact f_one (r_ed q (ed_name 1) ⟨d, rfl, rfl⟩ (hAB := fun H h => ⟨sh, he, sp, h⟩) (hF := (mu _ List.mem_cons_self d (by simp [vA])).elim (fun z => nomatch z) id)))
    fun _ _ _ _ _ _ us hl => match us, hl with | [_], _ => rfl
/-! ### _law_small -/
def gSmall (args : List Sv) (row : Addr) (z : PyData) : Prop := args = [] ∧ ∃ m k t, House m k t ∧ z = .tuple [eM m, eN k, eT t]
theorem scSmall : FnScope ["_law_row_here", "_law_machine_here", "_law_marks"] ["_law_row_here"] (defScope (top 50)) := ⟨rfl, rfl, rfl, by decide +kernel, rfl, by decide +kernel, by decide +kernel⟩
theorem ok_small (E : Ev K mg) (cTaken : Cal P w K mg base 1 "_law_taken" (spS K G (fDraw K gTaken)) []) (cM : Cal P w K mg base 3 "_law_machine" (spS K G (fDraw K gMachine)) []) (cT : Cal P w K mg base 3 "_law_table" (spS K G (fDraw K gTable)) []) (h : Dg K mg "_law_small" (top 50)) : Cal P w K mg base 4 "_law_small" (spS K G (fDraw K gSmall)) [] :=
  cal_of h (fun f fd F => ok_S F scSmall (fun rs A ms Post ⟨_, _, _, _, ⟨_, e, _⟩, e2, _⟩ => by rw [e2, e] <;> rfl) fun c' A' outer s H E0 hcd hr rs A ms Post vs Q hR sa ha q => by
    obtain ⟨row, sca, ns, args, ⟨z, rfl, _⟩, rfl, rfl, rfl, rfl⟩ := hR
    have m1 : MachOk [[]] := ⟨by simp, by simp, by simp⟩
    refine f_cons (f_parKK 1 2 (Pd := fun d => ∃ m, MachOk m ∧ d = eM m) (Pe := fun d => ∃ n, n < 3 ∧ d = eN (1 + n)) (Ek.mono (ek_draw (args := [.d (.int 3), .d (.int 3)]) cM hr (ea_cons (ed_name 0) (ea_cons ed_int (ea_cons ed_int ea_nil))) ⟨_, rfl, _, m1, rfl⟩ muA ⟨trivial, trivial, trivial, trivial⟩) (fun r J' p => ?_)) (ek_tk1 (m := 3) (j := 1) ed_int (ek_tk cTaken hr (ed_name 0) (ed_int (i := 3)) (by decide) (by decide) muA ⟨trivial, trivial, trivial, trivial⟩)) (fun d e hd he => ?_) scSmall.nd)
    · obtain ⟨⟨z, ⟨_, m, hm, rfl⟩, rfl⟩, rfl⟩ := p
      exact ⟨_, rfl, ⟨m, hm, rfl⟩, rfl⟩
    · obtain ⟨m, hm, rfl⟩ := hd
      obtain ⟨n, hn, rfl⟩ := he
      obtain ⟨t0, ht0⟩ := House.some (k := 1 + n) hm (by omega) (by omega)
      refine f_one (r_ek q (ek_tup3 (Pd := fun d => ∃ t, House m (1 + n) t ∧ d = eT t) (Post := fun r J' => ∃ t, House m (1 + n) t ∧ r = .d (.tuple [eM m, eN (1 + n), eT t]) ∧ J' = Jl [([row], H)] (RowA G K row sca ns)) (ed_name 1) (ed_name 2) (Ek.mono (ek_draw (args := [.d (eM m), .d (eN (1 + n)), .d (.int 2)]) cT hr (ea_cons (ed_name 0) (ea_cons (ed_name 1) (ea_cons (ed_name 2) (ea_cons ed_int ea_nil)))) ⟨_, m, 1 + n, hm, by omega, by omega, rfl, t0, ht0, rfl⟩ muA ⟨trivial, trivial, trivial, trivial⟩) (fun r J' p => ?_)) (fun z hz => ?_)) (fun r J' p => ?_))
      · obtain ⟨⟨z, ⟨m', k', _, _, _, e, t, ht, rfl⟩, rfl⟩, rfl⟩ := p
        injection e with e1 e2
        injection e1 with e1
        injection e2 with e2 e3
        injection e2 with e2
        have e2 := eN_inj e2
        have e1 : m = m' := by
          have hi : ∀ a b : List (Nat × Word), eS a = eS b → a = b := fun a b h => by
            unfold eS at h
            injection h with h
            refine map_inj (fun x y hxy => ?_) h
            obtain ⟨x1, x2⟩ := x
            obtain ⟨y1, y2⟩ := y
            unfold eO at hxy
            injection hxy with hxy
            injection hxy with h1 hxy
            injection hxy with h2 hxy
            have h1 : x1 = y1 := eN_inj h1
            have h2 : x2 = y2 := by
              cases x2 <;> cases y2
              · rfl
              · cases h2
              · cases h2
              · injection h2 with h2
                rw [h2]
            rw [h1, h2]
          unfold eM at e1
          injection e1 with e1
          exact map_inj hi e1
        subst e1 e2
        exact ⟨_, rfl, ⟨t, ht, rfl⟩, rfl⟩
      · obtain ⟨t, ht, rfl⟩ := hz
        exact ⟨t, ht, rfl, rfl⟩
      · obtain ⟨t, ht, rfl, rfl⟩ := p
        exact ⟨_, ⟨⟨_, ⟨rfl, m, 1 + n, t, ht, rfl⟩, rfl⟩, rfl⟩, fun H j => j⟩)
    fun _ _ _ _ _ _ us hl => match us, hl with | [_], _ => rfl
/-! ### _law_state_behind -/
theorem scLBehind : FnScope ["_law_machine_here", "_law_life", "_law_state", "_law_option"] ["_law_machine_here", "_law_life"] (defScope (top 60)) := ⟨rfl, rfl, rfl, by decide +kernel, rfl, by decide +kernel, by decide +kernel⟩
theorem ok_lbehind (h : Dg K mg "_law_state_behind" (top 60)) : Cal P w K mg base 1 "_law_state_behind" (spS K G (Pu fBehind)) [] :=
  cal_of h (fun f fd F => ok_S F scLBehind (fun rs A ms Post ⟨r, ⟨_, _, _, _, e, _⟩, _⟩ => by rw [e] <;> rfl) fun c A' outer s H E0 hcd hr rs A ms Post vs Q hR sa ha q => by
    obtain ⟨r, ⟨m, l, h1, h2, rfl, rfl⟩, rfl, rfl, rfl⟩ := hR
    refine f_cons (f_set 2 (r := .d (eN 0)) ed_int ?_ scLBehind.nd)
    refine f_cons (f_forP 3 [] (ep_tup (ds := l.map eN) (ed_name 1)) (fun n ρ A => A = As.tt ∧ ∃ u, ρ = [.d (eM m), .d (eL l), .d (eN (behind m (l.take n))), u]) ⟨rfl, .u, rfl⟩ (fun H1 n d ρ A' hd hI => ?_) (fun ρ A' hI => ?_) scLBehind.nd)
    · obtain ⟨rfl, u, rfl⟩ := hI
      obtain ⟨o, ho, rfl⟩ := map_at' hd
      obtain ⟨st, op, e1, e2, e3⟩ := opt_of (lv_at h1 ho)
      refine f_one (f_set 2 (r := .d (eN op.1)) (ed_ixc (ds := [eN op.1, eW op.2]) (ed_ix (ds := st.map eO) (d := eO op) (i := o) (ed_ix (ds := m.map eS) (d := eS st) (i := behind m (l.take n)) (ed_name 0) (ed_name 2) (map_at e1)) (ed_name 3) (map_at e2)) rfl) (f_next ⟨rfl, .d (eN o), ?_⟩) scLBehind.nd)
      rw [take_snoc ho, behind_snoc]
      unfold nxt
      rw [e3] <;> rfl
    · obtain ⟨rfl, u, rfl⟩ := hI
      rw [List.length_map, List.take_length]
      exact f_one (r_ed q (ed_name 2) ⟨rfl, rfl⟩))
    fun _ _ _ _ _ _ us hl => match us, hl with | [_, _], _ => rfl
/-! ### _law_bad_fits -/
def fBF (mn : Man) (wd : Wd) (args : List Sv) (res : PyData) : Prop := ∃ x : Note, args = [.d (eNote x)] ∧ res = .bool (fits mn wd x)
theorem scBF : FnScope ["_law_world_here", "_law_note"] ["_law_world_here", "_law_note"] (defScope (top 56)) := ⟨rfl, rfl, rfl, by decide +kernel, rfl, by decide +kernel, by decide +kernel⟩
theorem eqvOm (a b : Option Nat) : PyData.eqv (eOm a) (eOm b) = decide (a = b) := cn_eqvB (n := 0) (cn_Om 0 a) (cn_Om 0 b) ⟨eOm_inj, fun h => by rw [h]⟩
theorem ok_bf (h : Dg K mg "_law_bad_fits" (top 56)) : Cal P w K mg base 1 "_law_bad_fits" (spS K G (fD K fBF)) [] :=
  cal_of h (fun f fd F => ok_S F scBF (fun rs A ms Post ⟨_, _, _, _, _, _, ⟨_, e, _⟩, e2, _⟩ => by rw [e2, e] <;> rfl) fun c A' outer s H E0 hcd hr rs A ms Post vs Q hR sa ha q => by
    obtain ⟨NB, d, mn, wd, args, res, ⟨x, rfl, rfl⟩, rfl, rfl, rfl, rfl⟩ := hR
    refine f_open fun sh he sp => ?_
    have toA : ∀ H, (aDx G K NB d mn wd sh he sp).P H → (aD G K NB d mn wd).P H := fun H h => ⟨sh, he, sp, h⟩
    refine f_cons (f_if (x := decide (mn = .opn)) (Et.to (et_eq (d := eMan mn) (e := sS (mS .opn)) hr (ed_wd 5 hr dI (ed_name 0)) ed_str (es_man _) (es_man _)) (eqvMan _ _)) (fun e => ?_) fun e => f_nil ?_)
    · have e := of_decide_eq_true e
      refine f_one (r_ed q ed_bl ⟨?_, rfl⟩ (hAB := toA))
      simp [fits, e]
    have e0 := of_decide_eq_false e
    refine f_one (r_ed q (ed_and (ed_eq (d := eN x.num) (e := eN wd.wheel.1) hr (ed_ixc (ds := [eN x.num, eOm x.mark, eL x.life, eN x.done]) (ed_name 1) rfl) (ed_ixc (ds := [eN wd.wheel.1, eOm wd.wheel.2]) (ed_wd 0 hr dI (ed_name 0)) rfl) rfl rfl) fun _ => ed_one (ed_or (Ed.to (ed_eq (d := eMan mn) (e := sS (mS .counted)) hr (ed_wd 5 hr dI (ed_name 0)) ed_str (es_man _) (es_man _)) (by rw [eqvMan])) fun _ => ed_one (ed_eq (d := eOm x.mark) (e := eOm wd.wheel.2) hr (ed_ixc (ds := [eN x.num, eOm x.mark, eL x.life, eN x.done]) (ed_name 1) rfl) (ed_ixc (ds := [eN wd.wheel.1, eOm wd.wheel.2]) (ed_wd 0 hr dI (ed_name 0)) rfl) (cn_shaped (cn_Om 0 _)) (cn_shaped (cn_Om 0 _))))) ⟨?_, rfl⟩ (hAB := toA))
    rw [eqvN, eqvOm]
    unfold fits
    cases mn with
    | opn => exact absurd rfl e0
    | counted => simp
    | _ =>
      congr 2
      rw [show decide (_ = Man.counted) = false from rfl, Bool.false_or]
      by_cases z1 : x.num = wd.wheel.1
      · by_cases z2 : x.mark = wd.wheel.2
        · simp [z1, z2]
        · simp [z1, z2, Prod.ext_iff]
      · simp [z1, Prod.ext_iff])
    fun _ _ _ _ _ _ us hl => match us, hl with | [_, _], _ => rfl
end
end Wb

namespace Wb
open PySem PySem.Spec PyProof.Rows L2
section
variable {X : Cx} {G : Addr → Prop} {ρ : List Sv} {J : As G} {D : Ends}
/-- a, b, c = e, a tuple of three -/
theorem f_unp3 (i j l : Nat) {x y z : Str} {e : Expr} {d1 d2 d3 : PyData} {px py pz pt pos : Pos} {kt : Nat} (h : Ed X G e ρ J (.d (.tuple [d1, d2, d3]))) (k : Fin X D.nx (((ρ.set i (.d d1)).set j (.d d2)).set l (.d d3)) J) (hN : X.N.Nodup) (hc : X.calm = true := by rfl) (hi : X.N[i]? = some x := by rfl) (hj : X.N[j]? = some y := by rfl) (hl : X.N[l]? = some z := by rfl)
    (hx : Loc X.env.scope x := by first | exact Or.inl rfl | exact Or.inr rfl) (hy : Loc X.env.scope y := by first | exact Or.inl rfl | exact Or.inr rfl) (hz : Loc X.env.scope z := by first | exact Or.inl rfl | exact Or.inr rfl) (fx : X.fn x = true ∨ X.env.scope.names.lookup x = some .local := by first | exact .inl rfl | exact .inr rfl) (fy : X.fn y = true ∨ X.env.scope.names.lookup y = some .local := by first | exact .inl rfl | exact .inr rfl) (fz : X.fn z = true ∨ X.env.scope.names.lookup z = some .local := by first | exact .inl rfl | exact .inr rfl)
    (hs : swapsWithSole [.Tuple [.Name x px, .Name y py, .Name z pz] kt pt] e pos.line X.env = pure false := by rfl) (hw : swappedStores [.Tuple [.Name x px, .Name y py, .Name z pz] kt pt] e X.env = pure none := by rfl) (h1 : (assignEach [.Tuple [.Name x px, .Name y py, .Name z pz] kt pt] X.env).map (·.2) = [assign (.Tuple [.Name x px, .Name y py, .Name z pz] kt pt) X.env] := by rfl)
    (h2 : (assignEach [.Name x px, .Name y py, .Name z pz] X.env).length = 3 := by rfl) (h3 : List.findIdx? (fun x => x.fst) (assignEach [.Name x px, .Name y py, .Name z pz] X.env) = none := by rfl) (h4 : List.map (fun x => x.snd) (assignEach [.Name x px, .Name y py, .Name z pz] X.env) = assign (.Name x px) X.env :: List.map (fun x => x.snd) (assignEach [.Name y py, .Name z pz] X.env) := by rfl)
    (h5 : List.map (fun x => x.snd) (assignEach [.Name y py, .Name z pz] X.env) = assign (.Name y py) X.env :: List.map (fun x => x.snd) (assignEach [.Name z pz] X.env) := by rfl) (h6 : List.map (fun x => x.snd) (assignEach [.Name z pz] X.env) = assign (.Name z pz) X.env :: List.map (fun x => x.snd) (assignEach [] X.env) := by rfl) : Fin X (cS X (.Assign [.Tuple [.Name x px, .Name y py, .Name z pz] kt pt] e pos) D) ρ J := fun σ H s t jj => by
  refine ⟨_, ps_asg pe_c (pg_tup hc (pgs_cons (pg_name (i := i) hN hi hx fx) (pgs_cons (pg_name (i := j) hN hj hy fy) (pgs_cons (pg_name (i := l) hN hl hz fz) pgs_nil h6) h5) h4) h2 h3) hs hw h1, h σ H _ s t jj fun v H1 s1 g1 => ?_⟩
  obtain ⟨_, e1, dd⟩ := s1
  cases e1
  obtain ⟨a, xs, rfl, st, da⟩ := dd.tup_inv
  cases da with
  | cons q1 da =>
    cases da with
    | cons q2 da =>
      cases da with
      | cons q3 da =>
        cases da
        exact ⟨a, _, rfl, st, rfl, _, _, rfl, _, _, rfl, _, _, rfl, rfl, k _ H1 ((((s.g0 g1 t).set (r := .d d1) i ⟨_, rfl, q1⟩).set (r := .d d2) j ⟨_, rfl, q2⟩).set (r := .d d3) l ⟨_, rfl, q3⟩) (t.up g1) (J.up g1 t jj)⟩
/-- .. what draws it -/
theorem f_unp3K {L : List (List Addr × Hp)} {A : As G} {Pd : PyData → PyData → PyData → Prop} (i j l : Nat) {x y z : Str} {e : Expr} {px py pz pt pos : Pos} {kt : Nat} (h : Ek X G e ρ (Jl L A) (fun r J' => ∃ d1 d2 d3, Pd d1 d2 d3 ∧ r = .d (.tuple [d1, d2, d3]) ∧ J' = Jl L A)) (k : ∀ d1 d2 d3, Pd d1 d2 d3 → Fin X D.nx (((ρ.set i (.d d1)).set j (.d d2)).set l (.d d3)) (Jl L A)) (hN : X.N.Nodup) (hc : X.calm = true := by rfl) (hi : X.N[i]? = some x := by rfl) (hj : X.N[j]? = some y := by rfl) (hl : X.N[l]? = some z := by rfl)
    (hx : Loc X.env.scope x := by first | exact Or.inl rfl | exact Or.inr rfl) (hy : Loc X.env.scope y := by first | exact Or.inl rfl | exact Or.inr rfl) (hz : Loc X.env.scope z := by first | exact Or.inl rfl | exact Or.inr rfl) (fx : X.fn x = true ∨ X.env.scope.names.lookup x = some .local := by first | exact .inl rfl | exact .inr rfl) (fy : X.fn y = true ∨ X.env.scope.names.lookup y = some .local := by first | exact .inl rfl | exact .inr rfl) (fz : X.fn z = true ∨ X.env.scope.names.lookup z = some .local := by first | exact .inl rfl | exact .inr rfl)
    (hs : swapsWithSole [.Tuple [.Name x px, .Name y py, .Name z pz] kt pt] e pos.line X.env = pure false := by rfl) (hw : swappedStores [.Tuple [.Name x px, .Name y py, .Name z pz] kt pt] e X.env = pure none := by rfl) (h1 : (assignEach [.Tuple [.Name x px, .Name y py, .Name z pz] kt pt] X.env).map (·.2) = [assign (.Tuple [.Name x px, .Name y py, .Name z pz] kt pt) X.env] := by rfl)
    (h2 : (assignEach [.Name x px, .Name y py, .Name z pz] X.env).length = 3 := by rfl) (h3 : List.findIdx? (fun x => x.fst) (assignEach [.Name x px, .Name y py, .Name z pz] X.env) = none := by rfl) (h4 : List.map (fun x => x.snd) (assignEach [.Name x px, .Name y py, .Name z pz] X.env) = assign (.Name x px) X.env :: List.map (fun x => x.snd) (assignEach [.Name y py, .Name z pz] X.env) := by rfl)
    (h5 : List.map (fun x => x.snd) (assignEach [.Name y py, .Name z pz] X.env) = assign (.Name y py) X.env :: List.map (fun x => x.snd) (assignEach [.Name z pz] X.env) := by rfl) (h6 : List.map (fun x => x.snd) (assignEach [.Name z pz] X.env) = assign (.Name z pz) X.env :: List.map (fun x => x.snd) (assignEach [] X.env) := by rfl) : Fin X (cS X (.Assign [.Tuple [.Name x px, .Name y py, .Name z pz] kt pt] e pos) D) ρ (Jl L A) := fun σ H s t jj => by
  refine ⟨_, ps_asg pe_c (pg_tup hc (pgs_cons (pg_name (i := i) hN hi hx fx) (pgs_cons (pg_name (i := j) hN hj hy fy) (pgs_cons (pg_name (i := l) hN hl hz fz) pgs_nil h6) h5) h4) h2 h3) hs hw h1, h σ H _ s t jj fun r J' v H1 p s1 _ sl1 t1 _ _ j1 => ?_⟩
  obtain ⟨d1, d2, d3, hP, rfl, rfl⟩ := p
  obtain ⟨_, e1, dd⟩ := s1
  cases e1
  obtain ⟨a, xs, rfl, st, da⟩ := dd.tup_inv
  cases da with
  | cons q1 da =>
    cases da with
    | cons q2 da =>
      cases da with
      | cons q3 da =>
        cases da
        exact ⟨a, _, rfl, st, rfl, _, _, rfl, _, _, rfl, _, _, rfl, rfl, k d1 d2 d3 hP _ H1 (((sl1.set (r := .d d1) i ⟨_, rfl, q1⟩).set (r := .d d2) j ⟨_, rfl, q2⟩).set (r := .d d3) l ⟨_, rfl, q3⟩) t1 j1⟩
end
/-! ### a life's marks, as the law tells them -/
def mstep (m : Mach) (t : Tabl) (z : Nat × List Nat) (o : Nat) : Nat × List Nat := (nxt m z.1 o, z.2 ++ rowAt t z.1 o)
def marksOf (m : Mach) (t : Tabl) (l : Life) : Nat × List Nat := l.foldl (mstep m t) (0, [])
theorem marks_snoc {m : Mach} {t : Tabl} {l : Life} {o : Nat} : marksOf m t (l ++ [o]) = mstep m t (marksOf m t l) o := by simp [marksOf]
theorem marks_st {m : Mach} {t : Tabl} (l : Life) : (marksOf m t l).1 = behind m l := by
  have key : ∀ (l : Life) (z : Nat × List Nat), (l.foldl (mstep m t) z).1 = l.foldl (nxt m) z.1 := by
    intro l
    induction l with
    | nil => intro z; rfl
    | cons o l ih => intro z; rw [List.foldl_cons, List.foldl_cons, ih] <;> rfl
  exact key l _
theorem marks_len {m : Mach} {t : Tabl} (l : Life) : (marksOf m t l).2.length = (tfold m t l).2.1 := by
  have key : ∀ (l : Life) (z : Nat × List Nat) (y : Nat × Nat × List (Nat × Str)), z.1 = y.1 → z.2.length = y.2.1 → (l.foldl (mstep m t) z).2.length = (l.foldl (tstep m t) y).2.1 := by
    intro l
    induction l with
    | nil => intro z y _ h; exact h
    | cons o l ih =>
      intro z y h1 h2
      rw [List.foldl_cons, List.foldl_cons]
      refine ih _ _ ?_ ?_
      · show nxt m z.1 o = nxt m y.1 o; rw [h1]
      · show (z.2 ++ rowAt t z.1 o).length = y.2.1 + (rowAt t y.1 o).length
        rw [List.length_append, h1, h2]
  exact key l _ _ rfl rfl
theorem marks_few {m : Mach} {k : Nat} {t : Tabl} (hs : House m k t) {l : Life} (h : Lv m l) : (marksOf m t l).2.length ≤ 8 * l.length := by
  have key : ∀ n, n ≤ l.length → (marksOf m t (l.take n)).2.length ≤ 8 * n := by
    intro n
    induction n with
    | zero => intro _; simp [marksOf]
    | succ n ih =>
      intro hn
      have ho : l[n]? = some l[n] := List.getElem?_eq_getElem (by omega)
      obtain ⟨rs, r, _, _, e3, _, e5⟩ := hs.row (lv_at h ho)
      rw [take_snoc ho, marks_snoc]
      have := ih (by omega)
      show ((marksOf m t (l.take n)).2 ++ rowAt t (marksOf m t (l.take n)).1 l[n]).length ≤ _
      rw [List.length_append, marks_st, e3]
      omega
  have := key l.length (Nat.le_refl _)
  rwa [List.take_length] at this
section
variable {P : Program} {w : World} {K : PySem.W.Frag} {mg : Str → Option Value} {base : Heap} {G : Addr → Prop}
/-! ### _law_spell -/
def fSpell (rs : List Sv) (r : Sv) : Prop := ∃ (m : Mach) (k : Nat) (t : Tabl) (l : Life), House m k t ∧ Lv m l ∧ l.length ≤ 1000 ∧ rs = [.d (eM m), .d (eT t), .d (eL l)] ∧ r = .d (.tuple [eL (marksOf m t l).2, eTold (told m t l)])
abbrev nS : List Str := ["_law_machine_here", "_law_table_here", "_law_life", "_law_state", "_law_marks", "_law_told_here", "_law_option", "_law_after", "_law_word"]
theorem scSpell : FnScope nS ["_law_machine_here", "_law_table_here", "_law_life"] (defScope (top 53)) := ⟨rfl, rfl, rfl, by decide +kernel, rfl, by decide +kernel, by decide +kernel⟩
theorem ok_spell (E : Ev K mg) (h : Dg K mg "_law_spell" (top 53)) : Cal P w K mg base 1 "_law_spell" (spS K G (Pu fSpell)) [] :=
  cal_of h (fun f fd F => ok_S F scSpell (fun rs A ms Post ⟨r, ⟨_, _, _, _, _, _, _, e, _⟩, _⟩ => by rw [e] <;> rfl) fun c A' outer s H E0 hcd hr rs A ms Post vs Q hR sa ha q => by
    obtain ⟨r, ⟨m, k, t, l, hs, h1, h2, rfl, rfl⟩, rfl, rfl, rfl⟩ := hR
    have nd := scSpell.nd
    refine f_cons (f_unp3 3 4 5 (d1 := eN 0) (d2 := eL []) (d3 := eTold []) (ed_tup (ds := [eN 0, eL [], eTold []]) (ea_cons ed_int (ea_cons (ed_tup (ds := []) ea_nil (by decide)) (ea_cons (ed_tup (ds := []) ea_nil (by decide)) ea_nil))) (by simp)) ?_ nd)
    refine f_cons (f_forP 6 [] (ep_tup (ds := l.map eN) (ed_name 2)) (fun n ρ A => A = As.tt ∧ ∃ u6 u7 u8, ρ = [.d (eM m), .d (eT t), .d (eL l), .d (eN (behind m (l.take n))), .d (eL (marksOf m t (l.take n)).2), .d (eTold (told m t (l.take n))), u6, u7, u8]) ⟨rfl, .u, .u, .u, rfl⟩ (fun H1 n d ρ A' hd hI => ?_) (fun ρ A' hI => ?_) nd)
    · obtain ⟨rfl, u6, u7, u8, rfl⟩ := hI
      obtain ⟨o, ho, rfl⟩ := map_at' hd
      have hlt := lv_at h1 ho
      obtain ⟨st, op, e1, e2, e3⟩ := opt_of hlt
      obtain ⟨rs, r, r1, r2, r3, _, r5⟩ := hs.row hlt
      have few := marks_few hs (lv_take h1 n)
      have fewt := told_len (m := m) (t := t) (l.take n)
      have tk : (l.take n).length ≤ 1000 := by rw [List.length_take]; omega
      have em : (marksOf m t (l.take (n + 1))).2 = (marksOf m t (l.take n)).2 ++ r := by
        rw [take_snoc ho, marks_snoc]
        show (marksOf m t (l.take n)).2 ++ rowAt t (marksOf m t (l.take n)).1 o = _
        rw [marks_st, r3]
      have eb : behind m (l.take (n + 1)) = op.1 := by
        rw [take_snoc ho, behind_snoc]
        unfold nxt
        rw [e3]
      have et : told m t (l.take (n + 1)) = told m t (l.take n) ++ (match op.2 with | none => [] | some x => [((marksOf m t (l.take (n + 1))).2.length, x)]) := by
        unfold told
        rw [take_snoc ho, tfold_snoc, marks_len, tfold_snoc]
        unfold tstep
        rw [tfold_st, e3] <;> rfl
      refine f_cons (f_set 4 (r := .d (eL (marksOf m t (l.take (n + 1))).2)) (Ed.to (ed_cat (ds := (marksOf m t (l.take n)).2.map eN) (es := r.map eN) (ed_name 4) (ed_ix (ds := rs.map eL) (d := eL r) (i := o) (ed_ix (ds := t.map eRs) (d := eRs rs) (i := behind m (l.take n)) (ed_name 1) (ed_name 3) (map_at r1)) (ed_name 6) (map_at r2)) (by simp; omega)) (by rw [em]; simp [eL])) ?_ nd)
      refine f_cons (f_unp2 7 8 (d1 := eN op.1) (d2 := eW op.2) (ed_ix (ds := st.map eO) (d := eO op) (i := o) (ed_ix (ds := m.map eS) (d := eS st) (i := behind m (l.take n)) (ed_name 0) (ed_name 3) (map_at e1)) (ed_name 6) (map_at e2)) ?_ nd)
      cases hw : op.2 with
      | none =>
        rw [hw] at et
        refine f_skip (x := false) (Et.to (et_notN (d := .none) (ed_name 8)) rfl) ?_ rfl
        refine f_one (f_set 3 (r := .d (eN op.1)) (ed_name 7) (f_next ⟨rfl, .d (eN o), .d (eN op.1), .d .none, ?_⟩) nd)
        rw [eb, et, List.append_nil] <;> rfl
      | some x =>
        rw [hw] at et
        refine f_cons (f_if (x := true) (Et.to (et_notN (d := .str x) (ed_name 8)) rfl) (fun _ => f_one (f_set 5 (r := .d (eTold (told m t (l.take (n + 1))))) (Ed.to (ed_cat (ds := (told m t (l.take n)).map eH) (es := [eH ((marksOf m t (l.take (n + 1))).2.length, x)]) (ed_name 5) (ed_tup (ds := [eH ((marksOf m t (l.take (n + 1))).2.length, x)]) (ea_cons (ed_tup (ds := [eN (marksOf m t (l.take (n + 1))).2.length, .str x]) (ea_cons (Ed.to (ed_lenT (ds := (marksOf m t (l.take (n + 1))).2.map eN) E.len (ed_name 4)) (by rw [List.length_map] <;> rfl)) (ea_cons (ed_name 8) ea_nil)) (by simp)) ea_nil) (by simp)) (by simp; omega)) (by rw [et]; simp [eTold])) (f_one (f_set 3 (r := .d (eN op.1)) (ed_name 7) (f_next ⟨rfl, .d (eN o), .d (eN op.1), .d (.str x), by rw [eb] <;> rfl⟩) nd)) nd)) fun e => by cases e)
    · obtain ⟨rfl, u6, u7, u8, rfl⟩ := hI
      rw [List.length_map, List.take_length]
      exact f_one (r_ed q (ed_tup (ds := [eL (marksOf m t l).2, eTold (told m t l)]) (ea_cons (ed_name 4) (ea_cons (ed_name 5) ea_nil)) (by simp)) ⟨rfl, rfl⟩))
    fun _ _ _ _ _ _ us hl => match us, hl with | [_, _, _], _ => rfl
/-! ### _law_along -/
def fLAlong (rs : List Sv) (r : Sv) : Prop := ∃ (a b : List (Nat × Str)), (∀ x ∈ a, WordOk (some x.2)) ∧ (∀ x ∈ b, WordOk (some x.2)) ∧ rs = [.d (eTold a), .d (eTold b)] ∧ r = .d (.bool (alongB b a))
theorem scLAlong : FnScope ["_law_one", "_law_other", "_law_least"] ["_law_one", "_law_other"] (defScope (top 54)) := ⟨rfl, rfl, rfl, by decide +kernel, rfl, by decide +kernel, by decide +kernel⟩
theorem ed_min2 {X : Cx} {ρ : List Sv} {J : As G} {a b : Expr} {i j : Nat} {p pos : Pos} (hm : X.mg "min" = none) (ha : Ed X G a ρ J (.d (.int (i : Nat)))) (hb : Ed X G b ρ J (.d (.int (j : Nat)))) (hc : X.calm = true := by rfl) (hg : Gl X "min" := by rfl) (he : starEach [a, b] X.env = (false, eval a X.env) :: starEach [b] X.env := by rfl) (he2 : starEach [b] X.env = (false, eval b X.env) :: starEach [] X.env := by rfl) (hpl : (backTo pos (starEach [b] X.env)).any (·.1) = false := by rfl) :
    Ed X G (.Call (.Name "min" p) [a, b] [] pos) ρ J (.d (eN (min i j))) :=
  ed_cb (pe_callB (call_min2 hc) hg hm (by decide +kernel) pa_c (by decide) (by decide) he hpl) (ea_cons ha (ea_cons hb ea_nil he2) he) fun vs H Q s _ _ q => by
    match vs, s with
    | [v, w], s =>
      obtain ⟨_, e1, d1⟩ := s.1
      obtain ⟨_, e2, d2⟩ := s.2.1
      cases e1; cases d1; cases e2; cases d2
      refine ⟨(i : Nat), (j : Nat), rfl, q _ H ⟨_, rfl, ?_⟩ Gr.refl⟩
      have : (if (j : Int) < (i : Int) then (j : Int) else (i : Int)) = ((min i j : Nat) : Int) := by
        by_cases z : j < i
        · rw [if_pos (by omega), Nat.min_eq_right (by omega)]
        · rw [if_neg (by omega), Nat.min_eq_left (by omega)]
      rw [this]
      exact .int _
theorem ok_lalong (E : Ev K mg) (h : Dg K mg "_law_along" (top 54)) : Cal P w K mg base 1 "_law_along" (spS K G (Pu fLAlong)) [] :=
  cal_of h (fun f fd F => ok_S F scLAlong (fun rs A ms Post ⟨r, ⟨_, _, _, _, e, _⟩, _⟩ => by rw [e] <;> rfl) fun c A' outer s H E0 hcd hr rs A ms Post vs Q hR sa ha q => by
    obtain ⟨r, ⟨a, b, h1, h2, rfl, rfl⟩, rfl, rfl, rfl⟩ := hR
    have a1 : ∀ x ∈ a.take (min a.length b.length), WordOk (some x.2) := fun x hx => h1 x (List.mem_of_mem_take hx)
    have b1 : ∀ x ∈ b.take (min a.length b.length), WordOk (some x.2) := fun x hx => h2 x (List.mem_of_mem_take hx)
    refine f_cons (f_set 2 (r := .d (eN (min a.length b.length))) (Ed.to (ed_min2 E.min (ed_lenT (ds := a.map eH) E.len (ed_name 0)) (ed_lenT (ds := b.map eH) E.len (ed_name 1))) (by rw [List.length_map, List.length_map])) ?_ scLAlong.nd)
    refine f_one (r_ed q (Ed.to (ed_eq (d := eTold (a.take (min a.length b.length))) (e := eTold (b.take (min a.length b.length))) hr (Ed.to (ed_sl (ds := a.map eH) (l := none) (u := some ((min a.length b.length : Nat) : Int)) (ed_name 0) eo_none (eo_some (ed_name 2))) (by rw [cut_take, ← List.map_take] <;> rfl)) (Ed.to (ed_sl (ds := b.map eH) (l := none) (u := some ((min a.length b.length : Nat) : Int)) (ed_name 1) eo_none (eo_some (ed_name 2))) (by rw [cut_take, ← List.map_take] <;> rfl)) (cn_shaped (cn_Told (n := 0) a1)) (cn_shaped (cn_Told (n := 0) b1))) ?_) ⟨rfl, rfl⟩)
    rw [cn_eqvB (n := 2) (p := a.take (min a.length b.length) = b.take (min a.length b.length)) (cn_Told a1) (cn_Told b1) ⟨eTold_inj, fun h => by rw [h]⟩, along_law])
    fun _ _ _ _ _ _ us hl => match us, hl with | [_, _], _ => rfl
end
end Wb

namespace Wb
open PySem PySem.Spec PyProof.Rows L2
section
variable {P : Program} {w : World} {K : PySem.W.Frag} {mg : Str → Option Value} {base : Heap} {G : Addr → Prop}
/-! ### _law_two -/
def fTwo (mn : Man) (wd : Wd) (args : List Sv) (res : PyData) : Prop := ∃ (m : Mach) (k : Nat) (t : Tabl), House m k t ∧ (∀ l ∈ wd.spoken, Lv m l ∧ l.length ≤ 1000) ∧ wd.spoken.length ≤ 1000 ∧ args = [.d (eM m), .d (eT t)] ∧ res = eTwo (two m t wd.spoken)
theorem along_sym (a b : List (Nat × Str)) : alongB a b = alongB b a := by unfold alongB; rw [Bool.or_comm]
abbrev n2 : List Str := ["_law_world_here", "_law_machine_here", "_law_table_here", "_law_told_here", "_law_life", "_law_at", "_law_before"]
theorem scTwo : FnScope n2 ["_law_world_here", "_law_machine_here", "_law_table_here"] (defScope (top 55)) := ⟨rfl, rfl, rfl, by decide +kernel, rfl, by decide +kernel, by decide +kernel⟩
theorem ok_two (E : Ev K mg) (cSpell : Cal P w K mg base 1 "_law_spell" (spS K G (Pu fSpell)) []) (cAlong : Cal P w K mg base 1 "_law_along" (spS K G (Pu fLAlong)) []) (h : Dg K mg "_law_two" (top 55)) : Cal P w K mg base 2 "_law_two" (spS K G (fD K fTwo)) [] :=
  cal_of h (fun f fd F => ok_S F scTwo (fun rs A ms Post ⟨_, _, _, _, _, _, ⟨_, _, _, _, _, _, e, _⟩, e2, _⟩ => by rw [e2, e] <;> rfl) fun c' A' outer s H E0 hcd hr rs A ms Post vs Q hR sa ha q => by
    obtain ⟨NB, d, mn, wd, args, res, ⟨m, k, t, hs, h1, h2, rfl, rfl⟩, rfl, rfl, rfl, rfl⟩ := hR
    have nd := scTwo.nd
    refine f_open fun sh he sp => ?_
    have toA : ∀ H, (aDx G K NB d mn wd sh he sp).P H → (aD G K NB d mn wd).P H := fun H h => ⟨sh, he, sp, h⟩
    refine f_cons (f_setLc 4 3 (ds := wd.spoken.map eL) (fun _ => true) (liftD eL fun l => eTold (told m t l)) (fun a => Mu [([], H)] [a]) (ep_lst (a := sp) (ds := wd.spoken.map eL) (ed_wd 4 hr dI (ed_name 0)) (by simp)) (by simp; omega) (fun d hd s H0 C' cl fp => .nil) (fun d hd _ s H0 C' cl fp => ?_) (fun σ H a s j n => Jl.fresh j n) (fun a mu => ?_) nd (blkOk_by (N := n2) (sc := defScope (top 55)) (by decide +kernel)))
    · obtain ⟨l, hl, rfl⟩ := List.mem_map.mp hd
      rw [liftD_at (fun _ _ => eL_inj)]
      exact ed_ixc (ds := [eL (marksOf m t l).2, eTold (told m t l)]) (ed_pu (rs := [.d (eM m), .d (eT t), .d (eL l)]) cSpell hr (ea_cons (ed_name 1) (ea_cons (ed_name 2) (ea_cons (ed_name 4) ea_nil))) ⟨m, k, t, l, hs, (h1 l hl).1, (h1 l hl).2, rfl, rfl⟩) rfl
    rw [keepM_all (fun _ _ => eL_inj)]
    generalize hT : wd.spoken.map (fun l => eTold (told m t l)) = ts
    have hts : ts.length = wd.spoken.length := by rw [← hT, List.length_map]
    have hat : ∀ i l, wd.spoken[i]? = some l → ts[i]? = some (eTold (told m t l)) := fun i l e => by rw [← hT]; exact map_at e
    have hgt : ∀ i, i < wd.spoken.length → ∃ l, wd.spoken[i]? = some l ∧ (wd.spoken[i]?).getD [] = l ∧ Lv m l := fun i hi => ⟨_, List.getElem?_eq_getElem hi, by rw [List.getElem?_eq_getElem hi] <;> rfl, (h1 _ (List.getElem_mem hi)).1⟩
    refine f_cons (f_forP 5 [] (ep_rng1 (n := wd.spoken.length) E.range (Ed.to (ed_lenL (a := a) (ds := ts) E.len (ed_name 3)) (by rw [hts])) (by omega)) (fun n ρ A => A = aDx G K NB d mn wd sh he sp ∧ (∀ i, i < n → twoO m t wd.spoken i = none) ∧ ∃ x u v, ρ = [.v (.ref d), .d (eM m), .d (eT t), .l a ts, x, u, v]) ⟨rfl, fun i hi => absurd hi (Nat.not_lt_zero i), .u, .u, .u, rfl⟩ (fun H1 n d' ρ A' hd hI => ?_) (fun ρ A' hI => ?_) nd)
    · obtain ⟨rfl, hno, x, u, v, rfl⟩ := hI
      unfold rngD at hd
      obtain ⟨n', hn', rfl⟩ := map_at' hd
      obtain ⟨hn1, hn2⟩ := List.getElem?_eq_some_iff.mp hn'
      have hnl : n < wd.spoken.length := by simpa using hn1
      have e : n' = n := by rw [← hn2]; simp
      subst e
      refine f_one (f_forP 6 [] (ep_rng1 (n := n') E.range (ed_name 5) (by omega)) (fun j ρ A => A = aDx G K NB d mn wd sh he sp ∧ (∀ i, i < j → twoI m t wd.spoken n' i = none) ∧ ∃ x v, ρ = [.v (.ref d), .d (eM m), .d (eT t), .l a ts, x, .d (.int (n' : Nat)), v]) ⟨rfl, fun i hi => absurd hi (Nat.not_lt_zero i), x, v, rfl⟩ (fun H2 j d' ρ A' hd hI => ?_) (fun ρ A' hI => ?_) nd)
      · obtain ⟨rfl, hnj, x, v, rfl⟩ := hI
        unfold rngD at hd
        obtain ⟨j', hj', rfl⟩ := map_at' hd
        obtain ⟨hj1, hj2⟩ := List.getElem?_eq_some_iff.mp hj'
        have hjl : j < n' := by simpa using hj1
        have e : j' = j := by rw [← hj2]; simp
        subst e
        obtain ⟨l1, e1, g1, v1⟩ := hgt n' hnl
        obtain ⟨l2, e2, g2, v2⟩ := hgt j' (by omega)
        refine f_one (f_if (x := !alongB (told m t l2) (told m t l1)) (et_not (et_val (ed_pu (rs := [.d (eTold (told m t l1)), .d (eTold (told m t l2))]) cAlong hr (ea_cons (ed_ixL (i := n') (ed_name 3) (ed_name 5) (hat n' l1 e1)) (ea_cons (ed_ixL (i := j') (ed_name 3) (ed_name 6) (hat j' l2 e2)) ea_nil)) ⟨_, _, told_ok hs v1, told_ok hs v2, rfl, rfl⟩))) (fun e => ?_) fun e => f_nil (f_next ⟨rfl, ?_, x, .d (.int (j' : Nat)), rfl⟩))
        · have hb : alongB (told m t l2) (told m t l1) = false := by simpa using e
          have hI_ : twoI m t wd.spoken n' j' = some (l2, l1) := by unfold twoI; rw [g1, g2, hb] <;> rfl
          have hO : twoO m t wd.spoken n' = some (l2, l1) := find_first hnj hjl hI_
          have hW : two m t wd.spoken = some (l2, l1) := find_first hno hnl hO
          refine f_one (r_ed q (ed_tup (ds := [eL l2, eL l1]) (ea_cons (ed_ixL (p := sp) (ds := wd.spoken.map eL) (i := j') (ed_wd 4 hr dI (ed_name 0)) (ed_name 6) (map_at e2)) (ea_cons (ed_ixL (p := sp) (ds := wd.spoken.map eL) (i := n') (ed_wd 4 hr dI (ed_name 0)) (ed_name 5) (map_at e1)) ea_nil)) (by simp)) ⟨by rw [hW] <;> rfl, rfl⟩ (hAB := toA))
        · have hb : alongB (told m t l2) (told m t l1) = true := by simpa using e
          intro i hi
          by_cases z : i < j'
          · exact hnj i z
          · have : i = j' := by omega
            subst this
            unfold twoI
            rw [g1, g2, hb] <;> rfl
      · obtain ⟨rfl, hnj, x, v, rfl⟩ := hI
        have e : (rngD 0 n').length = n' := by simp [rngD]
        rw [e] at hnj
        refine f_next ⟨rfl, fun i hi => ?_, x, .d (.int (n' : Nat)), v, rfl⟩
        by_cases z : i < n'
        · exact hno i z
        · have : i = n' := by omega
          subst this
          exact find_none hnj
    · obtain ⟨rfl, hno, x, u, v, rfl⟩ := hI
      have e : (rngD 0 wd.spoken.length).length = wd.spoken.length := by simp [rngD]
      rw [e] at hno
      exact f_one (r_ed q ed_non ⟨by rw [show two m t wd.spoken = none from find_none hno] <;> rfl, rfl⟩ (hAB := toA)))
    fun _ _ _ _ _ _ us hl => match us, hl with | [_, _, _], _ => rfl
/-! ### _law_bad_harm -/
def fBH (mn : Man) (wd : Wd) (args : List Sv) (res : PyData) : Prop := ∃ (m : Mach) (k : Nat) (t : Tabl), House m k t ∧ (∀ l ∈ wd.spoken, Lv m l ∧ l.length ≤ 1000) ∧ wd.spoken.length ≤ 1000 ∧ wd.shelf.length ≤ 1000 ∧ args = [.d (eM m), .d (eT t)] ∧ res = eW (harm mn m t wd)
abbrev n3 : List Str := ["_law_world_here", "_law_machine_here", "_law_table_here", "_law_note"]
theorem scBH : FnScope n3 ["_law_world_here", "_law_machine_here", "_law_table_here"] (defScope (top 57)) := ⟨rfl, rfl, rfl, by decide +kernel, rfl, by decide +kernel, by decide +kernel⟩
theorem ok_bh (cTwo : Cal P w K mg base 2 "_law_two" (spS K G (fD K fTwo)) []) (cFits : Cal P w K mg base 1 "_law_bad_fits" (spS K G (fD K fBF)) []) (h : Dg K mg "_law_bad_harm" (top 57)) : Cal P w K mg base 3 "_law_bad_harm" (spS K G (fD K fBH)) [] :=
  cal_of h (fun f fd F => ok_S F scBH (fun rs A ms Post ⟨_, _, _, _, _, _, ⟨_, _, _, _, _, _, _, e, _⟩, e2, _⟩ => by rw [e2, e] <;> rfl) fun c' A' outer s H E0 hcd hr rs A ms Post vs Q hR sa ha q => by
    obtain ⟨NB, d, mn, wd, args, res, ⟨m, k, t, hs, h1, h2, h3, rfl, rfl⟩, rfl, rfl, rfl, rfl⟩ := hR
    refine f_open fun sh he sp => ?_
    have toA : ∀ H, (aDx G K NB d mn wd sh he sp).P H → (aD G K NB d mn wd).P H := fun H h => ⟨sh, he, sp, h⟩
    refine f_cons (f_if (x := (two m t wd.spoken).isSome) (Et.to (et_notN (d := eTwo (two m t wd.spoken)) (ed_d (args := [.d (eM m), .d (eT t)]) cTwo hr (ea_cons (ed_name 0) (ea_cons (ed_name 1) (ea_cons (ed_name 2) ea_nil))) ⟨m, k, t, hs, h1, h2, rfl, rfl⟩ dIA)) (by cases two m t wd.spoken <;> rfl)) (fun e => ?_) fun e => f_nil ?_)
    · refine f_one (r_ed q ed_str ⟨?_, rfl⟩ (hAB := toA))
      unfold harm
      rw [e] <;> rfl
    · refine f_one (r_ed q (r := .d (eW (harm mn m t wd))) (ed_if (x := dead mn wd) (Et.to (et_eqN (ds := (wd.shelf.filter (fits mn wd)).map eNote) (es := []) hr (En.to (en_lc 3 (ds := wd.shelf.map eNote) (liftB eNote (fits mn wd)) (liftD eNote eNote) (ep_lst (a := sh) (ds := wd.shelf.map eNote) (ed_wd 1 hr dI (ed_name 0)) (by simp)) (by simp; omega) (fun d' hd s H0 C' cl fp => .one ?_) (fun d' hd _ s H0 C' cl fp => ?_) scBH.nd (blkOk_by (N := n3) (sc := defScope (top 57)) (by decide +kernel))) (keepM_map (fun _ _ => eNote_inj) _)) (en_lst (ds := []) ea_nil (by decide)) (cnl_shaped (n := 2) (fun d hd => by obtain ⟨a, _, rfl⟩ := List.mem_map.mp hd; exact cn_Note 0 a)) rfl) ?_) (fun e2 => ?_) (fun e2 => ?_)) ⟨rfl, rfl⟩ (hAB := toA))
      · obtain ⟨o, ho, rfl⟩ := List.mem_map.mp hd
        rw [liftB_at (fun _ _ => eNote_inj)]
        exact et_val (ed_d (args := [.d (eNote o)]) cFits (hr.mono (by decide)) (ea_cons (ed_name 0) (ea_cons (ed_name 3) ea_nil)) ⟨o, rfl, rfl⟩ dIA)
      · obtain ⟨o, ho, rfl⟩ := List.mem_map.mp hd
        rw [liftD_at (fun _ _ => eNote_inj)]
        exact ed_name 3
      · rw [eqvNil]
        unfold dead
        cases hz : wd.shelf.any (fits mn wd) with
        | false =>
          have : wd.shelf.filter (fits mn wd) = [] := List.filter_eq_nil_iff.mpr fun x hx z => by
            have : wd.shelf.any (fits mn wd) = true := List.any_eq_true.mpr ⟨x, hx, z⟩
            rw [hz] at this
            cases this
          simp [this]
        | true =>
          obtain ⟨x, hx, z⟩ := List.any_eq_true.mp hz
          refine decide_eq_false fun e => ?_
          have e := List.map_eq_nil_iff.mp e
          exact (List.filter_eq_nil_iff.mp e) x hx z
      · have e3 : harm mn m t wd = some "dead" := by unfold harm; rw [e, e2] <;> rfl
        rw [e3]
        exact ed_str
      · have e3 : harm mn m t wd = none := by unfold harm; rw [e, e2] <;> rfl
        rw [e3]
        exact ed_non)
    fun _ _ _ _ _ _ us hl => match us, hl with | [_, _, _], _ => rfl
end
end Wb

namespace Wb
open PySem PySem.Spec PyProof.Rows L2
section
variable {P : Program} {w : World} {K : PySem.W.Frag} {mg : Str → Option Value} {base : Heap} {G : Addr → Prop}
/-! ### _law_bad_can -/
def fCan (K : PySem.W.Frag) : List Sv → As G → List Addr → (Sv → As G → Prop) → Prop := fun rs A ms Post => ∃ (NB : List Addr) (d : Addr) (mn : Man) (wd : Wd) (m : Mach) (k : Nat) (t : Tabl) (n : Nat), House m k t ∧ n ≤ 400 ∧ Ok m t n wd ∧ rs = [.v (.ref d), .d (eM m)] ∧ A = aD G K NB d mn wd ∧ ms = [] ∧ Post = fun r B => (∃ a, r = .l a ((can m wd).map eStp)) ∧ B = aD G K NB d mn wd
abbrev nCan : List Str := ["_law_world_here", "_law_machine_here", "_law_stand", "_law_found", "_law_here", "_law_note", "_law_option"]
theorem scCan : FnScope nCan ["_law_world_here", "_law_machine_here"] (defScope (top 61)) := ⟨rfl, rfl, rfl, by decide +kernel, rfl, by decide +kernel, by decide +kernel⟩
def asksOf (m : Mach) (w : Wd) : List Stp := match w.stand with
  | .choice l => (List.range (many m (behind m l))).map .ask
  | _ => []
def turnsOf (w : Wd) : List Stp := if isSe w.stand || isRe w.stand then [.turn] else []
def selsOf (w : Wd) : List Stp := if isBa w.stand then [.sel] else []
theorem can_on {m : Mach} {w : Wd} (h : isOff w.stand = false) : can m w = [.cut] ++ asksOf m w ++ turnsOf w ++ selsOf w := by
  unfold can asksOf turnsOf selsOf
  rw [if_neg (by rw [h]; decide)]
  cases w.stand <;> rfl
theorem asks_len {m : Mach} {k : Nat} {t : Tabl} {w : Wd} (hs : House m k t) : (asksOf m w).length ≤ 3 := by
  unfold asksOf
  split
  · rw [List.length_map, List.length_range]; exact hs.few _
  · exact Nat.zero_le _
theorem tg_in (s : Stand) : decide (tagS s ∈ (["sealed", "ready"] : List Str)) = (isSe s || isRe s) := by
  cases s
  · exact (show decide (("off" : Str) ∈ (["sealed", "ready"] : List Str)) = false by decide +kernel)
  · exact (show decide (("mute" : Str) ∈ (["sealed", "ready"] : List Str)) = false by decide +kernel)
  · exact (show decide (("choice" : Str) ∈ (["sealed", "ready"] : List Str)) = false by decide +kernel)
  · exact (show decide (("sealed" : Str) ∈ (["sealed", "ready"] : List Str)) = true by decide +kernel)
  · exact (show decide (("ready" : Str) ∈ (["sealed", "ready"] : List Str)) = true by decide +kernel)
  · exact (show decide (("bare" : Str) ∈ (["sealed", "ready"] : List Str)) = false by decide +kernel)
theorem ok_can (E : Ev K mg) (cBehind : Cal P w K mg base 1 "_law_state_behind" (spS K G (Pu fBehind)) []) (h : Dg K mg "_law_bad_can" (top 61)) : Cal P w K mg base 2 "_law_bad_can" (spS K G (fCan K)) [] :=
  cal_of h (fun f fd F => ok_S F scCan (fun rs A ms Post ⟨_, _, _, _, _, _, _, _, _, _, _, e, _⟩ => by rw [e] <;> rfl) fun c' A' outer s H E0 hcd hr rs A ms Post vs Q hR sa ha q => by
    obtain ⟨NB, d, mn, wd, m, k, t, n, hs, hn, ok, rfl, rfl, rfl, rfl⟩ := hR
    refine f_open fun sh he sp => ?_
    have nd := scCan.nd
    have toA : ∀ H, (aDx G K NB d mn wd sh he sp).P H → (aD G K NB d mn wd).P H := fun H h => ⟨sh, he, sp, h⟩
    have hsl := ok.shl
    refine f_cons (f_set 2 (r := .d (eSt wd.stand)) (ed_wd 2 hr dI (ed_name 0)) ?_ nd)
    refine f_cons (f_if (x := isOff wd.stand) (Et.to (et_eq (d := eSt wd.stand) (e := eSt .off) hr (ed_name 2) (ed_tup (ds := [sS "off"]) (ea_cons ed_str ea_nil) (by simp)) (cn_shaped (cn_St 0 _)) (cn_shaped (cn_St 0 .off))) (eqvOff _)) (fun e => ?_) fun e => f_nil ?_)
    · refine f_one (r_en q (En.to (en_lc 5 (ds := wd.shelf.map eNote) (fun _ => true) (liftD eNote fun x => eStp (.boot x)) (ep_lst (a := sh) (ds := wd.shelf.map eNote) (ed_wd 1 hr dI (ed_name 0)) (by simp)) (by simp; omega) (fun d hd s H0 C' cl fp => .nil) (fun d hd _ s H0 C' cl fp => ?_) nd (blkOk_by (N := nCan) (sc := defScope (top 61)) (by decide +kernel))) (keepM_all (fun _ _ => eNote_inj) _)) (fun a => ⟨⟨a, ?_⟩, rfl⟩) (hAB := toA))
      · obtain ⟨l, hl, rfl⟩ := List.mem_map.mp hd
        rw [liftD_at (fun _ _ => eNote_inj)]
        exact ed_tup (ds := [sS "boot", eNote l]) (ea_cons ed_str (ea_cons (ed_name 5) ea_nil)) (by simp)
      · unfold can
        rw [if_pos e, List.map_map]
        rfl
    rw [can_on e] at q
    refine f_cons (f_newL 3 (ds := ([.cut] : List Stp).map eStp) (en_lst (ds := [eStp .cut]) (ea_cons (ed_tup (ds := [sS "cut"]) (ea_cons ed_str ea_nil) (by simp)) ea_nil) (by simp)) (fun a _ _ _ => ?_) nd)
    refine f_cut (Mid := Any (cxOf CX0 P w K mg base nCan "_law_bad_can" (defScope (top 61)) f (.ref c') A' outer s H E0).nox (fun ρ J => J = Jl [([], H)] (aDx G K NB d mn wd sh he sp) ∧ ∃ a u v z, ρ = [.v (.ref d), .d (eM m), .d (eSt wd.stand), .l a (([Stp.cut] ++ asksOf m wd).map eStp), u, v, z])) (f_if (x := isCh wd.stand) (Et.to (et_eq (d := sS (tagS wd.stand)) (e := sS "choice") hr (ed_ixc (ds := sS (tagS wd.stand) :: restS wd.stand) (Ed.to (ed_name 2) (by rw [eSt_tup])) rfl) ed_str (tg_shaped _) (tg_shaped (.choice []))) (tg_ch _)) (fun e2 => ?_) fun e2 => f_nil (fin_any ⟨rfl, a, .u, .u, .u, ?_⟩)) fun σ H1 hM => ?_
    · cases h1 : wd.stand with
      | choice l =>
        have st := ok.st
        rw [h1] at st
        have hb := hs.lt st.1
        have hm : m[behind m l]? = some m[behind m l] := List.getElem?_eq_getElem hb
        have hmany := many_of hm
        have hfew := hs.few (behind m l)
        have hl5 : l.length ≤ 1000 := Nat.le_trans st.2 (by omega)
        refine f_cons (f_set 4 (r := .d (eS m[behind m l])) (ed_ix (ds := m.map eS) (d := eS m[behind m l]) (i := behind m l) (ed_name 1) (ed_pu (rs := [.d (eM m), .d (eL l)]) cBehind (hr.mono (by decide)) (ea_cons (ed_name 1) (ea_cons (ed_ixc (ds := [sS "choice", eL l]) (ed_name 2) rfl) ea_nil)) ⟨m, l, st.1, hl5, rfl, rfl⟩) (map_at hm)) ?_ nd)
        refine f_one (f_newL 3 (ds := ([Stp.cut] ++ asksOf m wd).map eStp) (En.to (en_cat (p := a) (ds := ([.cut] : List Stp).map eStp) (es := (asksOf m wd).map eStp) (ed_name 3) (En.to (en_lc 6 (ds := rngD 0 (many m (behind m l))) (fun _ => true) (fun x => .tuple [sS "ask", x]) (ep_rng1 (n := many m (behind m l)) E.range (Ed.to (ed_lenT (ds := m[behind m l].map eO) E.len (ed_name 4)) (by rw [List.length_map, hmany])) (by omega)) (by simp [rngD]; omega) (fun d hd s H0 C' cl fp => .nil) (fun d hd _ s H0 C' cl fp => ?_) nd (blkOk_by (N := nCan) (sc := defScope (top 61)) (by decide +kernel))) ?_) ?_) (by simp only [List.map_append])) (fun a _ _ _ => fin_any ⟨rfl, a, _, _, _, rfl⟩) nd)
        · exact ed_tup (ds := [sS "ask", d]) (ea_cons ed_str (ea_cons (ed_name 6) ea_nil)) (by simp)
        · unfold asksOf
          rw [h1]
          unfold keepM
          rw [List.filter_eq_self.mpr (fun _ _ => rfl)]
          simp [rngD, List.range_eq_range', Function.comp_def, eStp, eN]
        · have := asks_len (w := wd) hs
          simp
          omega
      | _ => rw [h1] at e2; cases e2
    · have : asksOf m wd = [] := by
        unfold asksOf
        cases h1 : wd.stand <;> first
          | rfl
          | (rw [h1] at e2; cases e2)
      rw [this]
      rfl
    · obtain ⟨ρ, J, ⟨rfl, a, u, v, z, rfl⟩, sl, tb, jj⟩ := hM
      have h3 := asks_len (w := wd) hs
      refine Fin.app (X := (cxOf CX0 P w K mg base nCan "_law_bad_can" (defScope (top 61)) f (.ref c') A' outer s H E0).nox) ?_ sl tb jj
      refine f_cons (f_newL 3 (ds := ([Stp.cut] ++ asksOf m wd ++ turnsOf wd).map eStp) (En.to (en_cat (p := a) (ds := ([Stp.cut] ++ asksOf m wd).map eStp) (es := (turnsOf wd).map eStp) (ed_name 3) (en_if (x := isSe wd.stand || isRe wd.stand) (Et.to (et_inS (x := tagS wd.stand) (ss := ["sealed", "ready"]) (ed_ixc (ds := sS (tagS wd.stand) :: restS wd.stand) (Ed.to (ed_name 2) (by rw [eSt_tup])) rfl) (ed_tup (ds := [sS "sealed", sS "ready"]) (ea_cons ed_str (ea_cons ed_str ea_nil)) (by simp)) rfl) (tg_in _)) (fun e3 => ?_) (fun e3 => ?_)) ?_) (by simp only [List.map_append])) (fun b _ _ _ => ?_) nd)
      · exact En.to (en_lst (ds := [eStp .turn]) (ea_cons (ed_tup (ds := [sS "turn"]) (ea_cons ed_str ea_nil) (by simp)) ea_nil) (by simp)) (by unfold turnsOf; rw [e3] <;> rfl)
      · exact En.to (en_lst (ds := []) ea_nil (by simp)) (by unfold turnsOf; rw [e3] <;> rfl)
      · have : (turnsOf wd).length ≤ 1 := by unfold turnsOf; split <;> simp
        simp
        omega
      · refine f_one (r_en q (En.to (en_cat (p := b) (ds := ([Stp.cut] ++ asksOf m wd ++ turnsOf wd).map eStp) (es := (selsOf wd).map eStp) (ed_name 3) (en_if (x := isBa wd.stand) (Et.to (et_eq (d := sS (tagS wd.stand)) (e := sS "bare") hr (ed_ixc (ds := sS (tagS wd.stand) :: restS wd.stand) (Ed.to (ed_name 2) (by rw [eSt_tup])) rfl) ed_str (tg_shaped _) (tg_shaped (.bare [] 0))) (tg_ba _)) (fun e3 => ?_) (fun e3 => ?_)) ?_) (by simp only [List.map_append])) (fun a => ⟨⟨a, rfl⟩, rfl⟩) (hAB := toA))
        · exact En.to (en_lst (ds := [eStp .sel]) (ea_cons (ed_tup (ds := [sS "seal"]) (ea_cons ed_str ea_nil) (by simp)) ea_nil) (by simp)) (by unfold selsOf; rw [e3] <;> rfl)
        · exact En.to (en_lst (ds := []) ea_nil (by simp)) (by unfold selsOf; rw [e3] <;> rfl)
        · have : (turnsOf wd).length ≤ 1 := by unfold turnsOf; split <;> simp
          have : (selsOf wd).length ≤ 1 := by unfold selsOf; split <;> simp
          simp
          omega)
    fun _ _ _ _ _ _ us hl => match us, hl with | [_, _], _ => rfl
end
end Wb

namespace Wb
open PySem PySem.Spec PyProof.Rows L2
section
variable {X : Cx} {G : Addr → Prop} {ρ : List Sv} {D : Ends} {L : List (List Addr × Hp)} {A : As G} {NB : List Addr} {d sh he sp : Addr} {mn : Man} {wd wd' : Wd}
/-- what changes the law's world -/
def fDm (K : PySem.W.Frag) (f : Man → Wd → List Sv → Wd → Prop) : List Sv → As G → List Addr → (Sv → As G → Prop) → Prop := fun rs A ms Post => ∃ (NB : List Addr) (d : Addr) (mn : Man) (wd wd' : Wd) (args : List Sv), f mn wd args wd' ∧ rs = .v (.ref d) :: args ∧ A = aD G K NB d mn wd ∧ ms = [d] ∧ Post = fun r B => r = .d .none ∧ B = aD G K NB d mn wd'
theorem ek_dm {f : Man → Wd → List Sv → Wd → Prop} {args : List Sv} {x : Str} {k : Nat} {p pos : Pos} {e : Expr} {es : List Expr} (C : Cal X.prog X.w X.K X.mg X.base k x (spS X.K G (fDm X.K f)) []) (hr : Room k X.A) (ha : Ea X G (e :: es) ρ (Jl L A) (.v (.ref d) :: args)) (hA : ∀ H, A.P H → (aD G X.K NB d mn wd).P H) (hf : f mn wd args wd') (hm : Mu L [d]) (hoff : OffL [d] ρ)
    (hg : Gl X x := by rfl) (hdb : (x == ("__debug__" : Str)) = false := by decide) (he : starEach (e :: es) X.env = (false, eval e X.env) :: starEach es X.env := by rfl) (hpl : (backTo pos (starEach es X.env)).any (·.1) = false := by rfl) : Ek X G (.Call (.Name x p) (e :: es) [] pos) ρ (Jl L A) (fun r J' => r = .d .none ∧ J' = Jl L (aD G X.K NB d mn wd')) :=
  ek_call (ss := []) (ms := [d]) (A := aD G X.K NB d mn wd) (P0 := fun r B => r = .d .none ∧ B = aD G X.K NB d mn wd') C hr ha (fun _ => trivial) (by rw [List.append_nil]; exact ⟨NB, d, mn, wd, wd', args, hf, rfl, rfl, rfl, rfl⟩) (fun H h => hA H h.2) hoff
    (fun r B H H' p j t g b => ⟨_, ⟨p.1, rfl⟩, Jl.step j g hm (by rw [← p.2]; exact b)⟩) hg hdb he hpl
theorem f_dropD {st : Expr} {pos : Pos} (h : Ek X G st ρ (Jl L A) (fun r J' => r = .d .none ∧ J' = Jl L (aD G X.K NB d mn wd'))) (kk : Fin X D.nx ρ (Jl L (aD G X.K NB d mn wd'))) (hs : swapsWith st none pos.line X.env = pure false := by rfl) : Fin X (cS X (.Expr st pos) D) ρ (Jl L A) :=
  f_dropK h (fun r J' p => by rw [p.2]; exact kk) hs
/-- world['k'] = e -/
theorem f_dst (j : Nat) {o e : Expr} {k : Str} {r : Sv} {jk n : Nat} {p2 pos pos' : Pos} (hr : Room n X.A) (he' : Ed X G e ρ (Jl L (aDx G X.K NB d mn wd sh he sp)) r) (ho : Ed X G o ρ (Jl L (aDx G X.K NB d mn wd sh he sp)) (.v (.ref d))) (hm : Mu L [d]) (hw : (dFs mn wd sh he sp).set j r = dFs mn wd' sh he sp) (kk : Fin X D.nx ρ (Jl L (aDx G X.K NB d mn wd' sh he sp))) (hj : dN[j]? = some k := by rfl)
    (hs : swapsWith e (some (.Subscript o (.Constant (.str k) jk p2) pos')) pos.line X.env = pure false := by rfl) : Fin X (cS X (.Assign [.Subscript o (.Constant (.str k) jk p2) pos'] e pos) D) ρ (Jl L (aDx G X.K NB d mn wd sh he sp)) :=
  f_dput (B := aDx G X.K NB d mn wd' sh he sp) (ns' := dN) (ρo' := dFs mn wd' sh he sp) hr (hw ▸ .old j dN_nd hj) he' ho (fun H h => h.1) hm (fun H1 H2 hA _ g hd => ⟨hd, hA.2.1, live_gr hA.2.2 g⟩) kk (by decide) hs
theorem f_dstN (j : Nat) {o e : Expr} {k : Str} {ds : List PyData} {jk n : Nat} {p2 pos pos' : Pos} (f1 f2 f3 : Addr → Addr) (hr : Room n X.A) (he' : En X G e ρ (Jl L (aDx G X.K NB d mn wd sh he sp)) ds) (ho : Ed X G o ρ (Jl L (aDx G X.K NB d mn wd sh he sp)) (.v (.ref d))) (hm : Mu L [d]) (hw : ∀ a, (dFs mn wd sh he sp).set j (.l a ds) = dFs mn wd' (f1 a) (f2 a) (f3 a)) (kk : ∀ a, Fin X D.nx ρ (Jl L (aDx G X.K NB d mn wd' (f1 a) (f2 a) (f3 a)))) (hf : ∀ a, a ∉ NB → (sh ∉ NB ∧ he ∉ NB ∧ sp ∉ NB) → (f1 a ∉ NB ∧ f2 a ∉ NB ∧ f3 a ∉ NB) := by first | exact fun a n h => ⟨n, h.2⟩ | exact fun a n h => ⟨h.1, n, h.2.2⟩ | exact fun a n h => ⟨h.1, h.2.1, n⟩) (hj : dN[j]? = some k := by rfl)
    (hs : swapsWith e (some (.Subscript o (.Constant (.str k) jk p2) pos')) pos.line X.env = pure false := by rfl) : Fin X (cS X (.Assign [.Subscript o (.Constant (.str k) jk p2) pos'] e pos) D) ρ (Jl L (aDx G X.K NB d mn wd sh he sp)) :=
  f_dputN (B := fun a => aDx G X.K NB d mn wd' (f1 a) (f2 a) (f3 a)) (ns' := dN) (ρo' := fun a => dFs mn wd' (f1 a) (f2 a) (f3 a)) hr (fun a => hw a ▸ .old j dN_nd hj) he' ho (fun H h => h.1) hm (fun a n H1 H2 hA _ g hd => ⟨hd, hf a (fun z => n a (fun H h => h.2.2 a z) rfl) hA.2.1, live_gr hA.2.2 g⟩) kk (by decide) hs
theorem muD {d : Addr} {H : Hp} : Mu [([d], H)] [d] := Mu.cons (fun _ h => .inl h) Mu.nil
theorem toA {K : PySem.W.Frag} : ∀ H, (aDx G K NB d mn wd sh he sp).P H → (aD G K NB d mn wd).P H := fun H h => ⟨sh, he, sp, h⟩
end
section
variable {P : Program} {w : World} {K : PySem.W.Frag} {mg : Str → Option Value} {base : Heap} {G : Addr → Prop}
/-! ### _law_bad_say -/
def fDSay (mn : Man) (wd : Wd) (args : List Sv) (wd' : Wd) : Prop := ∃ (m : Mach) (l : Life) (j : Nat), Lv m l ∧ l.length ≤ 1000 ∧ Sz 1000 wd ∧ args = [.d (eM m), .d (eL l), .d (eN j)] ∧ wd' = say m l j wd
abbrev nSay : List Str := ["_law_world_here", "_law_machine_here", "_law_life", "_law_number", "_law_word"]
theorem scDSay : FnScope nSay ["_law_world_here", "_law_machine_here", "_law_life", "_law_number"] (defScope (top 64)) := ⟨rfl, rfl, rfl, by decide +kernel, rfl, by decide +kernel, by decide +kernel⟩
theorem ok_dsay (cBehind : Cal P w K mg base 1 "_law_state_behind" (spS K G (Pu fBehind)) []) (h : Dg K mg "_law_bad_say" (top 64)) : Cal P w K mg base 2 "_law_bad_say" (spS K G (fDm K fDSay)) [] :=
  cal_of h (fun f fd F => ok_S F scDSay (fun rs A ms Post ⟨_, _, _, _, _, _, ⟨_, _, _, _, _, _, e, _⟩, e2, _⟩ => by rw [e2, e] <;> rfl) fun c' A' outer s H E0 hcd hr rs A ms Post vs Q hR sa ha q => by
    obtain ⟨NB, d, mn, wd, wd', args, ⟨m, l, j, h1, h2, ⟨z1, z2, z3⟩, rfl, rfl⟩, rfl, rfl, rfl, rfl⟩ := hR
    refine f_open fun sh he sp => ?_
    refine f_cons (f_set 4 (r := .d (eW (wordOf m l))) (ed_if (x := !decide (l = [])) (Et.to (et_ne (d := eL l) (e := .tuple []) hr (ed_name 2) (ed_tup (ds := []) ea_nil (by decide)) (cn_shaped (cn_L 0 l)) rfl) (by rw [eqvL0 l])) (fun e => ?_) (fun e => ?_)) ?_ scDSay.nd)
    · have e1 : ¬ l = [] := by simpa using e
      obtain ⟨r, o, rfl⟩ := snoc_of e1
      obtain ⟨h3, h4⟩ := lv_snoc.mp h1
      obtain ⟨st, op, e1, e2, e3⟩ := opt_of h4
      have h5 : r.length ≤ 1000 := by simp at h2; omega
      refine Ed.to (ed_ixc (ds := [eN op.1, eW op.2]) (d := eW op.2) (ed_ix (ds := st.map eO) (d := eO op) (i := o) (ed_ix (ds := m.map eS) (d := eS st) (i := behind m r) (ed_name 1)
        (ed_pu (rs := [.d (eM m), .d (eL r)]) cBehind (hr.mono (by decide)) (ea_cons (ed_name 1) (ea_cons (Ed.to (ed_sl (ds := (r ++ [o]).map eN) (l := none) (u := some (-1)) (ed_name 2) eo_none (eo_some (ed_neg ed_int))) (by rw [cut_init, List.dropLast_concat] <;> rfl)) ea_nil)) ⟨m, r, h3, h5, rfl, rfl⟩) (map_at e1))
        (ed_ixl (ds := (r ++ [o]).map eN) (ed_name 2) map_last) (map_at e2)) rfl) (by rw [wordOf_snoc, e3])
    · have e1 : l = [] := by simpa using e
      subst e1
      exact ed_non
    cases hw : wordOf m l with
    | none =>
      refine f_one (f_if (x := false) (Et.to (et_notN (d := .none) (ed_name 4)) rfl) (fun e => by cases e) fun _ => f_nil (r_end q ⟨rfl, ?_⟩ (hAB := toA)))
      simp [say, hw]
      rfl
    | some x =>
      refine f_one (f_if (x := true) (Et.to (et_notN (d := .str x) (ed_name 4)) rfl) (fun _ => ?_) fun e => by cases e)
      let w1 : Wd := { wd with heard := wd.heard ++ [(j, x)] }
      refine f_cons (f_dstN 3 (wd' := w1) (ds := (wd.heard ++ [(j, x)]).map eH) (fun _ => sh) (fun a => a) (fun _ => sp) hr (En.to (en_cat (p := he) (ds := wd.heard.map eH) (es := [eH (j, x)]) (ed_wd 3 hr dI (ed_name 0)) (en_lst (ds := [eH (j, x)]) (ea_cons (ed_tup (ds := [eN j, .str x]) (ea_cons (ed_name 3) (ea_cons (ed_name 4) ea_nil)) (by simp)) ea_nil) (by simp)) (by simp; omega)) (by simp)) (ed_name 0) muD (fun a => rfl) (fun a => ?_))
      refine f_one (f_dstN 4 (wd' := say m l j wd) (ds := (say m l j wd).spoken.map eL) (fun _ => sh) (fun _ => a) (fun b => b) hr (En.to (en_cat (p := sp) (ds := wd.spoken.map eL) (es := (if l ∈ wd.spoken then [] else [l]).map eL) (ed_wd 4 hr dI (ed_name 0)) (en_if (x := !decide (l ∈ wd.spoken)) (Et.to (et_notInL (k := 0) (d := eL l) (ds := wd.spoken.map eL) (hu65 hr) (ed_name 2) (ed_wd 4 hr dI (ed_name 0)) (cn_shaped (cn_L 0 l)) (cnl_shaped (n := 1) (fun d hd => by obtain ⟨a, _, rfl⟩ := List.mem_map.mp hd; exact cn_L 0 a))) (by rw [any_eqv (n := 1) (cn_L 0) (fun _ _ => eL_inj)] <;> first | rfl | simp)) (fun e => ?_) (fun e => ?_)) ?_) ?_) (ed_name 0) muD (fun b => ?_) (fun b => r_end q ⟨rfl, rfl⟩ (hAB := toA)))
      · have e1 : ¬ l ∈ wd.spoken := by simpa using e
        rw [if_neg e1]
        exact en_lst (ds := [eL l]) (ea_cons (ed_name 2) ea_nil) (by simp)
      · have e1 : l ∈ wd.spoken := by simpa using e
        rw [if_pos e1]
        exact en_lst (ds := []) ea_nil (by simp)
      · split <;> simp <;> omega
      · by_cases e1 : l ∈ wd.spoken
        · simp [say, hw, e1]
        · simp [say, hw, e1]
      · simp [say, hw, dFs, w1])
    fun _ _ _ _ _ _ us hl => match us, hl with | [_, _, _, _], _ => rfl
/-! ### _law_bad_come -/
def fDCome (mn : Man) (wd : Wd) (args : List Sv) (wd' : Wd) : Prop := ∃ (m : Mach) (k : Nat) (t : Tabl) (l : Life) (j : Nat), House m k t ∧ Lv m l ∧ l.length ≤ 1000 ∧ j ≤ (rowOf m t l).length ∧ Sz 900 wd ∧ args = [.d (eM m), .d (eT t), .d (eL l), .d (eN j)] ∧ wd' = come mn m t l j wd
theorem say_stand (m : Mach) (l : Life) (n : Nat) (w : Wd) (s : Stand) : say m l n { w with stand := s } = { say m l n w with stand := s } := by
  unfold say
  cases wordOf m l <;> rfl
theorem come_stand (mn : Man) (m : Mach) (t : Tabl) (l : Life) (d : Nat) (w : Wd) (s : Stand) : come mn m t l d { w with stand := s } = come mn m t l d w := by
  unfold come
  have e : ∀ x, sealN x { w with stand := s } = { sealN x w with stand := s } := fun _ => rfl
  by_cases h1 : d = (rowOf m t l).length
  · rw [if_pos h1, if_pos h1]
    by_cases h2 : mn = .early
    · rw [if_pos h2, if_pos h2]
    · rw [if_neg h2, if_neg h2, say_stand]
  · rw [if_neg h1, if_neg h1]
    by_cases h2 : mn = .late
    · rw [if_pos h2, if_pos h2]
    · rw [if_neg h2, if_neg h2]
      by_cases h3 : mn = .early ∧ d + 1 = (rowOf m t l).length
      · rw [if_pos h3, if_pos h3, e, say_stand]
      · rw [if_neg h3, if_neg h3, e]
theorem Sz.seal_ {n : Nat} {w : Wd} {x : Note} (h : Sz n w) : Sz (n + 1) (sealN x w) := by
  obtain ⟨a, b, g⟩ := h
  refine ⟨by show w.heard.length ≤ _; omega, ?_, by show w.spoken.length ≤ _; omega⟩
  show (if x ∈ w.shelf then w.shelf else w.shelf ++ [x]).length ≤ _
  by_cases z : x ∈ w.shelf
  · rw [if_pos z]; omega
  · rw [if_neg z]; simp; omega
abbrev nDC : List Str := ["_law_world_here", "_law_machine_here", "_law_table_here", "_law_life", "_law_done_here", "_law_line", "_law_note"]
theorem scDCome : FnScope nDC ["_law_world_here", "_law_machine_here", "_law_table_here", "_law_life", "_law_done_here"] (defScope (top 65)) := ⟨rfl, rfl, rfl, by decide +kernel, rfl, by decide +kernel, by decide +kernel⟩
/-- the note put on the shelf, once -/
theorem en_put {X : Cx} {G : Addr → Prop} {ρ : List Sv} {L : List (List Addr × Hp)} {NB : List Addr} {d sh he sp : Addr} {mn : Man} {wd : Wd} {n : Nat} {x : Note} {o1 o2 z z2 : Expr} {j1 j2 : Nat} {p1 p2 p3 p4 p5 p6 p7 p8 p9 : Pos} (hr : Room n X.A) (h1 : Ed X G o1 ρ (Jl L (aDx G X.K NB d mn wd sh he sp)) (.v (.ref d))) (h2 : Ed X G o2 ρ (Jl L (aDx G X.K NB d mn wd sh he sp)) (.v (.ref d))) (hz : Ed X G z ρ (Jl L (aDx G X.K NB d mn wd sh he sp)) (.d (eNote x))) (hz2 : Ed X G z2 ρ (Jl L (aDx G X.K NB d mn wd sh he sp)) (.d (eNote x))) (hs : wd.shelf.length ≤ 1000)
    (he0 : starEach [z2] X.env = (false, eval z2 X.env) :: starEach [] X.env := by rfl) :
    En X G (.BinOp (.Subscript o1 (.Constant (.str "shelf") j1 p1) p2) .Add (.IfExp (.Compare z [.NotIn] [.Subscript o2 (.Constant (.str "shelf") j2 p3) p4] p5) (.List [z2] p6) (.List [] p7) p8) p9) ρ (Jl L (aDx G X.K NB d mn wd sh he sp)) ((sealN x wd).shelf.map eNote) := by
  refine En.to (en_cat (p := sh) (ds := wd.shelf.map eNote) (es := (if x ∈ wd.shelf then [] else [x]).map eNote) (ed_wd 1 hr dI h1) (en_if (x := !decide (x ∈ wd.shelf)) (Et.to (et_notInL (k := 0) (d := eNote x) (ds := wd.shelf.map eNote) (hu65 hr) hz (ed_wd 1 hr dI h2) (cn_shaped (cn_Note 0 x)) (cnl_shaped (n := 2) (fun d hd => by obtain ⟨a, _, rfl⟩ := List.mem_map.mp hd; exact cn_Note 0 a))) (by rw [any_eqv (n := 2) (cn_Note 0) (fun _ _ => eNote_inj)] <;> first | rfl | simp)) (fun e => ?_) (fun e => ?_)) ?_) ?_
  · have e1 : ¬ x ∈ wd.shelf := by simpa using e
    rw [if_neg e1]
    exact en_lst (ds := [eNote x]) (ea_cons hz2 ea_nil he0) (by simp)
  · have e1 : x ∈ wd.shelf := by simpa using e
    rw [if_pos e1]
    exact en_lst (ds := []) ea_nil (by simp)
  · split <;> simp <;> omega
  · by_cases e1 : x ∈ wd.shelf
    · simp [sealN, e1]
    · simp [sealN, e1]
theorem ok_dcome (E : Ev K mg) (cBehind : Cal P w K mg base 1 "_law_state_behind" (spS K G (Pu fBehind)) []) (cSay : Cal P w K mg base 2 "_law_bad_say" (spS K G (fDm K fDSay)) []) (h : Dg K mg "_law_bad_come" (top 65)) : Cal P w K mg base 3 "_law_bad_come" (spS K G (fDm K fDCome)) [] :=
  cal_of h (fun f fd F => ok_S F scDCome (fun rs A ms Post ⟨_, _, _, _, _, _, ⟨_, _, _, _, _, _, _, _, _, _, e, _⟩, e2, _⟩ => by rw [e2, e] <;> rfl) fun c' A' outer s H E0 hcd hr rs A ms Post vs Q hR sa ha q => by
    obtain ⟨NB, d, mn, wd, wd', args, ⟨m, k, t, l, j, hs, h1, h2, h3, hz, rfl, rfl⟩, rfl, rfl, rfl, rfl⟩ := hR
    refine f_open fun sh he sp => ?_
    have nd := scDCome.nd
    refine f_cons (f_set 5 (r := .d (eL (rowOf m t l))) (ed_if (x := !decide (l = [])) (Et.to (et_ne (d := eL l) (e := .tuple []) hr (ed_name 3) (ed_tup (ds := []) ea_nil (by decide)) (cn_shaped (cn_L 0 l)) rfl) (by rw [eqvL0 l])) (fun e => ?_) (fun e => ?_)) ?_ nd)
    · have e1 : ¬ l = [] := by simpa using e
      obtain ⟨r, o, rfl⟩ := snoc_of e1
      obtain ⟨h3, h4⟩ := lv_snoc.mp h1
      obtain ⟨st, op, e1, e2, e3, _⟩ := hs.row h4
      have h5 : r.length ≤ 1000 := by simp at h2; omega
      refine Ed.to (ed_ix (ds := st.map eL) (d := eL op) (i := o) (ed_ix (ds := t.map eRs) (d := eRs st) (i := behind m r) (ed_name 2)
        (ed_pu (rs := [.d (eM m), .d (eL r)]) cBehind (hr.mono (by decide)) (ea_cons (ed_name 1) (ea_cons (Ed.to (ed_sl (ds := (r ++ [o]).map eN) (l := none) (u := some (-1)) (ed_name 3) eo_none (eo_some (ed_neg ed_int))) (by rw [cut_init, List.dropLast_concat] <;> rfl)) ea_nil)) ⟨m, r, h3, h5, rfl, rfl⟩) (map_at e1))
        (ed_ixl (ds := (r ++ [o]).map eN) (ed_name 3) map_last) (map_at e2)) (by rw [rowOf_snoc, e3])
    · have e1 : l = [] := by simpa using e
      subst e1
      exact ed_tup (ds := []) ea_nil (by decide)
    refine f_one (f_if (x := decide (j = (rowOf m t l).length)) (Et.to (et_eq (d := eN j) (e := eN ((rowOf m t l).map eN).length) hr (ed_name 4) (ed_lenT (ds := (rowOf m t l).map eN) E.len (ed_name 5)) rfl rfl) (by rw [eqvN, List.length_map])) (fun e => ?_) fun e => ?_)
    · have ed := of_decide_eq_true e
      refine f_cons (f_dst 2 (wd' := { wd with stand := .choice l }) hr (ed_tup (ds := [sS "choice", eL l]) (ea_cons ed_str (ea_cons (ed_name 3) ea_nil)) (by simp)) (ed_name 0) muD rfl ?_)
      refine f_one (f_if (x := !decide (mn = .early)) (Et.to (et_ne (d := eMan mn) (e := sS (mS .early)) hr (ed_wd 5 hr dI (ed_name 0)) ed_str (es_man _) (es_man _)) (by rw [eqvMan])) (fun e => ?_) fun e => f_nil ?_)
      · have e1 : ¬ mn = .early := by simpa using e
        refine f_one (f_dropD (wd' := say m l wd.wheel.1 { wd with stand := .choice l }) (ek_dm (mn := mn) (wd := { wd with stand := .choice l }) cSay (hr.mono (by decide)) (ea_cons (ed_name 0) (ea_cons (ed_name 1) (ea_cons (ed_name 3) (ea_cons (ed_ixc (ds := [eN wd.wheel.1, eOm wd.wheel.2]) (d := eN wd.wheel.1) (ed_wd 0 hr dI (ed_name 0)) rfl) ea_nil)))) toA ⟨m, l, wd.wheel.1, h1, h2, hz.mono, rfl, rfl⟩ muD ⟨trivial, trivial, trivial, trivial, trivial, trivial, trivial, trivial⟩) (r_end q ⟨rfl, congrArg (aD G K NB d mn) ?_⟩))
        rw [say_stand]
        simp [come, ed, e1]
      · have e1 : mn = .early := by simpa using e
        refine r_end q ⟨rfl, congrArg (aD G K NB d mn) ?_⟩ (hAB := toA)
        simp [come, ed, e1]
    have ed := of_decide_eq_false e
    refine f_one (f_if (x := decide (mn = .late)) (Et.to (et_eq (d := eMan mn) (e := sS (mS .late)) hr (ed_wd 5 hr dI (ed_name 0)) ed_str (es_man _) (es_man _)) (by rw [eqvMan])) (fun e => ?_) fun e => ?_)
    · have e1 := of_decide_eq_true e
      refine f_one (f_dst 2 (wd' := { wd with stand := .ready l j }) hr (ed_tup (ds := [sS "ready", eL l, eN j]) (ea_cons ed_str (ea_cons (ed_name 3) (ea_cons (ed_name 4) ea_nil))) (by simp)) (ed_name 0) muD rfl (r_end q ⟨rfl, congrArg (aD G K NB d mn) ?_⟩ (hAB := toA)))
      simp [come, ed, e1]
    have e1 := of_decide_eq_false e
    have hd : j < (rowOf m t l).length := by omega
    have hx : (rowOf m t l)[j]? = some (rowOf m t l)[j] := List.getElem?_eq_getElem hd
    refine f_cons (f_set 6 (r := .d (eNote ⟨wd.wheel.1 + 1, (rowOf m t l)[j]?, l, j + 1⟩)) (Ed.to (ed_tup (ds := [eN (wd.wheel.1 + 1), eN (rowOf m t l)[j], eL l, eN (j + 1)]) (ea_cons (Ed.to (ed_add (ed_ixc (ds := [eN wd.wheel.1, eOm wd.wheel.2]) (d := eN wd.wheel.1) (ed_wd 0 hr dI (ed_name 0)) rfl) ed_int) (eN1 _))
      (ea_cons (ed_ix (ds := (rowOf m t l).map eN) (i := j) (ed_name 5) (ed_name 4) (map_at hx)) (ea_cons (ed_name 3) (ea_cons (Ed.to (ed_add (ed_name 4) ed_int) (eN1 _)) ea_nil)))) (by simp)) (by rw [hx] <;> rfl)) ?_ nd)
    generalize hnote : (⟨wd.wheel.1 + 1, (rowOf m t l)[j]?, l, j + 1⟩ : Note) = x
    have hxn : x.num = wd.wheel.1 + 1 := by rw [← hnote]
    refine f_cons (f_dstN 1 (wd' := sealN x wd) (ds := (sealN x wd).shelf.map eNote) (fun a => a) (fun _ => he) (fun _ => sp) hr (en_put hr (ed_name 0) (ed_name 0) (ed_name 6) (ed_name 6) (by have := hz.2.1; omega)) (ed_name 0) muD (fun a => rfl) (fun sh => ?_))
    refine f_cons (f_dst 2 (wd' := { sealN x wd with stand := .sealed x }) hr (ed_tup (ds := [sS "sealed", eNote x]) (ea_cons ed_str (ea_cons (ed_name 6) ea_nil)) (by simp)) (ed_name 0) muD rfl ?_)
    have hz1 : Sz 1000 { sealN x wd with stand := .sealed x } := (hz.seal_ (x := x)).mono
    refine f_one (f_if (x := decide (mn = .early) && decide (j + 1 = (rowOf m t l).length)) (et_w (ew_and (Et.to (et_eq (d := eMan mn) (e := sS (mS .early)) hr (ed_wd 5 hr dI (ed_name 0)) ed_str (es_man _) (es_man _)) (by rw [eqvMan])) fun _ => ew_and1 (Et.to (et_eq (d := eN (j + 1)) (e := eN ((rowOf m t l).map eN).length) hr (Ed.to (ed_add (ed_name 4) ed_int) (eN1 _)) (ed_lenT (ds := (rowOf m t l).map eN) E.len (ed_name 5)) rfl rfl) (by rw [eqvN, List.length_map])))) (fun e => ?_) fun e => f_nil ?_)
    · have e2 : mn = .early ∧ j + 1 = (rowOf m t l).length := by simpa using e
      refine f_one (f_dropD (wd' := say m l (wd.wheel.1 + 1) { sealN x wd with stand := .sealed x }) (ek_dm (mn := mn) (wd := { sealN x wd with stand := .sealed x }) cSay (hr.mono (by decide)) (ea_cons (ed_name 0) (ea_cons (ed_name 1) (ea_cons (ed_name 3) (ea_cons (ed_ixc (ds := [eN x.num, eOm x.mark, eL x.life, eN x.done]) (d := eN x.num) (ed_name 6) rfl) ea_nil)))) toA ⟨m, l, wd.wheel.1 + 1, h1, h2, hz1, by rw [hxn], rfl⟩ muD ⟨trivial, trivial, trivial, trivial, trivial, trivial, trivial, trivial⟩) (r_end q ⟨rfl, congrArg (aD G K NB d mn) ?_⟩))
      unfold come
      rw [if_neg ed, if_neg e1, if_pos e2, hnote, say_stand]
    · have e2 : ¬ (mn = .early ∧ j + 1 = (rowOf m t l).length) := by
        intro z
        rw [decide_eq_true z.1, decide_eq_true z.2] at e
        cases e
      refine r_end q ⟨rfl, congrArg (aD G K NB d mn) ?_⟩ (hAB := toA)
      unfold come
      rw [if_neg ed, if_neg e1, if_neg e2, hnote])
    fun _ _ _ _ _ _ us hl => match us, hl with | [_, _, _, _, _], _ => rfl
end
end Wb

namespace Wb
open PySem PySem.Spec PyProof.Rows L2
section
variable {X : Cx} {G : Addr → Prop} {ρ : List Sv} {L : List (List Addr × Hp)} {NB : List Addr} {d sh he sp : Addr} {mn : Man} {wd : Wd}
theorem f_shut {Y : L2.St → Hp → Prop} (h : Fin X Y ρ (Jl L (aD G X.K NB d mn wd))) : Fin X Y ρ (Jl L (aDx G X.K NB d mn wd sh he sp)) := fun σ H s t j => h σ H s t ⟨j.1, sh, he, sp, j.2⟩
end
section
variable {P : Program} {w : World} {K : PySem.W.Frag} {mg : Str → Option Value} {base : Heap} {G : Addr → Prop}
/-! ### _law_bad_step -/
def fDStep (mn : Man) (wd : Wd) (args : List Sv) (wd' : Wd) : Prop := ∃ (m : Mach) (k : Nat) (t : Tabl) (st : Stp) (n : Nat), House m k t ∧ n ≤ 400 ∧ Ok m t n wd ∧ doable m wd st = true ∧ args = [.d (eM m), .d (eT t), .d (eStp st)] ∧ wd' = stp mn m t st wd
abbrev nDS : List Str := ["_law_world_here", "_law_machine_here", "_law_table_here", "_law_step", "_law_stand", "_law_line", "_law_note"]
theorem scDStep : FnScope nDS ["_law_world_here", "_law_machine_here", "_law_table_here", "_law_step"] (defScope (top 66)) := ⟨rfl, rfl, rfl, by decide +kernel, rfl, by decide +kernel, by decide +kernel⟩
theorem ok_dstep (E : Ev K mg) (cBehind : Cal P w K mg base 1 "_law_state_behind" (spS K G (Pu fBehind)) []) (cFits : Cal P w K mg base 1 "_law_bad_fits" (spS K G (fD K fBF)) []) (cCome : Cal P w K mg base 3 "_law_bad_come" (spS K G (fDm K fDCome)) []) (h : Dg K mg "_law_bad_step" (top 66)) : Cal P w K mg base 4 "_law_bad_step" (spS K G (fDm K fDStep)) [] :=
  cal_of h (fun f fd F => ok_S F scDStep (fun rs A ms Post ⟨_, _, _, _, _, _, ⟨_, _, _, _, _, _, _, _, _, e, _⟩, e2, _⟩ => by rw [e2, e] <;> rfl) fun c' A' outer s H E0 hcd hr rs A ms Post vs Q hR sa ha q => by
    obtain ⟨NB, d, mn, wd, wd', args, ⟨m, k, t, st, n, hs, hn, ok, hd, rfl, rfl⟩, rfl, rfl, rfl, rfl⟩ := hR
    refine f_open fun sh he sp => ?_
    have nd := scDStep.nd
    have hz : Sz 801 wd := ⟨Nat.le_trans ok.he (by omega), Nat.le_trans ok.shl (by omega), Nat.le_trans ok.spl (by omega)⟩
    have hst := ok.st
    refine f_cons (f_set 4 (r := .d (eSt wd.stand)) (ed_wd 2 hr dI (ed_name 0)) ?_ nd)
    cases st with
    | boot x =>
      have hx : x ∈ wd.shelf := by simp [doable] at hd; exact hd.2
      have ho := ok.sh x hx
      refine f_cut (Mid := Any (cxOf CX0 P w K mg base nDS "_law_bad_step" (defScope (top 66)) f (.ref c') A' outer s H E0).nox (fun ρ J => J = Jl [([d], H)] (aD G K NB d mn (stp mn m t (.boot x) wd)) ∧ ρ = [.v (.ref d), .d (eM m), .d (eT t), .d (eStp (.boot x)), .d (eSt wd.stand), .u, .u])) (f_if (x := true) (et_eq (d := sS "boot") (e := sS "boot") hr (ed_ixc (ds := [sS "boot", eNote x]) (ed_name 3) rfl) ed_str (tp_shaped (.boot ⟨0, none, [], 0⟩)) (tp_shaped (.boot ⟨0, none, [], 0⟩))) (fun _ => ?_) fun e => by cases e) fun σ H1 hM => ?_
      · refine f_cons (f_dst 2 (wd' := { wd with stand := .mute }) hr (ed_tup (ds := [sS "mute"]) (ea_cons ed_str ea_nil) (by simp)) (ed_name 0) muD rfl ?_)
        refine f_one (f_if (x := fits mn wd x) (et_val (ed_d (args := [.d (eNote x)]) (mn := mn) (wd := { wd with stand := .mute }) (res := .bool (fits mn wd x)) cFits (hr.mono (by decide)) (ea_cons (ed_name 0) (ea_cons (ed_ixc (ds := [sS "boot", eNote x]) (d := eNote x) (ed_name 3) rfl) ea_nil)) ⟨x, rfl, rfl⟩ dIA)) (fun e => ?_) fun e => ?_)
        · refine f_one (f_dropD (wd' := come mn m t x.life x.done { wd with stand := .mute }) (ek_dm (mn := mn) (wd := { wd with stand := .mute }) cCome (hr.mono (by decide)) (ea_cons (ed_name 0) (ea_cons (ed_name 1) (ea_cons (ed_name 2) (ea_cons (ed_ixc (ds := [eN x.num, eOm x.mark, eL x.life, eN x.done]) (d := eL x.life) (ed_ixc (ds := [sS "boot", eNote x]) (d := eNote x) (ed_name 3) rfl) rfl) (ea_cons (ed_ixc (ds := [eN x.num, eOm x.mark, eL x.life, eN x.done]) (d := eN x.done) (ed_ixc (ds := [sS "boot", eNote x]) (d := eNote x) (ed_name 3) rfl) rfl) ea_nil))))) toA ⟨m, k, t, x.life, x.done, hs, ho.1, Nat.le_trans ho.2.2 (by omega), ho.2.1, hz.mono, rfl, rfl⟩ muD ⟨trivial, trivial, trivial, trivial, trivial, trivial, trivial, trivial⟩) (fin_any ⟨congrArg (fun z => Jl [([d], H)] (aD G K NB d mn z)) ?_, rfl⟩))
          rw [come_stand]
          simp [stp, e]
        · refine f_nil (f_shut (fin_any ⟨congrArg (fun z => Jl [([d], H)] (aD G K NB d mn z)) ?_, rfl⟩))
          simp [stp, e]
      · obtain ⟨ρ, J, ⟨rfl, rfl⟩, sl, tb, jj⟩ := hM
        refine Fin.app (X := (cxOf CX0 P w K mg base nDS "_law_bad_step" (defScope (top 66)) f (.ref c') A' outer s H E0).nox) ?_ sl tb jj
        refine f_skip (x := false) (et_eq (d := sS "boot") (e := sS "ask") hr (ed_ixc (ds := [sS "boot", eNote x]) (ed_name 3) rfl) ed_str (tp_shaped (.boot ⟨0, none, [], 0⟩)) (tp_shaped (.ask 0))) ?_ rfl
        refine f_skip (x := false) (et_w (ew_and (x := false) (y := true) (et_eq (d := sS "boot") (e := sS "turn") hr (ed_ixc (ds := [sS "boot", eNote x]) (ed_name 3) rfl) ed_str (tp_shaped (.boot ⟨0, none, [], 0⟩)) (tp_shaped .turn)) (fun e => by cases e))) ?_ rfl
        refine f_skip (x := false) (et_w (ew_and (x := false) (y := true) (et_eq (d := sS "boot") (e := sS "turn") hr (ed_ixc (ds := [sS "boot", eNote x]) (ed_name 3) rfl) ed_str (tp_shaped (.boot ⟨0, none, [], 0⟩)) (tp_shaped .turn)) (fun e => by cases e))) ?_ rfl
        refine f_skip (x := false) (et_eq (d := sS "boot") (e := sS "seal") hr (ed_ixc (ds := [sS "boot", eNote x]) (ed_name 3) rfl) ed_str (tp_shaped (.boot ⟨0, none, [], 0⟩)) (tp_shaped .sel)) ?_ rfl
        refine f_one (f_if (x := false) (et_eq (d := sS "boot") (e := sS "cut") hr (ed_ixc (ds := [sS "boot", eNote x]) (ed_name 3) rfl) ed_str (tp_shaped (.boot ⟨0, none, [], 0⟩)) (tp_shaped .cut)) (fun e => by cases e) fun _ => f_nil ?_)
        exact r_end q ⟨rfl, rfl⟩
    | ask o =>
      refine f_skip (x := false) (et_eq (d := sS "ask") (e := sS "boot") hr (ed_ixc (ds := [sS "ask", eN o]) (ed_name 3) rfl) ed_str (tp_shaped (.ask 0)) (tp_shaped (.boot ⟨0, none, [], 0⟩))) ?_ rfl
      cases h1 : wd.stand with
      | choice l =>
        rw [h1] at hst
        simp [doable, h1] at hd
        have hl := lv_snoc.mpr ⟨hst.1, hd⟩
        have hl5 : (l ++ [o]).length ≤ 1000 := by have := hst.2; simp; omega
        refine f_cons (f_if (x := true) (et_eq (d := sS "ask") (e := sS "ask") hr (ed_ixc (ds := [sS "ask", eN o]) (ed_name 3) rfl) ed_str (tp_shaped (.ask 0)) (tp_shaped (.ask 0))) (fun _ => f_one (f_dropD (wd' := come mn m t (l ++ [o]) 0 wd) (ek_dm (mn := mn) (wd := wd) cCome (hr.mono (by decide)) (ea_cons (ed_name 0) (ea_cons (ed_name 1) (ea_cons (ed_name 2) (ea_cons (Ed.to (ed_cat (ds := l.map eN) (es := [eN o]) (ed_ixc (ds := [sS "choice", eL l]) (d := eL l) (ed_name 4) rfl) (ed_tup (ds := [eN o]) (ea_cons (ed_ixc (ds := [sS "ask", eN o]) (d := eN o) (ed_name 3) rfl) ea_nil) (by simp)) (by simp at hl5 ⊢; omega)) (by simp [eL])) (ea_cons ed_int ea_nil))))) toA ⟨m, k, t, l ++ [o], 0, hs, hl, hl5, Nat.zero_le _, hz.mono, rfl, rfl⟩ muD ⟨trivial, trivial, trivial, trivial, trivial, trivial, trivial, trivial⟩) ?_)) fun e => by cases e)
        refine f_skip (x := false) (et_w (ew_and (x := false) (y := true) (et_eq (d := sS "ask") (e := sS "turn") hr (ed_ixc (ds := [sS "ask", eN o]) (ed_name 3) rfl) ed_str (tp_shaped (.ask 0)) (tp_shaped .turn)) (fun e => by cases e))) ?_ rfl
        refine f_skip (x := false) (et_w (ew_and (x := false) (y := true) (et_eq (d := sS "ask") (e := sS "turn") hr (ed_ixc (ds := [sS "ask", eN o]) (ed_name 3) rfl) ed_str (tp_shaped (.ask 0)) (tp_shaped .turn)) (fun e => by cases e))) ?_ rfl
        refine f_skip (x := false) (et_eq (d := sS "ask") (e := sS "seal") hr (ed_ixc (ds := [sS "ask", eN o]) (ed_name 3) rfl) ed_str (tp_shaped (.ask 0)) (tp_shaped .sel)) ?_ rfl
        refine f_one (f_if (x := false) (et_eq (d := sS "ask") (e := sS "cut") hr (ed_ixc (ds := [sS "ask", eN o]) (ed_name 3) rfl) ed_str (tp_shaped (.ask 0)) (tp_shaped .cut)) (fun e => by cases e) fun _ => f_nil ?_)
        refine r_end q ⟨rfl, congrArg (aD G K NB d mn) ?_⟩
        simp [stp, h1]
      | _ => simp [doable, h1] at hd
    | turn =>
      refine f_skip (x := false) (et_eq (d := sS "turn") (e := sS "boot") hr (ed_ixc (ds := [sS "turn"]) (ed_name 3) rfl) ed_str (tp_shaped .turn) (tp_shaped (.boot ⟨0, none, [], 0⟩))) ?_ rfl
      refine f_skip (x := false) (et_eq (d := sS "turn") (e := sS "ask") hr (ed_ixc (ds := [sS "turn"]) (ed_name 3) rfl) ed_str (tp_shaped .turn) (tp_shaped (.ask 0))) ?_ rfl
      cases h1 : wd.stand with
      | sealed x =>
        rw [h1] at hst
        refine f_cons (f_if (x := true) (et_w (ew_and (x := true) (y := true) (et_eq (d := sS "turn") (e := sS "turn") hr (ed_ixc (ds := [sS "turn"]) (ed_name 3) rfl) ed_str (tp_shaped .turn) (tp_shaped .turn)) fun _ => ew_and1 (et_eq (d := sS "sealed") (e := sS "sealed") hr (ed_ixc (ds := [sS "sealed", eNote x]) (ed_name 4) rfl) ed_str (tg_shaped (.sealed x)) (tg_shaped (.sealed x))))) (fun _ => ?_) fun e => by cases e)
        refine f_cons (f_dst 0 (wd' := { wd with wheel := (wd.wheel.1 + 1, x.mark) }) hr (ed_tup (ds := [eN (wd.wheel.1 + 1), eOm x.mark]) (ea_cons (Ed.to (ed_add (ed_ixc (ds := [eN wd.wheel.1, eOm wd.wheel.2]) (d := eN wd.wheel.1) (ed_wd 0 hr dI (ed_name 0)) rfl) ed_int) (eN1 _)) (ea_cons (ed_ixc (ds := [eN x.num, eOm x.mark, eL x.life, eN x.done]) (d := eOm x.mark) (ed_ixc (ds := [sS "sealed", eNote x]) (d := eNote x) (ed_name 4) rfl) rfl) ea_nil)) (by simp)) (ed_name 0) muD rfl ?_)
        refine f_one (f_dropD (wd' := come mn m t x.life x.done { wd with wheel := (wd.wheel.1 + 1, x.mark) }) (ek_dm (mn := mn) (wd := { wd with wheel := (wd.wheel.1 + 1, x.mark) }) cCome (hr.mono (by decide)) (ea_cons (ed_name 0) (ea_cons (ed_name 1) (ea_cons (ed_name 2) (ea_cons (ed_ixc (ds := [eN x.num, eOm x.mark, eL x.life, eN x.done]) (d := eL x.life) (ed_ixc (ds := [sS "sealed", eNote x]) (d := eNote x) (ed_name 4) rfl) rfl) (ea_cons (ed_ixc (ds := [eN x.num, eOm x.mark, eL x.life, eN x.done]) (d := eN x.done) (ed_ixc (ds := [sS "sealed", eNote x]) (d := eNote x) (ed_name 4) rfl) rfl) ea_nil))))) toA ⟨m, k, t, x.life, x.done, hs, hst.1, Nat.le_trans hst.2.2 (by omega), hst.2.1, hz.mono, rfl, rfl⟩ muD ⟨trivial, trivial, trivial, trivial, trivial, trivial, trivial, trivial⟩) ?_)
        refine f_skip (x := false) (et_w (ew_and (x := true) (y := false) (et_eq (d := sS "turn") (e := sS "turn") hr (ed_ixc (ds := [sS "turn"]) (ed_name 3) rfl) ed_str (tp_shaped .turn) (tp_shaped .turn)) fun _ => ew_and1 (et_eq (d := sS "sealed") (e := sS "ready") hr (ed_ixc (ds := [sS "sealed", eNote x]) (ed_name 4) rfl) ed_str (tg_shaped (.sealed x)) (tg_shaped (.ready [] 0))))) ?_ rfl
        refine f_skip (x := false) (et_eq (d := sS "turn") (e := sS "seal") hr (ed_ixc (ds := [sS "turn"]) (ed_name 3) rfl) ed_str (tp_shaped .turn) (tp_shaped .sel)) ?_ rfl
        refine f_one (f_if (x := false) (et_eq (d := sS "turn") (e := sS "cut") hr (ed_ixc (ds := [sS "turn"]) (ed_name 3) rfl) ed_str (tp_shaped .turn) (tp_shaped .cut)) (fun e => by cases e) fun _ => f_nil ?_)
        refine r_end q ⟨rfl, congrArg (aD G K NB d mn) ?_⟩
        rw [stp_turnS h1, h1]
      | ready l j =>
        rw [h1] at hst
        obtain ⟨hv, hl5, hj⟩ := hst
        have hx : (rowOf m t l)[j]? = some (rowOf m t l)[j] := List.getElem?_eq_getElem hj
        refine f_skip (x := false) (et_w (ew_and (x := true) (y := false) (et_eq (d := sS "turn") (e := sS "turn") hr (ed_ixc (ds := [sS "turn"]) (ed_name 3) rfl) ed_str (tp_shaped .turn) (tp_shaped .turn)) fun _ => ew_and1 (et_eq (d := sS "ready") (e := sS "sealed") hr (ed_ixc (ds := [sS "ready", eL l, eN j]) (ed_name 4) rfl) ed_str (tg_shaped (.ready [] 0)) (tg_shaped (.sealed ⟨0, none, [], 0⟩))))) ?_ rfl
        refine f_cons (f_if (x := true) (et_w (ew_and (x := true) (y := true) (et_eq (d := sS "turn") (e := sS "turn") hr (ed_ixc (ds := [sS "turn"]) (ed_name 3) rfl) ed_str (tp_shaped .turn) (tp_shaped .turn)) fun _ => ew_and1 (et_eq (d := sS "ready") (e := sS "ready") hr (ed_ixc (ds := [sS "ready", eL l, eN j]) (ed_name 4) rfl) ed_str (tg_shaped (.ready [] 0)) (tg_shaped (.ready [] 0))))) (fun _ => ?_) fun e => by cases e)
        refine f_cons (f_set 5 (r := .d (eL (rowOf m t l))) ?_ ?_ nd)
        · have e1 : ¬ l = [] := fun z => by
            subst z
            simp [rowOf] at hj
          obtain ⟨r, o, rfl⟩ := snoc_of e1
          obtain ⟨h3, h4⟩ := lv_snoc.mp hv
          obtain ⟨st, op, e1, e2, e3, _⟩ := hs.row h4
          have h5 : r.length ≤ 1000 := by simp at hl5; omega
          refine Ed.to (ed_ix (ds := st.map eL) (d := eL op) (i := o) (ed_ix (ds := t.map eRs) (d := eRs st) (i := behind m r) (ed_name 2)
            (ed_pu (rs := [.d (eM m), .d (eL r)]) cBehind (hr.mono (by decide)) (ea_cons (ed_name 1) (ea_cons (Ed.to (ed_sl (ds := (r ++ [o]).map eN) (l := none) (u := some (-1)) (ed_ixc (ds := [sS "ready", eL (r ++ [o]), eN j]) (d := eL (r ++ [o])) (ed_name 4) rfl) eo_none (eo_some (ed_neg ed_int))) (by rw [cut_init, List.dropLast_concat] <;> rfl)) ea_nil)) ⟨m, r, h3, h5, rfl, rfl⟩) (map_at e1))
            (ed_ixl (ds := (r ++ [o]).map eN) (ed_ixc (ds := [sS "ready", eL (r ++ [o]), eN j]) (d := eL (r ++ [o])) (ed_name 4) rfl) map_last) (map_at e2)) (by rw [rowOf_snoc, e3])
        refine f_cons (f_dst 0 (wd' := { wd with wheel := (wd.wheel.1 + 1, (rowOf m t l)[j]?) }) (r := .d (eWh (wd.wheel.1 + 1, (rowOf m t l)[j]?))) hr (Ed.to (ed_tup (ds := [eN (wd.wheel.1 + 1), eN (rowOf m t l)[j]]) (ea_cons (Ed.to (ed_add (ed_ixc (ds := [eN wd.wheel.1, eOm wd.wheel.2]) (d := eN wd.wheel.1) (ed_wd 0 hr dI (ed_name 0)) rfl) ed_int) (eN1 _)) (ea_cons (ed_ix (ds := (rowOf m t l).map eN) (i := j) (ed_name 5) (ed_ixc (ds := [sS "ready", eL l, eN j]) (d := eN j) (ed_name 4) rfl) (map_at hx)) ea_nil)) (by simp)) (by rw [hx] <;> rfl)) (ed_name 0) muD rfl ?_)
        refine f_one (f_dst 2 (wd' := { wd with wheel := (wd.wheel.1 + 1, (rowOf m t l)[j]?), stand := .bare l (j + 1) }) hr (ed_tup (ds := [sS "bare", eL l, eN (j + 1)]) (ea_cons ed_str (ea_cons (ed_ixc (ds := [sS "ready", eL l, eN j]) (d := eL l) (ed_name 4) rfl) (ea_cons (Ed.to (ed_add (ed_ixc (ds := [sS "ready", eL l, eN j]) (d := eN j) (ed_name 4) rfl) ed_int) (eN1 _)) ea_nil))) (by simp)) (ed_name 0) muD rfl ?_)
        refine f_skip (x := false) (et_eq (d := sS "turn") (e := sS "seal") hr (ed_ixc (ds := [sS "turn"]) (ed_name 3) rfl) ed_str (tp_shaped .turn) (tp_shaped .sel)) ?_ rfl
        refine f_one (f_if (x := false) (et_eq (d := sS "turn") (e := sS "cut") hr (ed_ixc (ds := [sS "turn"]) (ed_name 3) rfl) ed_str (tp_shaped .turn) (tp_shaped .cut)) (fun e => by cases e) fun _ => f_nil ?_)
        refine r_end q ⟨rfl, congrArg (aD G K NB d mn) ?_⟩ (hAB := toA)
        rw [stp_turnR h1]
      | _ => simp [doable, h1] at hd
    | cut =>
      refine f_skip (x := false) (et_eq (d := sS "cut") (e := sS "boot") hr (ed_ixc (ds := [sS "cut"]) (ed_name 3) rfl) ed_str (tp_shaped .cut) (tp_shaped (.boot ⟨0, none, [], 0⟩))) ?_ rfl
      refine f_skip (x := false) (et_eq (d := sS "cut") (e := sS "ask") hr (ed_ixc (ds := [sS "cut"]) (ed_name 3) rfl) ed_str (tp_shaped .cut) (tp_shaped (.ask 0))) ?_ rfl
      refine f_skip (x := false) (et_w (ew_and (x := false) (y := true) (et_eq (d := sS "cut") (e := sS "turn") hr (ed_ixc (ds := [sS "cut"]) (ed_name 3) rfl) ed_str (tp_shaped .cut) (tp_shaped .turn)) (fun e => by cases e))) ?_ rfl
      refine f_skip (x := false) (et_w (ew_and (x := false) (y := true) (et_eq (d := sS "cut") (e := sS "turn") hr (ed_ixc (ds := [sS "cut"]) (ed_name 3) rfl) ed_str (tp_shaped .cut) (tp_shaped .turn)) (fun e => by cases e))) ?_ rfl
      refine f_skip (x := false) (et_eq (d := sS "cut") (e := sS "seal") hr (ed_ixc (ds := [sS "cut"]) (ed_name 3) rfl) ed_str (tp_shaped .cut) (tp_shaped .sel)) ?_ rfl
      exact f_one (f_if (x := true) (et_eq (d := sS "cut") (e := sS "cut") hr (ed_ixc (ds := [sS "cut"]) (ed_name 3) rfl) ed_str (tp_shaped .cut) (tp_shaped .cut)) (fun _ => f_one (f_dst 2 (wd' := { wd with stand := .off }) hr (ed_tup (ds := [sS "off"]) (ea_cons ed_str ea_nil) (by simp)) (ed_name 0) muD rfl (r_end q ⟨rfl, rfl⟩ (hAB := toA)))) fun e => by cases e)
    | sel =>
      refine f_skip (x := false) (et_eq (d := sS "seal") (e := sS "boot") hr (ed_ixc (ds := [sS "seal"]) (ed_name 3) rfl) ed_str (tp_shaped .sel) (tp_shaped (.boot ⟨0, none, [], 0⟩))) ?_ rfl
      refine f_skip (x := false) (et_eq (d := sS "seal") (e := sS "ask") hr (ed_ixc (ds := [sS "seal"]) (ed_name 3) rfl) ed_str (tp_shaped .sel) (tp_shaped (.ask 0))) ?_ rfl
      refine f_skip (x := false) (et_w (ew_and (x := false) (y := true) (et_eq (d := sS "seal") (e := sS "turn") hr (ed_ixc (ds := [sS "seal"]) (ed_name 3) rfl) ed_str (tp_shaped .sel) (tp_shaped .turn)) (fun e => by cases e))) ?_ rfl
      refine f_skip (x := false) (et_w (ew_and (x := false) (y := true) (et_eq (d := sS "seal") (e := sS "turn") hr (ed_ixc (ds := [sS "seal"]) (ed_name 3) rfl) ed_str (tp_shaped .sel) (tp_shaped .turn)) (fun e => by cases e))) ?_ rfl
      cases h1 : wd.stand with
      | bare l j =>
        rw [h1] at hst
        obtain ⟨hv, hl5, hj⟩ := hst
        refine f_cons (f_if (x := true) (et_eq (d := sS "seal") (e := sS "seal") hr (ed_ixc (ds := [sS "seal"]) (ed_name 3) rfl) ed_str (tp_shaped .sel) (tp_shaped .sel)) (fun _ => ?_) fun e => by cases e)
        generalize hnote : (⟨wd.wheel.1, wd.wheel.2, l, j⟩ : Note) = x
        refine f_cons (f_set 6 (r := .d (eNote x)) (Ed.to (ed_cat (ds := [eN wd.wheel.1, eOm wd.wheel.2]) (es := [eL l, eN j]) (ed_wd 0 hr dI (ed_name 0)) (Ed.to (ed_sl (ds := [sS "bare", eL l, eN j]) (l := some 1) (u := none) (ed_name 4) (eo_some ed_int) eo_none) rfl) (by simp)) (by rw [← hnote] <;> rfl)) ?_ nd)
        refine f_cons (f_dstN 1 (wd' := sealN x wd) (ds := (sealN x wd).shelf.map eNote) (fun a => a) (fun _ => he) (fun _ => sp) hr (en_put hr (ed_name 0) (ed_name 0) (ed_name 6) (ed_name 6) (by have := hz.2.1; omega)) (ed_name 0) muD (fun a => rfl) (fun sh => ?_))
        refine f_one (f_dropD (wd' := come mn m t l j (sealN x wd)) (ek_dm (mn := mn) (wd := sealN x wd) cCome (hr.mono (by decide)) (ea_cons (ed_name 0) (ea_cons (ed_name 1) (ea_cons (ed_name 2) (ea_cons (ed_ixc (ds := [sS "bare", eL l, eN j]) (d := eL l) (ed_name 4) rfl) (ea_cons (ed_ixc (ds := [sS "bare", eL l, eN j]) (d := eN j) (ed_name 4) rfl) ea_nil))))) toA ⟨m, k, t, l, j, hs, hv, Nat.le_trans hl5 (by omega), hj, (hz.seal_ (x := x)).mono, rfl, rfl⟩ muD ⟨trivial, trivial, trivial, trivial, trivial, trivial, trivial, trivial⟩) ?_)
        refine f_one (f_if (x := false) (et_eq (d := sS "seal") (e := sS "cut") hr (ed_ixc (ds := [sS "seal"]) (ed_name 3) rfl) ed_str (tp_shaped .sel) (tp_shaped .cut)) (fun e => by cases e) fun _ => f_nil ?_)
        refine r_end q ⟨rfl, congrArg (aD G K NB d mn) ?_⟩
        rw [stp_sel h1, hnote]
      | _ => simp [doable, h1] at hd)
    fun _ _ _ _ _ _ us hl => match us, hl with | [_, _, _, _], _ => rfl
end
end Wb

namespace Wb
open PySem PySem.Spec PyProof.Rows L2
section
variable {X : Cx} {G : Addr → Prop} {ρ : List Sv} {J : As G}
/-! ### isinstance, told by slots -/
def VTy (r : Sv) (ty : String) : Prop := ∀ (K : PySem.W.Frag) (H : Hp) (v : V), SvOk K H r (some v) → TyX K H v (.type ty)
theorem vt_d (d : PyData) : VTy (.d d) (tyD d) := fun K H v s => by
  obtain ⟨_, e1, d1⟩ := s
  cases e1
  exact d1.ty
theorem vt_l (a : Addr) (ds : List PyData) : VTy (.l a ds) "list" := fun K H v s => by
  obtain ⟨e1, xs, hx, _⟩ := s
  cases e1
  exact .base (.lst hx)
theorem ed_isG {e : Expr} {r : Sv} {ty T : String} {b : Bool} {p p2 pos : Pos} (vt : VTy r ty) (h : Ed X G e ρ J r) (hk : kitB ty T = some b) (hm : X.mg "isinstance" = none) (hT : X.mg (Str.ofString T) = none) (hbt : bootBuiltins (Str.ofString T) = some (.type T)) (hn : (Str.ofString T) ≠ "__name__") (hdd : ((Str.ofString T) == ("__debug__" : Str)) = false)
    (hgT : Gl X (Str.ofString T) := by rfl) (hg : Gl X "isinstance" := by rfl) (he : starEach [e, .Name (Str.ofString T) p2] X.env = (false, eval e X.env) :: starEach [.Name (Str.ofString T) p2] X.env := by rfl)
    (he2 : starEach [.Name (Str.ofString T) p2] X.env = (false, eval (.Name (Str.ofString T) p2) X.env) :: starEach [] X.env := by rfl) (hpl : (backTo pos (starEach [.Name (Str.ofString T) p2] X.env)).any (·.1) = false := by rfl) :
    Ed X G (.Call (.Name "isinstance" p) [e, .Name (Str.ofString T) p2] [] pos) ρ J (.d (.bool b)) := fun σ H Q s t j q =>
  ⟨_, pe_callB call_isi hg hm (by decide +kernel) (pa_cons pe_c (pa_cons (pe_bltn (v := .ty T) hgT hT hbt rfl hn hdd) pa_nil he2) he) (by decide) (by decide) he hpl, h σ H _ s t j fun v H1 s1 g1 =>
    ⟨v, .ty T, .type ty, .type T, b, rfl, .ty T, vt X.K H1 v s1, kit_ty hk, q _ H1 ⟨_, rfl, .bl b⟩ g1⟩⟩
theorem ed_isT2 {e : Expr} {r : Sv} {ty T1 T2 : String} {b : Bool} {k : Nat} {p p1 p2 p3 pos : Pos} (vt : VTy r ty) (h : Ed X G e ρ J r) (hk : ∀ K : PySem.W.Frag, PySem.W.kitAny K (.type ty) [.type T1, .type T2] = some b) (hm : X.mg "isinstance" = none) (hT1 : X.mg (Str.ofString T1) = none) (hT2 : X.mg (Str.ofString T2) = none) (hb1 : bootBuiltins (Str.ofString T1) = some (.type T1)) (hb2 : bootBuiltins (Str.ofString T2) = some (.type T2)) (hn1 : (Str.ofString T1) ≠ "__name__") (hd1 : ((Str.ofString T1) == ("__debug__" : Str)) = false) (hn2 : (Str.ofString T2) ≠ "__name__") (hd2 : ((Str.ofString T2) == ("__debug__" : Str)) = false)
    (hg1 : Gl X (Str.ofString T1) := by rfl) (hg2 : Gl X (Str.ofString T2) := by rfl) (hg : Gl X "isinstance" := by rfl)
    (he : starEach [e, .Tuple [.Name (Str.ofString T1) p1, .Name (Str.ofString T2) p2] k p3] X.env = (false, eval e X.env) :: starEach [.Tuple [.Name (Str.ofString T1) p1, .Name (Str.ofString T2) p2] k p3] X.env := by rfl)
    (he2 : starEach [.Tuple [.Name (Str.ofString T1) p1, .Name (Str.ofString T2) p2] k p3] X.env = (false, eval (.Tuple [.Name (Str.ofString T1) p1, .Name (Str.ofString T2) p2] k p3) X.env) :: starEach [] X.env := by rfl)
    (he3 : starEach [.Name (Str.ofString T1) p1, .Name (Str.ofString T2) p2] X.env = (false, eval (.Name (Str.ofString T1) p1) X.env) :: starEach [.Name (Str.ofString T2) p2] X.env := by rfl)
    (he4 : starEach [.Name (Str.ofString T2) p2] X.env = (false, eval (.Name (Str.ofString T2) p2) X.env) :: starEach [] X.env := by rfl)
    (hpl : (backTo pos (starEach [.Tuple [.Name (Str.ofString T1) p1, .Name (Str.ofString T2) p2] k p3] X.env)).any (·.1) = false := by rfl) :
    Ed X G (.Call (.Name "isinstance" p) [e, .Tuple [.Name (Str.ofString T1) p1, .Name (Str.ofString T2) p2] k p3] [] pos) ρ J (.d (.bool b)) := fun σ H Q s t j q =>
  ⟨_, pe_callB call_isiT hg hm (by decide +kernel) (pa_cons pe_c (pa_cons (pe_tup (pa_cons (pe_bltn (v := .ty T1) hg1 hT1 hb1 rfl hn1 hd1) (pa_cons (pe_bltn (v := .ty T2) hg2 hT2 hb2 rfl hn2 hd2) pa_nil he4) he3)) pa_nil he2) he) (by decide) (by decide) he hpl, h σ H _ s t j fun v H1 s1 g1 => by
    refine ⟨show (2 : Nat) ≤ sizeLine by decide, fun p hp => ?_⟩
    have g2 : Gr G [] H1 (upd H1 p (.tup [.ty T1, .ty T2])) := Gr.new hp
    exact ⟨v, p, _, .type ty, [.type T1, .type T2], b, rfl, upd_same, .cons (.ty T1) (.cons (.ty T2) .nil), vt X.K _ v (s1.g0 g2 (t.up g1)), hk X.K, q _ _ ⟨_, rfl, .bl b⟩ (g1.trans g2)⟩⟩
end
theorem kit2 {ty T1 T2 : String} {b1 b2 : Bool} (h1 : kitB ty T1 = some b1) (h2 : kitB ty T2 = some b2) (K : PySem.W.Frag) : PySem.W.kitAny K (.type ty) [.type T1, .type T2] = some (b1 || b2) :=
  kitAny_cons (kit_ty h1) (fun e => by subst e; exact kitAny_cons (kit_ty h2) (fun e => by subst e; exact kitAny_nil) (fun e => by rw [e] <;> rfl)) (fun e => by rw [e] <;> rfl)
theorem k_tT (K : PySem.W.Frag) : PySem.W.kitAny K (.type "tuple") [.type "tuple", .type "list"] = some true := kit2 k_tt k_tl K
theorem k_lT (K : PySem.W.Frag) : PySem.W.kitAny K (.type "list") [.type "tuple", .type "list"] = some true := kit2 (b1 := false) (b2 := true) (by decide +kernel) k_ll K
theorem k_nT (K : PySem.W.Frag) : PySem.W.kitAny K (.type "NoneType") [.type "tuple", .type "list"] = some false := kit2 (b1 := false) (b2 := false) (by decide +kernel) (by decide +kernel) K
theorem k_iT (K : PySem.W.Frag) : PySem.W.kitAny K (.type "int") [.type "tuple", .type "list"] = some false := kit2 (b1 := false) (b2 := false) (by decide +kernel) (by decide +kernel) K
theorem k_sT (K : PySem.W.Frag) : PySem.W.kitAny K (.type "str") [.type "tuple", .type "list"] = some false := kit2 (b1 := false) (b2 := false) (by decide +kernel) (by decide +kernel) K
theorem eqv_same {n : Nat} {d : PyData} (h : cn n d = true) : PyData.eqv d d = true := (cn_eqv n d d h h).mpr rfl
/-! ### _law_alike -/
def Alk : Nat → PyData → Prop
  | _, .none => True
  | _, .int _ => True
  | _, .str x => PyData.strOk x = true
  | n + 1, .tuple ds => ds.length ≤ 100000 ∧ ∀ d ∈ ds, Alk n d
  | _, _ => False
def fAlike (n : Nat) (rs : List Sv) (r : Sv) : Prop := r = .d (.bool true) ∧ ((∃ x, Alk n x ∧ rs = [.d x, .d x]) ∨ ∃ (a b : Addr) (ds : List PyData) (k : Nat), n = k + 1 ∧ ds.length ≤ 100000 ∧ (∀ d ∈ ds, Alk k d) ∧ rs = [.l a ds, .l b ds])
section
variable {P : Program} {w : World} {K : PySem.W.Frag} {mg : Str → Option Value} {base : Heap} {G : Addr → Prop}
abbrev nAl : List Str := ["_law_found", "_law_due", "_law_k"]
theorem scAl : FnScope nAl ["_law_found", "_law_due"] (defScope (top 58)) := ⟨rfl, rfl, rfl, by decide +kernel, rfl, by decide +kernel, by decide +kernel⟩
theorem alike_step (E : Ev K mg) (h : Dg K mg "_law_alike" (top 58)) (n : Nat) (ih : ∀ k, n = k + 1 → Cal P w K mg base n "_law_alike" (spS K G (Pu (fAlike k))) []) : Cal P w K mg base (n + 1) "_law_alike" (spS K G (Pu (fAlike n))) [] :=
  cal_of h (fun f fd F => ok_S F scAl (fun rs A ms Post ⟨_, ⟨_, e⟩, _⟩ => by
      rcases e with ⟨_, _, e⟩ | ⟨_, _, _, _, _, _, _, e⟩ <;> rw [e] <;> rfl) fun c' A' outer s H E0 hcd hr rs A ms Post vs Q hR sa ha q => by
    obtain ⟨r, ⟨rfl, hR⟩, rfl, rfl, rfl⟩ := hR
    rcases hR with ⟨x, hx, rfl⟩ | ⟨a, b, ds, k, rfl, hlen, hds, rfl⟩
    · cases x with
      | none =>
        refine f_skip (x := false) (et_val (ed_isT2 (T1 := "tuple") (T2 := "list") (vt_d .none) (ed_name 1) k_nT E.isin E.tuple E.list (by decide +kernel) (by decide +kernel) (by decide) (by decide) (by decide) (by decide))) ?_ rfl
        refine f_cons (f_if (x := true) (et_w (ew_or (x := true) (y := true) (et_isN (d := .none) (ed_name 1)) fun _ => ew_or1 (by contradiction))) (fun _ => ?_) fun e => by cases e)
        refine f_one (r_ed q (Ed.to (ed_and (x := true) (y := true) (Ed.to (ed_eq (d := .none) (e := .none) hr (ed_name 0) (ed_name 1) (cn_shaped (n := 0) rfl) (cn_shaped (n := 0) rfl)) (by rw [eqv_same (n := 0) rfl])) fun _ => ed_one (Ed.to (ed_eq (d := .bool false) (e := .bool false) hr (ed_isG (T := "str") (vt_d .none) (ed_name 0) k_ns E.isin E.str (by decide +kernel) (by decide) (by decide)) (ed_isG (T := "str") (vt_d .none) (ed_name 1) k_ns E.isin E.str (by decide +kernel) (by decide) (by decide)) (by decide +kernel) (by decide +kernel)) rfl)) rfl) ⟨rfl, rfl⟩)
      | int i =>
        refine f_skip (x := false) (et_val (ed_isT2 (T1 := "tuple") (T2 := "list") (vt_d (.int i)) (ed_name 1) k_iT E.isin E.tuple E.list (by decide +kernel) (by decide +kernel) (by decide) (by decide) (by decide) (by decide))) ?_ rfl
        refine f_skip (x := false) (et_w (ew_or (x := false) (y := false) (et_isN (d := (.int i)) (ed_name 1)) fun _ => ew_or1 (et_val (ed_isG (T := "str") (vt_d (.int i)) (ed_name 1) k_is E.isin E.str (by decide +kernel) (by decide) (by decide))))) ?_ rfl
        refine f_one (r_ed q (Ed.to (ed_and (x := true) (y := true) (ed_isG (T := "int") (vt_d (.int i)) (ed_name 0) k_ii E.isin E.int (by decide +kernel) (by decide) (by decide)) fun _ => Ed.to (ed_and (x := true) (y := true) (Ed.to (ed_eq (d := .bool false) (e := .bool false) hr (ed_isG (T := "bool") (vt_d (.int i)) (ed_name 0) k_ib E.isin E.bool (by decide +kernel) (by decide) (by decide)) (ed_isG (T := "bool") (vt_d (.int i)) (ed_name 1) k_ib E.isin E.bool (by decide +kernel) (by decide) (by decide)) (by decide +kernel) (by decide +kernel)) rfl) fun _ => ed_one (Ed.to (ed_eq (d := (.int i)) (e := (.int i)) hr (ed_name 0) (ed_name 1) rfl rfl) (by rw [eqv_same (n := 0) rfl]))) rfl) rfl) ⟨rfl, rfl⟩)
      | str x =>
        have hx : cn 0 (.str x) = true := by cases n <;> exact hx
        refine f_skip (x := false) (et_val (ed_isT2 (T1 := "tuple") (T2 := "list") (vt_d (.str x)) (ed_name 1) k_sT E.isin E.tuple E.list (by decide +kernel) (by decide +kernel) (by decide) (by decide) (by decide) (by decide))) ?_ rfl
        refine f_cons (f_if (x := true) (et_w (ew_or (x := false) (y := true) (et_isN (d := (.str x)) (ed_name 1)) fun _ => ew_or1 (Et.to (et_val (ed_isG (T := "str") (vt_d (.str x)) (ed_name 1) k_ss E.isin E.str (by decide +kernel) (by decide) (by decide))) rfl))) (fun _ => ?_) fun e => by cases e)
        refine f_one (r_ed q (Ed.to (ed_and (x := true) (y := true) (Ed.to (ed_eq (d := (.str x)) (e := (.str x)) hr (ed_name 0) (ed_name 1) (cn_shaped (n := 0) hx) (cn_shaped (n := 0) hx)) (by rw [eqv_same (n := 0) hx])) fun _ => ed_one (Ed.to (ed_eq (d := .bool true) (e := .bool true) hr (ed_isG (T := "str") (vt_d (.str x)) (ed_name 0) k_ss E.isin E.str (by decide +kernel) (by decide) (by decide)) (ed_isG (T := "str") (vt_d (.str x)) (ed_name 1) k_ss E.isin E.str (by decide +kernel) (by decide) (by decide)) (by decide +kernel) (by decide +kernel)) rfl)) rfl) ⟨rfl, rfl⟩)
      | tuple ds =>
        cases n with
        | zero => exact hx.elim
        | succ k =>
          obtain ⟨hlen, hds⟩ := hx
          have ih := ih k rfl
          refine f_cons (f_if (x := true) (et_val (ed_isT2 (T1 := "tuple") (T2 := "list") (vt_d (.tuple ds)) (ed_name 1) k_tT E.isin E.tuple E.list (by decide +kernel) (by decide +kernel) (by decide) (by decide) (by decide) (by decide))) (fun _ => ?_) fun e => by cases e)
          refine f_skip (x := false) (et_w (ew_or (x := false) (y := false) (et_not (b := true) (et_val (ed_isT2 (T1 := "tuple") (T2 := "list") (vt_d (.tuple ds)) (ed_name 0) k_tT E.isin E.tuple E.list (by decide +kernel) (by decide +kernel) (by decide) (by decide) (by decide) (by decide)))) fun _ => ew_or1 (Et.to (et_ne (d := .bool false) (e := .bool false) hr (ed_isG (T := "list") (vt_d (.tuple ds)) (ed_name 0) k_tl E.isin E.list (by decide +kernel) (by decide) (by decide)) (ed_isG (T := "list") (vt_d (.tuple ds)) (ed_name 1) k_tl E.isin E.list (by decide +kernel) (by decide) (by decide)) (by decide +kernel) (by decide +kernel)) (by decide +kernel)))) ?_ rfl
          refine f_skip (x := false) (Et.to (et_ne (d := eN ds.length) (e := eN ds.length) hr (ed_lenT (ds := ds) E.len (ed_name 0)) (ed_lenT (ds := ds) E.len (ed_name 1)) rfl rfl) (by rw [eqvN]; simp)) ?_ rfl
          refine f_one (r_ed q (Ed.to (ed_eqN (ds := []) (es := []) hr (En.to (en_lc 2 (ds := rngD 0 ds.length) (fun _ => false) (fun d => d) (ep_rng1 (n := ds.length) E.range (ed_lenT (ds := ds) E.len (ed_name 1)) (by omega)) (by simp [rngD]; omega) (fun d hd s H0 C' cl fp => .one ?_) (fun d hd e s H0 C' cl fp => by cases e) scAl.nd (blkOk_by (N := nAl) (sc := defScope (top 58)) (by decide +kernel))) (by simp [keepM])) (en_lst (ds := []) ea_nil (by decide)) (by decide +kernel) (by decide +kernel)) rfl) ⟨rfl, rfl⟩)
          unfold rngD at hd
          obtain ⟨i', hi', rfl⟩ := List.mem_map.mp hd
          have hil : i' < ds.length := by
            have := List.mem_range'_1.mp hi'
            omega
          obtain ⟨d, ej⟩ : ∃ d, ds[i']? = some d := ⟨_, List.getElem?_eq_getElem hil⟩
          exact et_not (b := true) (et_val (ed_pu (rs := [.d d, .d d]) ih hr (ea_cons (ed_ix (ds := ds) (i := i') (ed_name 0) (ed_name 2) ej) (ea_cons (ed_ix (ds := ds) (i := i') (ed_name 1) (ed_name 2) ej) ea_nil)) ⟨rfl, .inl ⟨d, hds d (List.mem_of_getElem? ej), rfl⟩⟩))
      | bool y => cases n <;> exact hx.elim
      | list y => cases n <;> exact hx.elim
      | dict y => cases n <;> exact hx.elim
    · have ih := ih k rfl
      refine f_cons (f_if (x := true) (et_val (ed_isT2 (T1 := "tuple") (T2 := "list") (vt_l b ds) (ed_name 1) k_lT E.isin E.tuple E.list (by decide +kernel) (by decide +kernel) (by decide) (by decide) (by decide) (by decide))) (fun _ => ?_) fun e => by cases e)
      refine f_skip (x := false) (et_w (ew_or (x := false) (y := false) (et_not (b := true) (et_val (ed_isT2 (T1 := "tuple") (T2 := "list") (vt_l a ds) (ed_name 0) k_lT E.isin E.tuple E.list (by decide +kernel) (by decide +kernel) (by decide) (by decide) (by decide) (by decide)))) fun _ => ew_or1 (Et.to (et_ne (d := .bool true) (e := .bool true) hr (ed_isG (T := "list") (vt_l a ds) (ed_name 0) k_ll E.isin E.list (by decide +kernel) (by decide) (by decide)) (ed_isG (T := "list") (vt_l b ds) (ed_name 1) k_ll E.isin E.list (by decide +kernel) (by decide) (by decide)) (by decide +kernel) (by decide +kernel)) (by decide +kernel)))) ?_ rfl
      refine f_skip (x := false) (Et.to (et_ne (d := eN ds.length) (e := eN ds.length) hr (ed_lenL (a := a) (ds := ds) E.len (ed_name 0)) (ed_lenL (a := b) (ds := ds) E.len (ed_name 1)) rfl rfl) (by rw [eqvN]; simp)) ?_ rfl
      refine f_one (r_ed q (Ed.to (ed_eqN (ds := []) (es := []) hr (En.to (en_lc 2 (ds := rngD 0 ds.length) (fun _ => false) (fun d => d) (ep_rng1 (n := ds.length) E.range (ed_lenL (a := b) (ds := ds) E.len (ed_name 1)) (by omega)) (by simp [rngD]; omega) (fun d hd s H0 C' cl fp => .one ?_) (fun d hd e s H0 C' cl fp => by cases e) scAl.nd (blkOk_by (N := nAl) (sc := defScope (top 58)) (by decide +kernel))) (by simp [keepM])) (en_lst (ds := []) ea_nil (by decide)) (by decide +kernel) (by decide +kernel)) rfl) ⟨rfl, rfl⟩)
      unfold rngD at hd
      obtain ⟨i', hi', rfl⟩ := List.mem_map.mp hd
      have hil : i' < ds.length := by
        have := List.mem_range'_1.mp hi'
        omega
      obtain ⟨d, ej⟩ : ∃ d, ds[i']? = some d := ⟨_, List.getElem?_eq_getElem hil⟩
      exact et_not (b := true) (et_val (ed_pu (rs := [.d d, .d d]) ih hr (ea_cons (ed_ixL (p := a) (ds := ds) (i := i') (ed_name 0) (ed_name 2) ej) (ea_cons (ed_ixL (p := b) (ds := ds) (i := i') (ed_name 1) (ed_name 2) ej) ea_nil)) ⟨rfl, .inl ⟨d, hds d (List.mem_of_getElem? ej), rfl⟩⟩)))
    fun _ _ _ _ _ _ us hl => match us, hl with | [_, _], _ => rfl
theorem ok_alike (E : Ev K mg) (h : Dg K mg "_law_alike" (top 58)) : ∀ n, Cal P w K mg base (n + 1) "_law_alike" (spS K G (Pu (fAlike n))) []
  | 0 => alike_step E h 0 fun k e => by cases e
  | n + 1 => alike_step E h (n + 1) fun k e => by
    injection e with e
    subst e
    exact ok_alike E h n
end
end Wb

namespace Wb
open PySem PySem.Spec PyProof.Rows L2
/-! ### data that _law_alike goes through -/
theorem alk_N (n a : Nat) : Alk n (eN a) := by cases n <;> trivial
theorem alk_Om (n : Nat) (a : Option Nat) : Alk n (eOm a) := by cases a <;> cases n <;> trivial
theorem alk_map {α : Type} {f : α → PyData} {n : Nat} {xs : List α} (h : xs.length ≤ 100000) (hx : ∀ x ∈ xs, Alk n (f x)) : Alk (n + 1) (.tuple (xs.map f)) := ⟨by rw [List.length_map]; exact h, fun d hd => by
  obtain ⟨x, h1, rfl⟩ := List.mem_map.mp hd
  exact hx x h1⟩
theorem alk_L (n : Nat) {l : Life} (h : l.length ≤ 100000) : Alk (n + 1) (eL l) := alk_map h fun x _ => alk_N n x
theorem alk_Note (n : Nat) {x : Note} (h : x.life.length ≤ 100000) : Alk (n + 2) (eNote x) := ⟨by simp, fun d hd => by
  simp at hd
  rcases hd with rfl | rfl | rfl | rfl
  · exact alk_N _ _
  · exact alk_Om _ _
  · exact alk_L n h
  · exact alk_N _ _⟩
theorem alk_Wh (n : Nat) (x : Nat × Option Nat) : Alk (n + 1) (eWh x) := ⟨by simp, fun d hd => by
  simp at hd
  rcases hd with rfl | rfl
  · exact alk_N _ _
  · exact alk_Om _ _⟩
theorem alk_S (n : Nat) {x : Str} (h : PyData.strOk x = true) : Alk n (sS x) := by cases n <;> exact h
def StLen (s : Stand) : Prop := match s with
  | .choice l => l.length ≤ 1000
  | .sealed x => x.life.length ≤ 1000
  | .ready l _ => l.length ≤ 1000
  | .bare l _ => l.length ≤ 1000
  | _ => True
theorem alk_St (n : Nat) {s : Stand} (h : StLen s) : Alk (n + 3) (eSt s) := by
  cases s with
  | off => exact ⟨by simp, fun d hd => by simp at hd; rw [hd]; exact alk_S _ (by decide +kernel)⟩
  | mute => exact ⟨by simp, fun d hd => by simp at hd; rw [hd]; exact alk_S _ (by decide +kernel)⟩
  | choice l => exact ⟨by simp, fun d hd => by
      simp at hd
      rcases hd with rfl | rfl
      · exact alk_S _ (by decide +kernel)
      · exact alk_L _ (Nat.le_trans h (by decide))⟩
  | «sealed» x => exact ⟨by simp, fun d hd => by
      simp at hd
      rcases hd with rfl | rfl
      · exact alk_S _ (by decide +kernel)
      · exact alk_Note _ (Nat.le_trans h (by decide))⟩
  | ready l j => exact ⟨by simp, fun d hd => by
      simp at hd
      rcases hd with rfl | rfl | rfl
      · exact alk_S _ (by decide +kernel)
      · exact alk_L _ (Nat.le_trans h (by decide))
      · exact alk_N _ _⟩
  | bare l j => exact ⟨by simp, fun d hd => by
      simp at hd
      rcases hd with rfl | rfl | rfl
      · exact alk_S _ (by decide +kernel)
      · exact alk_L _ (Nat.le_trans h (by decide))
      · exact alk_N _ _⟩
theorem alk_Stp (n : Nat) {s : Stp} (h : ∀ x, s = .boot x → x.life.length ≤ 1000) : Alk (n + 3) (eStp s) := by
  cases s with
  | boot x => exact ⟨by simp, fun d hd => by
      simp at hd
      rcases hd with rfl | rfl
      · exact alk_S _ (by decide +kernel)
      · exact alk_Note _ (Nat.le_trans (h x rfl) (by decide))⟩
  | ask o => exact ⟨by simp, fun d hd => by
      simp at hd
      rcases hd with rfl | rfl
      · exact alk_S _ (by decide +kernel)
      · exact alk_N _ _⟩
  | turn => exact ⟨by simp, fun d hd => by simp at hd; rw [hd]; exact alk_S _ (by decide +kernel)⟩
  | cut => exact ⟨by simp, fun d hd => by simp at hd; rw [hd]; exact alk_S _ (by decide +kernel)⟩
  | sel => exact ⟨by simp, fun d hd => by simp at hd; rw [hd]; exact alk_S _ (by decide +kernel)⟩
theorem alk_H (n : Nat) {x : Nat × Str} (h : WordOk (some x.2)) : Alk (n + 1) (eH x) := ⟨by simp, fun d hd => by
  simp at hd
  rcases hd with rfl | rfl
  · exact alk_N _ _
  · exact alk_S _ (word_str h)⟩
theorem alk_harm (n : Nat) (mn : Man) (m : Mach) (t : Tabl) (w : Wd) : Alk n (eW (harm mn m t w)) := by
  unfold harm
  split
  · exact alk_S _ (by decide +kernel)
  · split
    · exact alk_S _ (by decide +kernel)
    · cases n <;> trivial
theorem Ok.stlen {m : Mach} {t : Tabl} {n : Nat} {w : Wd} (h : Ok m t n w) (hn : n ≤ 1000) : StLen w.stand := by
  have st := h.st
  cases e : w.stand with
  | off => trivial
  | mute => trivial
  | choice l => rw [e] at st; exact Nat.le_trans st.2 hn
  | «sealed» x => rw [e] at st; exact Nat.le_trans st.2.2 hn
  | ready l j => rw [e] at st; exact Nat.le_trans st.2.1 hn
  | bare l j => rw [e] at st; exact Nat.le_trans st.2.1 hn
/-! ### frames without tables -/
theorem IAt.updL {K : PySem.W.Frag} {H : Hp} {a C p : Addr} {ns : List Str} {rs : List Sv} {xs : List V} {o : HO} (h : IAt K H a C ns rs) (e : H p = some (.lst xs)) (off : OffL [p] rs) : IAt K (upd H p o) a C ns rs := by
  have g : Gr (fun _ => False) [p] H (upd H p o) := Gr.put e trivial (by simp)
  refine IAt.frame h g (fun _ z => z.elim) ?_ off
  obtain ⟨dx, vs, h1, _⟩ := h
  intro z
  rw [List.mem_singleton.mp z, e] at h1
  cases h1
theorem DAt.frame {K : PySem.W.Frag} {H H1 : Hp} {G : Addr → Prop} {a : Addr} {ns : List Str} {rs : List Sv} {ms : List Addr} (h : DAt K H a ns rs) (g : Gr G ms H H1) (t : Tb G H) (ha : a ∉ ms) (o : OffL ms rs) : DAt K H1 a ns rs := by
  obtain ⟨vs, h1, h2, h3⟩ := h
  exact ⟨vs, g.keep a _ h1 (not_tab t h1 (fun q z => by cases z)) ha, h2, h3.up g t o⟩
theorem DAt.updL {K : PySem.W.Frag} {H : Hp} {a p : Addr} {ns : List Str} {rs : List Sv} {xs : List V} {o : HO} (h : DAt K H a ns rs) (e : H p = some (.lst xs)) (off : OffL [p] rs) : DAt K (upd H p o) a ns rs := by
  have g : Gr (fun _ => False) [p] H (upd H p o) := Gr.put e trivial (by simp)
  refine DAt.frame h g (fun _ z => z.elim) ?_ off
  obtain ⟨vs, h1, _⟩ := h
  intro z
  rw [List.mem_singleton.mp z, e] at h1
  cases h1
section
variable {G : Addr → Prop} {K : PySem.W.Frag} {CB C : Addr} {b : Bf} {wd : Wd} {sy : List Stp} {NB : List Addr} {d sh he sp : Addr} {mn : Man}
theorem aB_lists {H : Hp} (h : (aB G K CB C b wd sy).P H) : (∃ o, H b.st = some o) ∧ (∃ o, H b.c.n = some o) ∧ (∃ o, H b.c.s = some o) ∧ (∃ o, H b.c.p = some o) := by
  obtain ⟨⟨dy, ws, q1, q2, q3⟩, h2⟩ := h
  obtain ⟨_, _, _, xn, n2, _⟩ := q3.get (i := 1) (r := .l b.st (sy.map eStp)) rfl
  obtain ⟨a1, a2, a3, _⟩ := aW_lists h2
  exact ⟨⟨_, n2⟩, a1, a2, a3⟩
theorem aDx_lists {H : Hp} (h : (aDx G K NB d mn wd sh he sp).P H) : (∃ o, H sh = some o) ∧ (∃ o, H he = some o) ∧ (∃ o, H sp = some o) := by
  obtain ⟨⟨ws, q1, q2, q3⟩, _⟩ := h
  obtain ⟨_, _, _, xn, n2, _⟩ := q3.get (i := 1) (r := .l sh (wd.shelf.map eNote)) rfl
  obtain ⟨_, _, _, xs', s2, _⟩ := q3.get (i := 3) (r := .l he (wd.heard.map eH)) rfl
  obtain ⟨_, _, _, xp, pp2, _⟩ := q3.get (i := 4) (r := .l sp (wd.spoken.map eL)) rfl
  exact ⟨⟨_, n2⟩, ⟨_, s2⟩, ⟨_, pp2⟩⟩
theorem aB_upd {H : Hp} {p : Addr} {xs : List V} {o : HO} (h : (aB G K CB C b wd sy).P H) (e : H p = some (.lst xs)) (n0 : b.st ≠ p) (n1 : b.c.n ≠ p) (n2 : b.c.s ≠ p) (n3 : b.c.p ≠ p) : (aB G K CB C b wd sy).P (upd H p o) :=
  ⟨h.1.updL e (by simpa [bFs, OffL, Off] using n0), h.2.updL e (by simpa [wFs, OffL, Off] using ⟨n1, n2, n3⟩)⟩
theorem aDx_upd {H : Hp} {p : Addr} {xs : List V} {o : HO} (h : (aDx G K NB d mn wd sh he sp).P H) (e : H p = some (.lst xs)) (n1 : sh ≠ p) (n2 : he ≠ p) (n3 : sp ≠ p) : (aDx G K NB d mn wd sh he sp).P (upd H p o) :=
  ⟨h.1.updL e (by simpa [dFs, OffL, Off] using ⟨n1, n2, n3⟩), h.2.1, live_gr h.2.2 (G := G) (ms := [p]) (Gr.put e trivial (by simp))⟩
/-- the bench and the law's world -/
def aBD (G : Addr → Prop) (K : PySem.W.Frag) (CB C : Addr) (b : Bf) (wd : Wd) (sy : List Stp) (NB : List Addr) (d : Addr) : As G := (aB G K CB C b wd sy).and (aD G K NB d b.c.mn wd)
def aBDx (G : Addr → Prop) (K : PySem.W.Frag) (CB C : Addr) (b : Bf) (wd : Wd) (sy : List Stp) (NB : List Addr) (d sh he sp : Addr) : As G := (aB G K CB C b wd sy).and (aDx G K NB d b.c.mn wd sh he sp)
theorem f_open2 {X : Cx} {ρ : List Sv} {L : List (List Addr × Hp)} {Y : L2.St → Hp → Prop} (h : ∀ sh he sp, Fin X Y ρ (Jl L (aBDx G X.K CB C b wd sy NB d sh he sp))) : Fin X Y ρ (Jl L (aBD G X.K CB C b wd sy NB d)) := fun σ H s t j => by
  obtain ⟨sh, he, sp, hh⟩ := j.2.2
  exact h sh he sp σ H s t ⟨j.1, j.2.1, hh⟩
theorem toBD : ∀ H, (aBDx G K CB C b wd sy NB d sh he sp).P H → (aBD G K CB C b wd sy NB d).P H := fun _ h => ⟨h.1, sh, he, sp, h.2⟩
theorem bdB {L : List (List Addr × Hp)} : ∀ H, (Jl L (aBDx G K CB C b wd sy NB d sh he sp)).P H → (aB G K CB C b wd sy).P H := fun _ h => h.2.1
theorem bdD {L : List (List Addr × Hp)} : ∀ H, (Jl L (aBDx G K CB C b wd sy NB d sh he sp)).P H → (aDx G K NB d b.c.mn wd sh he sp).P H := fun _ h => h.2.2
theorem bdA {L : List (List Addr × Hp)} : ∀ H, (Jl L (aBDx G K CB C b wd sy NB d sh he sp)).P H → (aD G K NB d b.c.mn wd).P H := fun _ h => ⟨sh, he, sp, h.2.2⟩
/-- a new list leaves both -/
theorem aBDx_new {p : Addr} (hp : ∀ x, (∀ H, (aBDx G K CB C b wd sy NB d sh he sp).P H → ∃ o, H x = some o) → x ≠ p) : ∀ H xs ys, (aBDx G K CB C b wd sy NB d sh he sp).P H → H p = some (.lst xs) → (aBDx G K CB C b wd sy NB d sh he sp).P (upd H p (.lst ys)) := fun H xs ys h e =>
  ⟨aB_upd h.1 e (hp _ fun H h => (aB_lists h.1).1) (hp _ fun H h => (aB_lists h.1).2.1) (hp _ fun H h => (aB_lists h.1).2.2.1) (hp _ fun H h => (aB_lists h.1).2.2.2), aDx_upd h.2 e (hp _ fun H h => (aDx_lists h.2).1) (hp _ fun H h => (aDx_lists h.2).2.1) (hp _ fun H h => (aDx_lists h.2).2.2)⟩
end
section
variable {P : Program} {w : World} {K : PySem.W.Frag} {mg : Str → Option Value} {base : Heap} {G : Addr → Prop} {C CB : Addr}
/-! ### _law_stands -/
def fStands (K : PySem.W.Frag) (CB C : Addr) : List Sv → As G → List Addr → (Sv → As G → Prop) → Prop := fun rs A ms Post => ∃ (NB : List Addr) (b : Bf) (wd : Wd) (sy : List Stp) (d : Addr) (n : Nat), n ≤ 400 ∧ Ok b.c.m b.c.t n wd ∧ sy.length ≤ 1000 ∧ (∀ s ∈ sy, ∀ x, s = .boot x → x.life.length ≤ 1000) ∧
  rs = [.v (.ref b.b), .v (.ref d), .d (eM b.c.m), .d (eT b.c.t), .d (.tuple (sy.map eStp))] ∧ A = aBD G K CB C b wd sy NB d ∧ ms = [] ∧ Post = fun r B => r = .d (.bool true) ∧ B = aBD G K CB C b wd sy NB d
abbrev nSt : List Str := ["_law_bench", "_law_world_here", "_law_machine_here", "_law_table_here", "_law_story", "_law_told_here", "_law_due", "_law_note"]
theorem scSt : FnScope nSt ["_law_bench", "_law_world_here", "_law_machine_here", "_law_table_here", "_law_story"] (defScope (top 59)) := ⟨rfl, rfl, rfl, by decide +kernel, rfl, by decide +kernel, by decide +kernel⟩
def dueD (mn : Man) (m : Mach) (t : Tabl) (wd : Wd) (sy : List Stp) : List PyData := [eWh wd.wheel, .tuple (wd.shelf.map eNote), eSt wd.stand, .tuple (wd.heard.map eH), .tuple (sy.map eStp), eW (harm mn m t wd), .tuple ((wd.shelf.filter (fits mn wd)).map eNote)]
theorem due_alk {mn : Man} {m : Mach} {t : Tabl} {n : Nat} {wd : Wd} {sy : List Stp} (hn : n ≤ 400) (ok : Ok m t n wd) (hsy : sy.length ≤ 1000) (h5 : ∀ s ∈ sy, ∀ x, s = .boot x → x.life.length ≤ 1000) : ∀ d ∈ dueD mn m t wd sy, Alk 4 d := by
  intro d hd
  have hsl := ok.shl
  have hhe := ok.he
  have hno : ∀ x ∈ wd.shelf, Alk 3 (eNote x) := fun x hx => alk_Note 1 (Nat.le_trans (ok.sh x hx).2.2 (by omega))
  simp only [dueD, List.mem_cons, List.not_mem_nil, or_false] at hd
  rcases hd with rfl | rfl | rfl | rfl | rfl | rfl | rfl
  · exact alk_Wh 3 _
  · exact alk_map (by omega) hno
  · exact alk_St 1 (ok.stlen (by omega))
  · exact alk_map (by omega) fun x hx => alk_H 2 (ok.hs x hx)
  · exact alk_map (by omega) fun s hs => alk_Stp 0 (h5 s hs)
  · exact alk_harm 4 _ _ _ _
  · exact alk_map (Nat.le_trans (List.length_filter_le _ _) (by omega)) fun x hx => hno x (List.mem_filter.mp hx).1
theorem ok_stands (E : Ev K mg) (B : BFc K CB) (W : WF K C) (pWheel : Prp P w K mg base 1 CB "wheel" (spS K G (fB K CB C fWheel))) (pShelf : Prp P w K mg base 1 CB "shelf" (spS K G (fB K CB C fShelf))) (pStand : Prp P w K mg base 1 CB "stand" (spS K G (fB K CB C fStand))) (pTold : Prp P w K mg base 1 CB "told" (spS K G (fB K CB C fTell))) (pStory : Prp P w K mg base 1 CB "story" (spS K G (fB K CB C fStory)))
    (mHarm : Mth P w K mg base 8 CB "harm" (spS K G (fB K CB C fBHarm)) []) (mFit : Mth P w K mg base 2 CB "fitting" (spS K G (fB K CB C fFitting)) []) (cHarm : Cal P w K mg base 3 "_law_bad_harm" (spS K G (fD K fBH)) []) (cFits : Cal P w K mg base 1 "_law_bad_fits" (spS K G (fD K fBF)) []) (cAlike : Cal P w K mg base 6 "_law_alike" (spS K G (Pu (fAlike 5))) []) (h : Dg K mg "_law_stands" (top 59)) : Cal P w K mg base 9 "_law_stands" (spS K G (fStands K CB C)) [] :=
  cal_of h (fun f fd F => ok_S F scSt (fun rs A ms Post ⟨_, _, _, _, _, _, _, _, _, _, e, _⟩ => by rw [e] <;> rfl) fun c' A' outer s H E0 hcd hr rs A ms Post vs Q hR sa ha q => by
    obtain ⟨NB, b, wd, sy, d, n, hn, ok, hsy, h5, rfl, rfl, rfl, rfl⟩ := hR
    refine f_open2 fun sh he sp => ?_
    have nd := scSt.nd
    have hsl := ok.shl
    have hhe := ok.he
    have hsp : ∀ l ∈ wd.spoken, Lv b.c.m l ∧ l.length ≤ 1000 := fun l hl => ⟨(ok.sp l hl).1, Nat.le_trans (ok.sp l hl).2 (by omega)⟩
    have hspl : wd.spoken.length ≤ 1000 := Nat.le_trans ok.spl (by omega)
    refine f_cons (f_newL 5 (ds := dueD b.c.mn b.c.m b.c.t wd sy) (en_lst (ea_cons (ed_prp (b := b) (wd := wd) (sy := sy) pWheel (hr.mono (by decide)) (ed_name 0) bdB ⟨rfl, rfl⟩) (ea_cons (ed_prp (b := b) (wd := wd) (sy := sy) pShelf (hr.mono (by decide)) (ed_name 0) bdB ⟨rfl, rfl⟩) (ea_cons (ed_prp (b := b) (wd := wd) (sy := sy) pStand (hr.mono (by decide)) (ed_name 0) bdB ⟨rfl, rfl⟩) (ea_cons (ed_prp (b := b) (wd := wd) (sy := sy) pTold (hr.mono (by decide)) (ed_name 0) bdB ⟨rfl, rfl⟩) (ea_cons (ed_prp (b := b) (wd := wd) (sy := sy) pStory (hr.mono (by decide)) (ed_name 0) bdB ⟨rfl, rfl⟩)
      (ea_cons (ed_meth0 (ss := []) (A := aB G K CB C b wd sy) (P0 := fun r B => r = .d (eW (harm b.c.mn b.c.m b.c.t wd)) ∧ B = aB G K CB C b wd sy) mHarm hr (ed_name 0) (fun H h => (bdB H h).1) (fun _ => trivial) ⟨b, wd, sy, [], _, ⟨hsp, hspl, rfl, rfl⟩, rfl, rfl, rfl, rfl⟩ bdB (fun _ _ h => h.1))
      (ea_cons (ed_meth0 (ss := []) (A := aB G K CB C b wd sy) (P0 := fun r B => r = .d (.tuple ((wd.shelf.filter (fits b.c.mn wd)).map eNote)) ∧ B = aB G K CB C b wd sy) mFit (hr.mono (by decide)) (ed_name 0) (fun H h => (bdB H h).1) (fun _ => trivial) ⟨b, wd, sy, [], _, ⟨by omega, rfl, rfl⟩, rfl, rfl, rfl, rfl⟩ bdB (fun _ _ h => h.1)) ea_nil))))))) (by simp [dueD])) (fun a0 _ _ _ => ?_) nd)
    refine f_cons (f_newL 6 (ds := (dueD b.c.mn b.c.m b.c.t wd sy).take 5) (en_lst (ds := (dueD b.c.mn b.c.m b.c.t wd sy).take 5) (ea_cons (ed_wd 0 hr bdD (ed_name 1)) (ea_cons (ed_tupleL (a := sh) (ds := wd.shelf.map eNote) E.tuple (ed_wd 1 hr bdD (ed_name 1))) (ea_cons (ed_wd 2 hr bdD (ed_name 1)) (ea_cons (ed_tupleL (a := he) (ds := wd.heard.map eH) E.tuple (ed_wd 3 hr bdD (ed_name 1))) (ea_cons (ed_name 4) ea_nil))))) (by simp [dueD])) (fun a mu off hnew => ?_) nd)
    have hA := aBDx_new hnew
    have off6 : OffL [a] (([.v (.ref b.b), .v (.ref d), .d (eM b.c.m), .d (eT b.c.t), .d (.tuple (sy.map eStp)), .l a0 (dueD b.c.mn b.c.m b.c.t wd sy), .u, .u] : List Sv)) := off
    refine f_cons (f_appJ 6 (a := a) (ds := (dueD b.c.mn b.c.m b.c.t wd sy).take 5) (d := eW (harm b.c.mn b.c.m b.c.t wd)) (ed_d (args := [.d (eM b.c.m), .d (eT b.c.t)]) (mn := b.c.mn) (wd := wd) cHarm (hr.mono (by decide)) (ea_cons (ed_name 1) (ea_cons (ed_name 2) (ea_cons (ed_name 3) ea_nil))) ⟨b.c.m, b.c.k, b.c.t, b.c.hs, hsp, hspl, by omega, rfl, rfl⟩ bdA) (by simp [dueD]) mu off6 hA ?_)
    refine f_cons (f_appJ 6 (a := a) (ds := (dueD b.c.mn b.c.m b.c.t wd sy).take 6) (d := .tuple ((wd.shelf.filter (fits b.c.mn wd)).map eNote)) (Ed.to (ed_tupleN E.tuple (en_lc 7 (ds := wd.shelf.map eNote) (liftB eNote (fits b.c.mn wd)) (liftD eNote eNote) (ep_lst (a := sh) (ds := wd.shelf.map eNote) (ed_wd 1 hr bdD (ed_name 1)) (by simp)) (by simp; omega) (fun d' hd s H0 C' cl fp => .one ?_) (fun d' hd _ s H0 C' cl fp => ?_) nd (blkOk_by (N := nSt) (sc := defScope (top 59)) (by decide +kernel)))) (by rw [keepM_map (fun _ _ => eNote_inj)])) (by simp [dueD]) mu off6 hA ?_)
    · obtain ⟨o, ho, rfl⟩ := List.mem_map.mp hd
      rw [liftB_at (fun _ _ => eNote_inj)]
      exact et_val (ed_d (args := [.d (eNote o)]) (mn := b.c.mn) (wd := wd) cFits (hr.mono (by decide)) (ea_cons (ed_name 1) (ea_cons (ed_name 7) ea_nil)) ⟨o, rfl, rfl⟩ bdA)
    · obtain ⟨o, ho, rfl⟩ := List.mem_map.mp hd
      rw [liftD_at (fun _ _ => eNote_inj)]
      exact ed_name 7
    exact f_one (r_ed q (ed_pu (rs := [.l a0 (dueD b.c.mn b.c.m b.c.t wd sy), .l a (dueD b.c.mn b.c.m b.c.t wd sy)]) (r := .d (.bool true)) cAlike (hr.mono (by decide)) (ea_cons (ed_name 5) (ea_cons (ed_name 6) ea_nil)) ⟨rfl, .inr ⟨a0, a, _, 4, rfl, by simp [dueD], due_alk hn ok hsy h5, rfl⟩⟩) ⟨rfl, rfl⟩ (hAB := toBD)))
    fun _ _ _ _ _ _ us hl => match us, hl with | [_, _, _, _, _], _ => rfl
end
end Wb

namespace Wb
open PySem PySem.Spec PyProof.Rows L2
/-! ### a lambda handed to a def: what its making leaves is told -/
def LamTo (P : Addr) (q : Str) (H H1 : Hp) : Prop := H1 = H ∨ ∃ (ps more : Array Value) (c : Addr), H P = some (.tbl ps) ∧ H c = none ∧ H1 = upd (upd H P (.tbl (ps ++ more))) c (LamX.CodeO c q)
theorem LamTo.gr {G : Addr → Prop} {P : Addr} {q : Str} {H H1 : Hp} (l : LamTo P q H H1) (hG : ¬ G P) : Gr G [P] H H1 := by
  rcases l with rfl | ⟨ps, more, c, hP, hc, rfl⟩
  · exact Gr.refl
  · have nPc : P ≠ c := fun z => by
      rw [z, hc] at hP
      cases hP
    have ot : ∀ b o, H b = some o → b ≠ P → upd (upd H P (.tbl (ps ++ more))) c (LamX.CodeO c q) b = some o := fun b o e n => by
      rw [upd_ne (fun z => by rw [z, hc] at e; cases e), upd_ne n]
      exact e
    refine ⟨fun b o e _ n => ot b o e (by simpa using n), ⟨fun a xs e => ot a _ e fun z => ?_, fun a o u e => ot a _ e fun z => ?_⟩, fun T hT ht => ?_, fun b e => ?_⟩
    · rw [z, hP] at e
      cases e
    · rw [z, hP] at e
      cases e
    · obtain ⟨qs, h1, h2⟩ := ht
      exact ⟨qs, ot T _ h1 fun z => hG (z ▸ hT), h2⟩
    · by_cases z : b = c
      · rw [z]; exact hc
      · rw [upd_ne z] at e
        by_cases z2 : b = P
        · rw [z2, upd_same] at e
          cases e
        · rw [upd_ne z2] at e
          exact e
section
variable {X : Cx} {pins : List (Addr × Obj)} {σ : L2.St} {H : Hp} {s : Shared}
theorem lam_mk {c P : Addr} {params : Arguments} {body : Expr} {scope : Scope} {pos : Pos} {E Q : Value → Shared → Prop} (I : Inv X pins σ H s) (TB : LamX.TabB X.base X.mg c P) (hcode : X.env.code = .ref c) (hT : LamX.TabS H P (X.env.qual ++ "<lambda>"))
    (hdef : defaultsOf params X.env = ([], [])) (hfree : ∀ y ∈ scope.names, y.2 = .free → ∃ c, X.env.cells.lookup y.1 = some c)
    (h : ∀ (f c' : Addr) (pm ctv : Value) (H1 : Hp) (s' : Shared), Inv X pins σ H1 s' → LamTo P (X.env.qual ++ "<lambda>") H H1 → LamX.TabS H1 P (X.env.qual ++ "<lambda>") → H1 f = none → f ∉ frs X.stack → H1 c' = some (LamX.CodeO c' (X.env.qual ++ "<lambda>")) →
      s'.heap.get? f = some (PySem.W.kla_obj "<lambda>" (X.env.qual ++ "<lambda>") params body scope (cloFrom X.env.cells scope.names []) pm c' ctv) → Q (.ref f) s') :
    wpAny (model X.prog X.w) X.A (eval (.Lambda params body scope pos) X.env) Q E s := by
  have hT0 := hT
  obtain ⟨ps, hP, ht, ha⟩ := hT
  have hPs : s.heap.get? P = some { cls := .none, data := .fields ps } := I.hok P _ hP
  have off : ∀ f, s.heap.objs.size ≤ f → f ∉ frs X.stack := fun f hf z => by
    cases List.mem_cons.mp (I.stkSub _ z) with
    | inl e =>
      have l := I.lt
      rw [← e] at l
      exact absurd (Nat.lt_of_lt_of_le l hf) (Nat.lt_irrefl _)
    | inr e => exact I.nofs hf e
  apply PySem.W.kla_eval hdef
  cases hc : codeAmong pos ps.toList with
  | some cv =>
    obtain ⟨c', rfl, hco⟩ := ha pos cv hc
    apply PySem.W.kla_makeFunctionHit (mg := X.mg) (c := c) (P := P) (ps := ps) (closure_ok hfree) I.ok.glob (I.mod.glob.keeps I.bk) hcode (TB.code.keeps I.bk) hPs ht hc (TB.bm.keeps I.bk)
    intro ctv h' tk hx hsz
    refine h _ c' ((X.mg "__name__").getD .none) ctv H _ (I.kept fun b o e => ?_) (.inl rfl) hT0 (I.hok.fresh hsz) (off _ hsz) hco (Heap.get?_push_size _ rfl)
    exact Heap.get?_push_of_some _ (hx b o e)
  | none =>
    apply PySem.W.kla_makeFunction (mg := X.mg) (c := c) (P := P) (ps := ps) (closure_ok hfree) I.ok.glob (I.mod.glob.keeps I.bk) hcode (TB.code.keeps I.bk) hPs ht hc TB.gP (TB.bm.keeps I.bk)
    intro c' ctv h' tk hx hge hlt hrec htb
    obtain ⟨c2, oc, vs, t, e2, hoc, hd, hv⟩ := hrec
    injection e2 with e2
    subst e2
    have nC : H c' = none := I.hok.fresh hge
    have le1 : s.heap.objs.size ≤ h'.objs.size := by omega
    have nPc : P ≠ c' := fun z => by
      rw [z, nC] at hP
      cases hP
    have hE : ∀ b o, H b = some o → b ≠ P → upd (upd H P (.tbl (ps ++ #[rawInt pos.line, rawInt pos.col, .ref c']))) c' (LamX.CodeO c' (X.env.qual ++ "<lambda>")) b = some o := fun b o e n => by
      rw [upd_ne (fun z => by rw [z, nC] at e; cases e), upd_ne n]
      exact e
    have hN : upd (upd H P (.tbl (ps ++ #[rawInt pos.line, rawInt pos.col, .ref c']))) c' (LamX.CodeO c' (X.env.qual ++ "<lambda>")) h'.objs.size = none := by
      have q1 := Heap.lt_size hPs
      rw [upd_ne (Nat.ne_of_gt hlt), upd_ne (Nat.ne_of_gt (Nat.lt_of_lt_of_le q1 le1))]
      exact I.hok.fresh le1
    have eL : (ps ++ #[rawInt pos.line, rawInt pos.col, .ref c']).toList = ps.toList ++ [rawInt pos.line, rawInt pos.col, .ref c'] := by simp
    refine h _ c' ((X.mg "__name__").getD .none) ctv _ _ (LamX.inv_table (more := #[rawInt pos.line, rawInt pos.col, .ref c']) I hP (fun b o hb e => ?_) (Heap.get?_push_of_some _ htb) hge ⟨oc, vs, t, Heap.get?_push_of_some _ hoc, hd, hv⟩) (.inr ⟨ps, _, c', hP, nC, rfl⟩) ⟨_, by rw [upd_ne nPc, upd_same], ?_, fun p' cv hcv => ?_⟩ hN (off _ le1) upd_same (Heap.get?_push_size _ rfl)
    · exact Heap.get?_push_of_some _ (hx b o hb e)
    · rw [eL]
      exact PySem.TriplesOk_snoc _ _ _ _ ht
    · rw [eL] at hcv
      cases LamX.among_app _ ht hcv with
      | inl z =>
        obtain ⟨c0, e1, e2⟩ := ha p' cv z
        refine ⟨c0, e1, hE _ _ e2 fun z => ?_⟩
        rw [z, hP] at e2
        exact LamX.codeO_ne ps (Option.some.inj e2).symm
      | inr z => exact ⟨c', z, upd_same⟩
def tLm (P : Addr) (q : Str) (TT : (XK → Hp → VK → Prop) → Hp → VK → Prop) (t : XK → TE) : TE := fun σ H Q => LamX.TabS H P q ∧ ∀ H1, LamTo P q H H1 → LamX.TabS H1 P q → TT (fun E H' Q' => t E σ H' Q') H1 Q
/-- x(lambda: body), x a def of one parameter -/
theorem pe_lm {TT : (XK → Hp → VK → Prop) → Hp → VK → Prop} {x a : Str} {g c P : Addr} {k : Nat} {pg : Arguments} {bg : List Stmt} {sg : Scope} {fd : FuncData} {Ng : List Str} {params : Arguments} {body : Expr} {scope : Scope} {t : XK → TE} {p lpos pos : Pos}
    (hg : Gl X x) (hm : X.mg x = some (.ref g)) (hk : PySem.W.keepIn X.K (.ref g) = true) (F : FunD X.K x x pg bg sg [] [] g fd) (hb : L2.Binds X.K fd [a] []) (Sg : FnScope Ng [a] sg) (hNg : Ng[0]? = some a) (hva : Vis sg a)
    (hG : ∀ cdv, LamX.GivesTo X Ng x sg g cdv bg a (X.env.qual ++ "<lambda>") TT) (TB : LamX.TabB X.base X.mg c P) (hcode : X.env.code = .ref c) (hr : Room (k + 2) X.A) (L : LamX.LamS X.env.scope scope) (hdef : defaultsOf params X.env = ([], []))
    (hbind : ∀ (q : Str) (cl : List (Str × Addr)) (pm cv ctv : Value), bindArgs (PySem.W.kla_fn "<lambda>" q params body scope cl pm cv ctv) { pos := [] } = pure [])
    (hbody : ∀ (A : Around) (outer : List Env) (s : Shared) (H : Hp) (E : XK) (f c' : Addr), Room k (A.deeper (LamX.lamEnv X scope s.heap.objs.size f c')) → PE (LamX.lamCx X A outer s H E scope f c') body (t E))
    (hdb : (x == ("__debug__" : Str)) = false := by decide) (hd : (a == ("__debug__" : Str)) = false := by decide) (hcd : (a == ("__classdict__" : Str)) = false := by decide) :
    PE X (.Call (.Name x p) [.Lambda params body scope lpos] [] pos) (tLm P (X.env.qual ++ "<lambda>") TT t) := by
  obtain ⟨oc, od, dV, kV, doc, pm, an, cdv, ct, osl, rfl, lk, hcg, _, _⟩ := F.ex
  constructor
  intro pins s σ H Q I h
  obtain ⟨hT, h⟩ := h
  apply wpAny_Call_Name_kw
  refine ld_glob I hg hm ?_ hdb
  refine PySem.W.callWith_K (h₀ := X.base) I.ok.mod.kin hk ?_ (by rfl) (by rfl)
  refine Calls.spliced_cons (lam_mk I TB hcode hT hdef (L.has I.ok) fun f c' pm' ctv H1 s' I1 lt T1 hfn hfr hco hf => Calls.spliced_nil ⟨I1.kIn, wpAny_call (codeAny_mono (LamX.run_ofS (CX := C8.CX0) (E := C8.E0) (H := H1) (Q := Q) (N := Ng) (ps := [a]) (us := [.ref f]) (vs := [.ref f]) lk hcg Sg hr I1.env0 (hb s' [.ref f] I1.kIn rfl) (.cons rfl .nil) rfl fun hr' => ?_) fun r s2 hq => ?_)⟩)
  · obtain ⟨t', ht', hq'⟩ := hG cdv f c' s' H1 Q (fun E H' Q' => t E σ H' Q') (fun W pn xe E p1 p2 tk hW => LamX.pe_act (i := 0) I1 L hf hfn hfr (hbind _ _ _ _ _) tk hW hr' (fun A outer s H hr2 => hbody A outer s H E f c' hr2) hNg hva hd hcd) hco (h H1 lt T1)
    exact ⟨t', ht'.nox, hq'⟩
  · match r, hq with
    | .error e, hq => exact (show False from hq).elim
    | .ok (.ret u), hq => exact I1.after hq
    | .ok .next, hq => exact False.elim hq
    | .ok .brk, hq => exact False.elim hq
    | .ok .cont, hq => exact False.elim hq
end
end Wb

namespace Wb
open PySem PySem.Spec PyProof.Rows L2
/-! ### _law_told -/
abbrev nTo : List Str := ["_law_work", "_law_found", "e"]
theorem scTo : FnScope nTo ["_law_work"] (defScope (top 62)) := ⟨rfl, rfl, rfl, by decide +kernel, rfl, by decide +kernel, by decide +kernel⟩
/-- the classes of errors -/
structure Err (K : PySem.W.Frag) (mg : Str → Option Value) (Cb Ce : Addr) : Prop where
  gl : mg "LifeError" = some (.ref Ce)
  gb : mg "BadStep" = some (.ref Cb)
  is : mg "isinstance" = none
  ex : PySem.W.exmOne K (.ref Cb) (.ref Ce) = some true
  ki : PySem.W.kitOne K (.ref Cb) (.ref Cb) = some true
  ec : ExcC K Cb
def TTw (Cb : Addr) : (XK → Hp → VK → Prop) → Hp → VK → Prop := fun tl H Q => tl (fun cls d H' => cls = .ref Cb ∧ d = none ∧ Q (.str "step") H') H fun v H' => ∃ v', (some (some v) : Option (Option V)) = some (some v') ∧ Q v' H'
def tsW (Cb : Addr) : Addr → Value → Option Addr → TS := fun a cls d D σ H => (cls = .ref Cb ∧ d = none) ∧ (∃ σ' : L2.St, σ = σ'.set 2 (some (.ref a))) ∧ ∀ σ'' : L2.St, σ''.length = 3 → σ''[1]? = some (some (.str "step")) → D.nx σ'' H
theorem told_to {X : Cx} {g Cb Ce : Addr} {cdg : Value} {q : Str} (B : Err X.K X.mg Cb Ce) : LamX.GivesTo X nTo "_law_told" (defScope (top 62)) g cdg (defBody (top 62)) "_law_work" q (TTw Cb) := by
  intro f c' s H Q tl act hc h
  refine ⟨_, pss_cons (ps_try_as (X := (cxOf C8.CX0 X.prog X.w X.K X.mg X.base nTo "_law_told" (defScope (top 62)) g cdg X.A X.stack s H C8.E0).nox) (c := .ref Ce) (i := 2) (n := "e") (Wout := fun _ _ _ _ => False) (ts := tsW Cb)
    (tb := fun W D σ H => ∃ Ech : XK, (∀ cls d σ' H', Ech cls d H' → W cls d σ' H') ∧ σ[0]? = some (some (.ref f)) ∧ H c' = some (LamX.CodeO c' q) ∧ tl Ech H fun v H' => D.nx (σ.set 1 (some v)) H') rfl rfl scTo.nd rfl rfl ⟨rfl, by decide, .inl B.gl⟩ LamX.takes0 (fun W pn xe tk _ => ⟨fun pins s' σ H' D I h' => ?_⟩) (fun a oe cls d pn hz hf => ⟨fun pins s' σ H' D I h' => ?_⟩)) (pss_one (ps_ret (pe_var (i := 1) rfl (.inl rfl)))), ?_⟩
  · obtain ⟨Ech, hW, h1, h2, h3⟩ := h'
    exact (pss_one (ps_set (i := 1) scTo.nd rfl (.inl rfl) (act W pn xe Ech _ _ tk hW))).run pins s' σ H' D I ⟨h1, h2, h3⟩
  · obtain ⟨⟨rfl, rfl⟩, ⟨σ', rfl⟩, h3⟩ := h'
    have hl : (σ'.set 2 (some (V.ref a))).length = 3 := I.len
    have hl' : σ'.length = 3 := by rw [List.length_set] at hl; exact hl
    let Z := (cxOf C8.CX0 X.prog X.w X.K X.mg X.base nTo "_law_told" (defScope (top 62)) g cdg X.A X.stack s H C8.E0).nox
    refine PSs.run (X := Cx.suite Z a ((a, oe) :: pn)) (pss_one (ps_set (i := 1) scTo.nd rfl (.inl rfl) (pe_ifExp (pt_val (pe_callB (x := "isinstance") (call_isE (X := Z) B.ec hz hf) rfl B.is (by decide +kernel) (pa_cons (pe_var (x := "e") (i := 2) rfl (.inl rfl)) (pa_cons (pe_glob (x := "BadStep") (v := .ref Cb) rfl B.gb rfl) pa_nil)))) pe_str pe_str))) pins s' _ H' D I ?_
    refine ⟨.ref a, by rw [List.getElem?_set_self (by omega)], ⟨.ref Cb, .ref Cb, true, rfl, fun u hu => hu, B.ki, true, rfl, ?_⟩⟩
    refine h3 _ (by rw [List.length_set, hl]) ?_
    rw [List.getElem?_set_self (by rw [hl]; omega)]
  · refine ⟨fun cls d H' => cls = .ref Cb ∧ d = none ∧ Q (.str "step") H', fun cls d σ' H' z => ⟨true, ?_, fun _ a _ => ⟨⟨z.1, z.2.1⟩, ⟨σ', rfl⟩, fun σ'' hl h1 => ⟨.str "step", ?_, z.2.2⟩⟩, fun e => by cases e⟩, rfl, hc, ?_⟩
    · rw [z.1]; exact B.ex
    · show (List.set σ'' 2 none)[1]? = _
      rw [List.getElem?_set_ne (by decide)]; exact h1
    · exact h
end Wb

namespace Wb
open PySem PySem.Spec PyProof.Rows L2
/-! ### frames -/
section
variable {G : Addr → Prop} {K : PySem.W.Frag} {CB C : Addr} {b : Bf} {wd : Wd} {sy : List Stp} {NB : List Addr} {d sh he sp row P : Addr} {sa : Addr × Bool} {ns : List Int} {mn : Man} {ms : List Addr} {H H' : Hp} {q : Str}
theorem RowA.frame (h : (RowA G K row sa ns).P H) (g : Gr G ms H H') (t : Tb G H) (h1 : row ∉ ms) (h2 : sa.2 = true ∨ sa.1 ∉ ms) : (RowA G K row sa ns).P H' := by
  obtain ⟨b, c, d, a1, a2, a3, a4, a5⟩ := h
  exact ⟨b, c, d, a1, a2, a3, g.keep row _ a4 (not_tab t a4 (fun q z => by cases z)) h1, a5.gr g t h2⟩
theorem aB_frame (h : (aB G K CB C b wd sy).P H) (g : Gr G ms H H') (t : Tb G H) (h1 : b.b ∉ ms) (h2 : b.c.w ∉ ms) (h3 : b.st ∉ ms) (h4 : b.c.n ∉ ms) (h5 : b.c.s ∉ ms) (h6 : b.c.p ∉ ms) : (aB G K CB C b wd sy).P H' :=
  ⟨IAt.frame h.1 g t h1 ⟨trivial, h3, trivial⟩, IAt.frame h.2 g t h2 ⟨trivial, trivial, trivial, trivial, h4, trivial, h5, h6, trivial⟩⟩
theorem aDx_frame (h : (aDx G K NB d mn wd sh he sp).P H) (g : Gr G ms H H') (t : Tb G H) (h1 : d ∉ ms) (h2 : sh ∉ ms) (h3 : he ∉ ms) (h4 : sp ∉ ms) : (aDx G K NB d mn wd sh he sp).P H' :=
  ⟨DAt.frame h.1 g t h1 ⟨trivial, h2, trivial, h3, h4, trivial, trivial⟩, h.2.1, live_gr h.2.2 g⟩
theorem tabS_frame (h : LamX.TabS H P q) (g : Gr G ms H H') (t : Tb G H) (hP : ¬ G P) (h1 : P ∉ ms) (h2 : ∀ c, H c = some (LamX.CodeO c q) → c ∉ ms) : LamX.TabS H' P q := by
  obtain ⟨ps, e1, e2, e3⟩ := h
  refine ⟨ps, g.keep P _ e1 hP h1, e2, fun pos cv hc => ?_⟩
  obtain ⟨c, e4, e5⟩ := e3 pos cv hc
  exact ⟨c, e4, g.keep c _ e5 (not_tab t e5 (fun q z => LamX.codeO_ne q z)) (h2 c e5)⟩
def As.tabS (G : Addr → Prop) (P : Addr) (q : Str) (hP : ¬ G P) : As G := ⟨fun H => LamX.TabS H P q, fun g t h => tabS_frame h g t hP (by simp) (fun _ _ => by simp)⟩
/-! kinds of objects -/
def IsL (H : Hp) (a : Addr) : Prop := ∃ xs, H a = some (.lst xs)
def IsI (H : Hp) (a : Addr) : Prop := ∃ C dx fs, H a = some (.ins C dx fs)
def IsD (H : Hp) (a : Addr) : Prop := ∃ kvs, H a = some (.dK kvs)
def IsT (H : Hp) (a : Addr) : Prop := ∃ ps, H a = some (.tbl ps)
def IsF (H : Hp) (a : Addr) : Prop := ∃ o u, H a = some (.frz o u)
theorem row_k (h : (RowA G K row sa ns).P H) : IsL H row ∧ (sa.2 = true ∨ IsL H sa.1 ∨ IsF H sa.1) := by
  obtain ⟨b, c, d, _, _, _, a4, a5⟩ := h
  refine ⟨⟨_, a4⟩, ?_⟩
  obtain ⟨a, x⟩ := sa
  cases x with
  | true => exact .inl rfl
  | false =>
    rcases a5 with h | ⟨o, h⟩
    · exact .inr (.inl ⟨_, h⟩)
    · exact .inr (.inr ⟨_, _, h⟩)
theorem ab_k (h : (aB G K CB C b wd sy).P H) : IsI H b.b ∧ IsI H b.c.w ∧ IsL H b.st ∧ IsL H b.c.n ∧ IsL H b.c.s ∧ IsL H b.c.p := by
  obtain ⟨⟨dy, ws, q1, q2, q3⟩, ⟨dz, zs, r1, r2, r3⟩⟩ := h
  obtain ⟨_, _, _, x1, n1, _⟩ := q3.get (i := 1) (r := .l b.st (sy.map eStp)) rfl
  obtain ⟨_, _, _, x2, n2, _⟩ := r3.get (i := 4) (r := .l b.c.n (wd.shelf.map eNote)) rfl
  obtain ⟨_, _, _, x3, n3, _⟩ := r3.get (i := 6) (r := .l b.c.s (wd.heard.map eH)) rfl
  obtain ⟨_, _, _, x4, n4, _⟩ := r3.get (i := 7) (r := .l b.c.p (wd.spoken.map eL)) rfl
  exact ⟨⟨_, _, _, q1⟩, ⟨_, _, _, r1⟩, ⟨_, n1⟩, ⟨_, n2⟩, ⟨_, n3⟩, ⟨_, n4⟩⟩
theorem adx_k (h : (aDx G K NB d mn wd sh he sp).P H) : IsD H d ∧ IsL H sh ∧ IsL H he ∧ IsL H sp := by
  obtain ⟨⟨ws, q1, q2, q3⟩, _⟩ := h
  obtain ⟨_, _, _, x1, n1, _⟩ := q3.get (i := 1) (r := .l sh (wd.shelf.map eNote)) rfl
  obtain ⟨_, _, _, x2, n2, _⟩ := q3.get (i := 3) (r := .l he (wd.heard.map eH)) rfl
  obtain ⟨_, _, _, x3, n3, _⟩ := q3.get (i := 4) (r := .l sp (wd.spoken.map eL)) rfl
  exact ⟨⟨_, q1⟩, ⟨_, n1⟩, ⟨_, n2⟩, ⟨_, n3⟩⟩
theorem tab_k (h : LamX.TabS H P q) : IsT H P := by
  obtain ⟨ps, e, _⟩ := h
  exact ⟨ps, e⟩
theorem LI_ne {a c : Addr} (h : IsL H a) (k : IsI H c) : a ≠ c := by
  rintro rfl; obtain ⟨x, e⟩ := h; obtain ⟨_, _, _, f⟩ := k; rw [e] at f; cases f
theorem LD_ne {a c : Addr} (h : IsL H a) (k : IsD H c) : a ≠ c := by
  rintro rfl; obtain ⟨x, e⟩ := h; obtain ⟨_, f⟩ := k; rw [e] at f; cases f
theorem LT_ne {a c : Addr} (h : IsL H a) (k : IsT H c) : a ≠ c := by
  rintro rfl; obtain ⟨x, e⟩ := h; obtain ⟨_, f⟩ := k; rw [e] at f; cases f
theorem ID_ne {a c : Addr} (h : IsI H a) (k : IsD H c) : a ≠ c := by
  rintro rfl; obtain ⟨_, _, x, e⟩ := h; obtain ⟨_, f⟩ := k; rw [e] at f; cases f
theorem IT_ne {a c : Addr} (h : IsI H a) (k : IsT H c) : a ≠ c := by
  rintro rfl; obtain ⟨_, _, x, e⟩ := h; obtain ⟨_, f⟩ := k; rw [e] at f; cases f
theorem DT_ne {a c : Addr} (h : IsD H a) (k : IsT H c) : a ≠ c := by
  rintro rfl; obtain ⟨x, e⟩ := h; obtain ⟨_, f⟩ := k; rw [e] at f; cases f
theorem LF_ne {a c : Addr} (h : IsL H a) (k : IsF H c) : a ≠ c := by
  rintro rfl; obtain ⟨x, e⟩ := h; obtain ⟨_, _, f⟩ := k; rw [e] at f; cases f
theorem IF_ne {a c : Addr} (h : IsI H a) (k : IsF H c) : a ≠ c := by
  rintro rfl; obtain ⟨_, _, x, e⟩ := h; obtain ⟨_, _, f⟩ := k; rw [e] at f; cases f
theorem DF_ne {a c : Addr} (h : IsD H a) (k : IsF H c) : a ≠ c := by
  rintro rfl; obtain ⟨x, e⟩ := h; obtain ⟨_, _, f⟩ := k; rw [e] at f; cases f
theorem TF_ne {a c : Addr} (h : IsT H a) (k : IsF H c) : a ≠ c := by
  rintro rfl; obtain ⟨x, e⟩ := h; obtain ⟨_, _, f⟩ := k; rw [e] at f; cases f
theorem code_ne {a c : Addr} (e : H c = some (LamX.CodeO c q)) (h : IsL H a ∨ IsI H a ∨ IsD H a ∨ IsT H a) : c ≠ a := by
  rintro rfl
  unfold LamX.CodeO at e
  rcases h with ⟨_, f⟩ | ⟨_, _, _, f⟩ | ⟨_, f⟩ | ⟨_, f⟩ <;> (rw [e] at f; cases f)
/-- the bench's lists are neither the row nor the script -/
structure Apt (row : Addr) (sa : Addr × Bool) (b : Bf) : Prop where
  r1 : b.st ≠ row
  r2 : b.c.n ≠ row
  r3 : b.c.s ≠ row
  r4 : b.c.p ≠ row
  s : sa.2 = true ∨ (b.st ≠ sa.1 ∧ b.c.n ≠ sa.1 ∧ b.c.s ≠ sa.1 ∧ b.c.p ≠ sa.1)
/-- all that stands in the law's loop: the bench at wd, the law's world at wd2 -/
def aA (G : Addr → Prop) (K : PySem.W.Frag) (row : Addr) (sa : Addr × Bool) (ns : List Int) (P : Addr) (q : Str) (hP : ¬ G P) : As G := (RowA G K row sa ns).and (As.tabS G P q hP)
def aL (G : Addr → Prop) (K : PySem.W.Frag) (row : Addr) (sa : Addr × Bool) (ns : List Int) (P : Addr) (q : Str) (hP : ¬ G P) (CB C : Addr) (b : Bf) (wd : Wd) (sy : List Stp) (d : Addr) (wd2 : Wd) : As G := ((aA G K row sa ns P q hP).and (aB G K CB C b wd sy)).and (aD G K (row :: b.ms) d b.c.mn wd2)
variable {hP : ¬ G P} {wd2 wd3 : Wd} {sy2 : List Stp}
theorem aA_row (h : (aA G K row sa ns P q hP).P H) (g : Gr G [row] H H') (t : Tb G H) (hB : (RowA G K row sa ns).P H') : (aA G K row sa ns P q hP).P H' := by
  obtain ⟨k1, k2⟩ := row_k h.1
  refine ⟨hB, tabS_frame h.2 g t hP ?_ fun c e => ?_⟩
  · simpa using (LT_ne k1 (tab_k h.2)).symm
  · simpa using code_ne e (.inl k1)
theorem aL_row (h : (aL G K row sa ns P q hP CB C b wd sy d wd2).P H) (ap : Apt row sa b) (g : Gr G [row] H H') (t : Tb G H) (hB : (RowA G K row sa ns).P H') : (aL G K row sa ns P q hP CB C b wd sy d wd2).P H' := by
  obtain ⟨⟨ha, hb⟩, sh, he, sp, hd⟩ := h
  obtain ⟨k1, k2⟩ := row_k ha.1
  obtain ⟨b1, b2, b3, b4, b5, b6⟩ := ab_k hb
  obtain ⟨d1, d2, d3, d4⟩ := adx_k hd
  have o1 := hd.2.1.1
  have o2 := hd.2.1.2.1
  have o3 := hd.2.1.2.2
  simp only [List.mem_cons, not_or] at o1 o2 o3
  refine ⟨⟨aA_row ha g t hB, aB_frame hb g t ?_ ?_ ?_ ?_ ?_ ?_⟩, sh, he, sp, aDx_frame hd g t ?_ ?_ ?_ ?_⟩
  · simpa using (LI_ne k1 b1).symm
  · simpa using (LI_ne k1 b2).symm
  · simpa using ap.r1
  · simpa using ap.r2
  · simpa using ap.r3
  · simpa using ap.r4
  · simpa using (LD_ne k1 d1).symm
  · simpa using o1.1
  · simpa using o2.1
  · simpa using o3.1
theorem aL_done (h : (aL G K row sa ns P q hP CB C b wd sy d wd2).P H) (ap : Apt row sa b) (g : Gr G b.ms H H') (t : Tb G H) (hB : (aB G K CB C b wd3 sy2).P H') : (aL G K row sa ns P q hP CB C b wd3 sy2 d wd2).P H' := by
  obtain ⟨⟨ha, hb⟩, sh, he, sp, hd⟩ := h
  obtain ⟨k1, k2⟩ := row_k ha.1
  obtain ⟨b1, b2, b3, b4, b5, b6⟩ := ab_k hb
  obtain ⟨d1, d2, d3, d4⟩ := adx_k hd
  have kt := tab_k ha.2
  have o1 := hd.2.1.1
  have o2 := hd.2.1.2.1
  have o3 := hd.2.1.2.2
  simp only [Bf.ms, List.mem_cons, List.not_mem_nil, or_false, not_or] at o1 o2 o3
  refine ⟨⟨⟨RowA.frame ha.1 g t ?_ ?_, tabS_frame ha.2 g t hP ?_ fun c e => ?_⟩, hB⟩, sh, he, sp, aDx_frame hd g t ?_ ?_ ?_ ?_⟩ <;> simp only [Bf.ms, List.mem_cons, List.not_mem_nil, or_false, not_or]
  · exact ⟨LI_ne k1 b2, ap.r2.symm, ap.r3.symm, ap.r4.symm, ap.r1.symm⟩
  · rcases ap.s with z | ⟨z1, z2, z3, z4⟩
    · exact .inl z
    · rcases k2 with z | z | z
      · exact .inl z
      · exact .inr ⟨LI_ne z b2, z2.symm, z3.symm, z4.symm, z1.symm⟩
      · exact .inr ⟨(IF_ne b2 z).symm, z2.symm, z3.symm, z4.symm, z1.symm⟩
  · exact ⟨(IT_ne b2 kt).symm, (LT_ne b4 kt).symm, (LT_ne b5 kt).symm, (LT_ne b6 kt).symm, (LT_ne b3 kt).symm⟩
  · exact ⟨code_ne e (.inr (.inl b2)), code_ne e (.inl b4), code_ne e (.inl b5), code_ne e (.inl b6), code_ne e (.inl b3)⟩
  · exact ⟨(ID_ne b2 d1).symm, (LD_ne b4 d1).symm, (LD_ne b5 d1).symm, (LD_ne b6 d1).symm, (LD_ne b3 d1).symm⟩
  · exact o1.2
  · exact o2.2
  · exact o3.2
theorem aL_step (h : (aL G K row sa ns P q hP CB C b wd sy d wd2).P H) (g : Gr G [d] H H') (t : Tb G H) (hB : (aD G K (row :: b.ms) d b.c.mn wd3).P H') : (aL G K row sa ns P q hP CB C b wd sy d wd3).P H' := by
  obtain ⟨⟨ha, hb⟩, sh, he, sp, hd⟩ := h
  obtain ⟨k1, k2⟩ := row_k ha.1
  obtain ⟨b1, b2, b3, b4, b5, b6⟩ := ab_k hb
  obtain ⟨d1, d2, d3, d4⟩ := adx_k hd
  have kt := tab_k ha.2
  refine ⟨⟨⟨RowA.frame ha.1 g t ?_ ?_, tabS_frame ha.2 g t hP ?_ fun c e => ?_⟩, aB_frame hb g t ?_ ?_ ?_ ?_ ?_ ?_⟩, hB⟩ <;> simp only [List.mem_cons, List.not_mem_nil, or_false]
  · exact LD_ne k1 d1
  · rcases k2 with z | z | z
    · exact .inl z
    · exact .inr (LD_ne z d1)
    · exact .inr (DF_ne d1 z).symm
  · exact (DT_ne d1 kt).symm
  · exact code_ne e (.inr (.inr (.inl d1)))
  · exact ID_ne b1 d1
  · exact ID_ne b2 d1
  · exact LD_ne b3 d1
  · exact LD_ne b4 d1
  · exact LD_ne b5 d1
  · exact LD_ne b6 d1
theorem aL_lam (h : (aL G K row sa ns P q hP CB C b wd sy d wd2).P H) (g : Gr G [P] H H') (t : Tb G H) (hT : LamX.TabS H' P q) : (aL G K row sa ns P q hP CB C b wd sy d wd2).P H' := by
  obtain ⟨⟨ha, hb⟩, sh, he, sp, hd⟩ := h
  obtain ⟨k1, k2⟩ := row_k ha.1
  obtain ⟨b1, b2, b3, b4, b5, b6⟩ := ab_k hb
  obtain ⟨d1, d2, d3, d4⟩ := adx_k hd
  have kt := tab_k ha.2
  refine ⟨⟨⟨RowA.frame ha.1 g t ?_ ?_, hT⟩, aB_frame hb g t ?_ ?_ ?_ ?_ ?_ ?_⟩, sh, he, sp, aDx_frame hd g t ?_ ?_ ?_ ?_⟩ <;> simp only [List.mem_cons, List.not_mem_nil, or_false]
  · exact LT_ne k1 kt
  · rcases k2 with z | z | z
    · exact .inl z
    · exact .inr (LT_ne z kt)
    · exact .inr (TF_ne kt z).symm
  · exact IT_ne b1 kt
  · exact IT_ne b2 kt
  · exact LT_ne b3 kt
  · exact LT_ne b4 kt
  · exact LT_ne b5 kt
  · exact LT_ne b6 kt
  · exact DT_ne d1 kt
  · exact LT_ne d2 kt
  · exact LT_ne d3 kt
  · exact LT_ne d4 kt
end
/-! ### rules around a frame -/
section
variable {X : Cx} {G : Addr → Prop} {ρ : List Sv} {L : List (List Addr × Hp)} {A AA : As G} {D : Ends}
theorem ek_fr {e : Expr} {ms : List Addr} {Post0 : Sv → As G → Prop} {Post : Sv → As G → Prop} (h : ∀ H0, Ek X G e ρ (Jl [(ms, H0)] A) (fun r J' => ∃ B, J' = Jl [(ms, H0)] B ∧ Post0 r B)) (hA : ∀ H, AA.P H → A.P H) (hm : Mu L ms)
    (hP : ∀ r B H H', Post0 r B → AA.P H → Tb G H → Gr G ms H H' → B.P H' → ∃ BB, Post r (Jl L BB) ∧ BB.P H') : Ek X G e ρ (Jl L AA) Post := fun σ H Q s t j q =>
  h H σ H Q s t ⟨fun p hp => by rw [List.mem_singleton.mp hp]; exact Gr.refl, hA H j.2⟩ fun r J' v H' p s1 f sl t1 tk dm j1 => by
    obtain ⟨B, rfl, p0⟩ := p
    have g : Gr G ms H H' := j1.1 _ List.mem_cons_self
    obtain ⟨BB, hb, hj⟩ := hP r B H H' p0 j.2 t g j1.2
    exact q r _ v H' hb s1 f sl t1 tk dm (Jl.step j g hm hj)
/-! draws, framed -/
section
variable {row : Addr} {sa : Addr × Bool} {ns : List Int}
theorem ek_drF {e : Expr} {Pd : PyData → Prop} (h : ∀ H0, Ek X G e ρ (Jl [([row], H0)] (RowA G X.K row sa ns)) (Dr [([row], H0)] (RowA G X.K row sa ns) Pd)) (hA : ∀ H, AA.P H → (RowA G X.K row sa ns).P H) (hm : Mu L [row])
    (hF : ∀ H H', AA.P H → Gr G [row] H H' → Tb G H → (RowA G X.K row sa ns).P H' → AA.P H') : Ek X G e ρ (Jl L AA) (Dr L AA Pd) :=
  ek_fr (Post0 := fun r B => ∃ d, r = .d d ∧ Pd d ∧ B = RowA G X.K row sa ns) (fun H0 => Ek.mono (h H0) fun r J' p => by
    obtain ⟨d, h1, h2, h3⟩ := p
    exact ⟨_, h3, d, h1, h2, rfl⟩) hA hm fun r B H H' p a t g b => by
    obtain ⟨d, h1, h2, rfl⟩ := p
    exact ⟨AA, ⟨d, h1, h2, rfl⟩, hF H H' a g t b⟩
theorem dr_draw {e : Expr} {g : List Sv → Addr → PyData → Prop} {args : List Sv} (h : Ek X G e ρ (Jl L A) (fun r J' => (∃ z, g args row z ∧ r = .d z) ∧ J' = Jl L A)) : Ek X G e ρ (Jl L A) (Dr L A (g args row)) := Ek.mono h fun r J' p => by
  obtain ⟨⟨z, h1, h2⟩, h3⟩ := p
  exact ⟨z, h2, h1, h3⟩
theorem dr_pick {e : Expr} {ds : List PyData} (h : Ek X G e ρ (Jl L A) (fun r J' => ∃ z, z ∈ ds ∧ r = .d z ∧ J' = Jl L A)) : Ek X G e ρ (Jl L A) (Dr L A (· ∈ ds)) := Ek.mono h fun r J' p => by
  obtain ⟨z, h1, h2, h3⟩ := p
  exact ⟨z, h2, h1, h3⟩
end
/-! ### tests that draw -/
def EtN (X : Cx) (G : Addr → Prop) (e : Expr) (ρ : List Sv) (J : As G) (Pb : Bool → Prop) (J1 : As G) : Prop := ∀ (σ : L2.St) (H : Hp) (Q : Bool → Hp → Prop), Sl X.K H ρ σ → Tb G H → J.P H → (∀ b H', Pb b → Sl X.K H' ρ σ → Tb G H' → J1.P H' → Q b H') → cT X e σ H Q
def EwN (X : Cx) (G : Addr → Prop) (e : Expr) (ρ : List Sv) (J : As G) (Pb : Bool → Prop) (J1 : As G) : Prop := ∀ (σ : L2.St) (H : Hp) (Q : Bool → Hp → Prop), Sl X.K H ρ σ → Tb G H → J.P H → (∀ b H', Pb b → Sl X.K H' ρ σ → Tb G H' → J1.P H' → Q b H') → cW X e σ H Q
variable {J J1 : As G} {Pb : Bool → Prop}
theorem etn_w {e : Expr} (h : EwN X G e ρ J Pb J1) : EtN X G e ρ J Pb J1 := fun σ H Q hs ht hj q => ⟨_, PW.pt pw_c, h σ H Q hs ht hj q⟩
theorem ewn_and1 {a : Expr} {pos : Pos} (h : EtN X G a ρ J Pb J1) : EwN X G (.BoolOp .And [a] pos) ρ J Pb J1 := fun σ H Q hs ht hj q => ⟨_, pw_and1 pt_c, h σ H Q hs ht hj q⟩
theorem ewn_and {a b : Expr} {rest : List Expr} {x : Bool} {pos : Pos} (h : Et X G a ρ J x) (h1 : x = false → Pb false ∧ J1 = J) (h2 : x = true → EwN X G (.BoolOp .And (b :: rest) pos) ρ J Pb J1) : EwN X G (.BoolOp .And (a :: b :: rest) pos) ρ J Pb J1 := fun σ H Q hs ht hj q =>
  ⟨_, pw_and pt_c pw_c, h σ H _ hs ht hj fun H1 g1 => by
    cases x with
    | true => exact h2 rfl σ H1 Q (hs.g0 g1 ht) (ht.up g1) (J.up g1 ht hj) q
    | false =>
      obtain ⟨p, rfl⟩ := h1 rfl
      exact q false H1 p (hs.g0 g1 ht) (ht.up g1) (J1.up g1 ht hj)⟩
theorem etn_gt0 {e : Expr} {k : Nat} {p2 pos : Pos} {Pd : PyData → Prop} (h : Ek X G e ρ J (fun r J' => ∃ n : Int, r = .d (.int n) ∧ J' = J1)) (hb : ∀ b, Pb b) : EtN X G (.Compare e [.Gt] [.Constant (.int 0) k p2] pos) ρ J Pb J1 := fun σ H Q hs ht hj q =>
  ⟨_, pt_cmpR op_gt pe_c pe_int (nomark _), h σ H _ hs ht hj fun r J' v H1 p s1 _ sl t1 _ _ j1 => by
    obtain ⟨n, rfl, rfl⟩ := p
    obtain ⟨_, e1, d1⟩ := s1
    cases e1; cases d1
    exact ⟨n, 0, rfl, rfl, _, rfl, q _ H1 (hb _) sl t1 j1⟩⟩
theorem f_ifN {c : Expr} {a b : List Stmt} {pos : Pos} (h : EtN X G c ρ J Pb J1) (h1 : Pb true → Fin X (cSs X a D) ρ J1) (h2 : Pb false → Fin X (cSs X b D) ρ J1) : Fin X (cS X (.If c a b pos) D) ρ J := fun σ H s t j =>
  ⟨_, ps_if pt_c pss_c pss_c, h σ H _ s t j fun x H1 p s1 t1 j1 => by
    cases x with
    | true => exact h1 p σ H1 s1 t1 j1
    | false => exact h2 p σ H1 s1 t1 j1⟩
/-- a test whose value is known, the heap changed -/
theorem etn_val {e : Expr} {b : Bool} (h : Ek X G e ρ J (fun r J' => r = .d (.bool b) ∧ J' = J1)) (he : ∀ whole, isTrue e X.env whole = (do let v ← whole; standAt e.pos; holding [v] (truthy v)) := by intro _; rfl) : EtN X G e ρ J (· = b) J1 := fun σ H Q hs ht hj q =>
  ⟨_, pt_val pe_c he, h σ H _ hs ht hj fun r J' v H1 p s1 _ sl t1 _ _ j1 => by
    obtain ⟨rfl, rfl⟩ := p
    obtain ⟨_, e1, d1⟩ := s1
    cases e1; cases d1
    exact ⟨b, rfl, q b H1 rfl sl t1 j1⟩⟩
theorem etn_not {e : Expr} {b : Bool} {pos : Pos} (h : EtN X G e ρ J (· = b) J1) : EtN X G (.UnaryOp .Not e pos) ρ J (· = !b) J1 := fun σ H Q hs ht hj q => ⟨_, pt_not pt_c, h σ H _ hs ht hj fun c H1 p s1 t1 j1 => q _ H1 (by rw [p]) s1 t1 j1⟩
theorem etn_neS {e : Expr} {x y : Str} {n k : Nat} {p2 pos : Pos} (hr : Room n X.A) (h : Ek X G e ρ J (fun r J' => r = .d (.str x) ∧ J' = J1)) (hx : PyData.strOk x = true) (hy : PyData.strOk y = true) : EtN X G (.Compare e [.NotEq] [.Constant (.str y) k p2] pos) ρ J (· = !PyData.eqv (.str x) (.str y)) J1 := fun σ H Q hs ht hj q =>
  ⟨_, pt_cmpR (op_neD (hu64 hr)) pe_c pe_str (nomark _), h σ H _ hs ht hj fun r J' v H1 p s1 _ sl t1 _ _ j1 => by
    obtain ⟨rfl, rfl⟩ := p
    obtain ⟨_, e1, d1⟩ := s1
    cases e1
    exact ⟨.str x, .str y, Dt.dp _ _ d1, Dt.dp _ _ (.str y), cn_shaped (n := 0) hx, cn_shaped (n := 0) hy, _, rfl, q _ H1 rfl sl t1 j1⟩⟩
/-- f(e1, e2), e1 changes the heap, f looks only at what it gets -/
theorem ek_pu2 {f : List Sv → Sv → Prop} {e1 e2 : Expr} {x : Str} {k : Nat} {p pos : Pos} {d1 d2 : PyData} {r : Sv} (C : Cal X.prog X.w X.K X.mg X.base k x (spS X.K G (Pu f)) []) (hr : Room k X.A) (h1 : Ek X G e1 ρ J (fun r J' => r = .d d1 ∧ J' = J1)) (h2 : Ed X G e2 ρ J1 (.d d2)) (hf : f [.d d1, .d d2] r) (hst : ∀ H, Fresh H r := by exact fun _ => trivial)
    (hg : Gl X x := by rfl) (hdb : (x == ("__debug__" : Str)) = false := by decide) (he : starEach [e1, e2] X.env = (false, eval e1 X.env) :: starEach [e2] X.env := by rfl) (he2 : starEach [e2] X.env = (false, eval e2 X.env) :: starEach [] X.env := by rfl) (hpl : (backTo pos (starEach [e2] X.env)).any (·.1) = false := by rfl) : Ek X G (.Call (.Name x p) [e1, e2] [] pos) ρ J (fun r' J' => r' = r ∧ J' = J1) := fun σ H Q s t j q => by
  obtain ⟨fa, fd, ps, ds, F, hm, hk, hb, hv⟩ := C
  refine ⟨_, pe_call F hr hg hm hk hb hv pass0 (pa_cons pe_c (pa_cons pe_c pa_nil he2) he) hdb he hpl, h1 σ H _ s t j fun r1 J' v H1 p s1 _ sl t1 tk dm j1 => ?_⟩
  obtain ⟨rfl, rfl⟩ := p
  refine h2 σ H1 _ sl t1 j1 fun w H2 s2 g2 => ?_
  refine ret_d (J := J') (ss := []) (rs := [.d d1, .d d2]) (vs := [v, w]) (r := r) (A := As.tt) (P0 := fun r' B => r' = r ∧ B = As.tt) (fun _ => trivial) ⟨r, hf, rfl, rfl, rfl⟩ (fun _ _ => trivial) (fun _ _ h => h.1) t1 j1 ⟨s1.g0 g2 t1, s2, trivial⟩ g2 fun u H3 s3 g3 => ?_
  exact q r _ u H3 ⟨rfl, rfl⟩ s3 (hst H) (sl.g0 g3 t1) (t1.up g3) ⟨fun c xs e => g3.tk.1 c xs (tk.1 c xs e), fun c o z e => g3.tk.2 c o z (tk.2 c o z e)⟩ (fun b e => dm b (g3.dom b e)) (J'.up g3 t1 j1)
/-- x, y = (a, b): a tuple is made and taken apart -/
theorem f_tup2 (i j : Nat) {x y : Str} {a b : Expr} {px py pt : Pos} {kt k2 : Nat} {pt2 pos : Pos} {Post : Sv → As G → Prop} {r2 : Sv} (ha : Ek X G a ρ J Post) (hb : ∀ r J', Post r J' → Ed X G b ρ J' r2)
    (k : ∀ r J', Post r J' → Fin X D.nx ((ρ.set i r).set j r2) J') (hN : X.N.Nodup) (hc : X.calm = true := by rfl) (hi : X.N[i]? = some x := by rfl) (hj : X.N[j]? = some y := by rfl)
    (hx : Loc X.env.scope x := by first | exact Or.inl rfl | exact Or.inr rfl) (hy : Loc X.env.scope y := by first | exact Or.inl rfl | exact Or.inr rfl) (fx : X.fn x = true ∨ X.env.scope.names.lookup x = some .local := by first | exact .inl rfl | exact .inr rfl) (fy : X.fn y = true ∨ X.env.scope.names.lookup y = some .local := by first | exact .inl rfl | exact .inr rfl)
    (hs : swapsWithSole [.Tuple [.Name x px, .Name y py] kt pt] (.Tuple [a, b] k2 pt2) pos.line X.env = pure false := by rfl) (hw : swappedStores [.Tuple [.Name x px, .Name y py] kt pt] (.Tuple [a, b] k2 pt2) X.env = pure none := by rfl) (h1 : (assignEach [.Tuple [.Name x px, .Name y py] kt pt] X.env).map (·.2) = [assign (.Tuple [.Name x px, .Name y py] kt pt) X.env] := by rfl)
    (h2 : (assignEach [.Name x px, .Name y py] X.env).length = 2 := by rfl) (h3 : List.findIdx? (fun x => x.fst) (assignEach [.Name x px, .Name y py] X.env) = none := by rfl) (h4 : List.map (fun x => x.snd) (assignEach [.Name x px, .Name y py] X.env) = assign (.Name x px) X.env :: List.map (fun x => x.snd) (assignEach [.Name y py] X.env) := by rfl)
    (h5 : List.map (fun x => x.snd) (assignEach [.Name y py] X.env) = assign (.Name y py) X.env :: List.map (fun x => x.snd) (assignEach [] X.env) := by rfl) (e0 : starEach [a, b] X.env = (false, eval a X.env) :: starEach [b] X.env := by rfl) (e1 : starEach [b] X.env = (false, eval b X.env) :: starEach [] X.env := by rfl) :
    Fin X (cS X (.Assign [.Tuple [.Name x px, .Name y py] kt pt] (.Tuple [a, b] k2 pt2) pos) D) ρ J := fun σ H s t jj => by
  refine ⟨_, ps_asg (pe_tup (pa_cons pe_c (pa_cons pe_c pa_nil e1) e0)) (pg_tup hc (pgs_cons (pg_name (i := i) hN hi hx fx) (pgs_cons (pg_name (i := j) hN hj hy fy) pgs_nil h5) h4) h2 h3) hs hw h1, ha σ H _ s t jj fun r J' v H1 p s1 f1 sl t1 tk dm j1 => ?_⟩
  refine hb r J' p σ H1 _ sl t1 j1 fun w H2 s2 g2 => ?_
  refine ⟨show 2 ≤ sizeLine by decide, fun n hn => ?_⟩
  have gn : Gr G [] H2 (upd H2 n (.tup [v, w])) := Gr.new hn
  have g := g2.trans gn
  exact ⟨n, [v, w], rfl, SqT.of upd_same, rfl, _, _, rfl, _, _, rfl, rfl, k r J' p _ _ (((sl.g0 g t1).set i (s1.g0 g t1)).set j (s2.g0 gn (t1.up g2))) (t1.up g) (J'.up g t1 j1)⟩
/-- x, y, z = e: e draws -/
theorem f_unp3J (i j l : Nat) {x y w : Str} {e : Expr} {Pd : PyData → PyData → PyData → Prop} {px py pw pt pos : Pos} {kt : Nat} (h : Ek X G e ρ J (fun r J' => ∃ d1 d2 d3, r = .d (.tuple [d1, d2, d3]) ∧ Pd d1 d2 d3 ∧ J' = J1)) (k : ∀ d1 d2 d3, Pd d1 d2 d3 → Fin X D.nx (((ρ.set i (.d d1)).set j (.d d2)).set l (.d d3)) J1) (hN : X.N.Nodup) (hc : X.calm = true := by rfl) (hi : X.N[i]? = some x := by rfl) (hj : X.N[j]? = some y := by rfl) (hl : X.N[l]? = some w := by rfl)
    (hx : Loc X.env.scope x := by first | exact Or.inl rfl | exact Or.inr rfl) (hy : Loc X.env.scope y := by first | exact Or.inl rfl | exact Or.inr rfl) (hz : Loc X.env.scope w := by first | exact Or.inl rfl | exact Or.inr rfl) (fx : X.fn x = true ∨ X.env.scope.names.lookup x = some .local := by first | exact .inl rfl | exact .inr rfl) (fy : X.fn y = true ∨ X.env.scope.names.lookup y = some .local := by first | exact .inl rfl | exact .inr rfl) (fw : X.fn w = true ∨ X.env.scope.names.lookup w = some .local := by first | exact .inl rfl | exact .inr rfl)
    (hs : swapsWithSole [.Tuple [.Name x px, .Name y py, .Name w pw] kt pt] e pos.line X.env = pure false := by rfl) (hw : swappedStores [.Tuple [.Name x px, .Name y py, .Name w pw] kt pt] e X.env = pure none := by rfl) (h1 : (assignEach [.Tuple [.Name x px, .Name y py, .Name w pw] kt pt] X.env).map (·.2) = [assign (.Tuple [.Name x px, .Name y py, .Name w pw] kt pt) X.env] := by rfl)
    (h2 : (assignEach [.Name x px, .Name y py, .Name w pw] X.env).length = 3 := by rfl) (h3 : List.findIdx? (fun x => x.fst) (assignEach [.Name x px, .Name y py, .Name w pw] X.env) = none := by rfl) (h4 : List.map (fun x => x.snd) (assignEach [.Name x px, .Name y py, .Name w pw] X.env) = assign (.Name x px) X.env :: List.map (fun x => x.snd) (assignEach [.Name y py, .Name w pw] X.env) := by rfl)
    (h5 : List.map (fun x => x.snd) (assignEach [.Name y py, .Name w pw] X.env) = assign (.Name y py) X.env :: List.map (fun x => x.snd) (assignEach [.Name w pw] X.env) := by rfl) (h6 : List.map (fun x => x.snd) (assignEach [.Name w pw] X.env) = assign (.Name w pw) X.env :: List.map (fun x => x.snd) (assignEach [] X.env) := by rfl) : Fin X (cS X (.Assign [.Tuple [.Name x px, .Name y py, .Name w pw] kt pt] e pos) D) ρ J := fun σ H s t jj => by
  refine ⟨_, ps_asg pe_c (pg_tup hc (pgs_cons (pg_name (i := i) hN hi hx fx) (pgs_cons (pg_name (i := j) hN hj hy fy) (pgs_cons (pg_name (i := l) hN hl hz fw) pgs_nil h6) h5) h4) h2 h3) hs hw h1, h σ H _ s t jj fun r J' v H1 p s1 _ sl t1 _ _ j1 => ?_⟩
  obtain ⟨d1, d2, d3, rfl, hd, rfl⟩ := p
  obtain ⟨_, e1, dd⟩ := s1
  cases e1
  obtain ⟨a, xs, rfl, st, da⟩ := dd.tup_inv
  cases da with
  | cons q1 da =>
    cases da with
    | cons q2 da =>
      cases da with
      | cons q3 da =>
        cases da
        exact ⟨a, _, rfl, st, rfl, _, _, rfl, _, _, rfl, _, _, rfl, rfl, k d1 d2 d3 hd _ H1 (((sl.set (r := .d d1) i ⟨_, rfl, q1⟩).set (r := .d d2) j ⟨_, rfl, q2⟩).set (r := .d d3) l ⟨_, rfl, q3⟩) t1 j1⟩
end
end Wb

namespace Wb
open PySem PySem.Spec PyProof.Rows L2
/-! ### _law_told(lambda: _law_done(bench, step)) -/
section
variable {X : Cx} {G : Addr → Prop} {ρ : List Sv} {L : List (List Addr × Hp)} {A AA : As G}
theorem ek_told {R : List Sv → As G → List Addr → Bool → (Sv → As G → Prop) → Prop} {P0 Post : Sv → As G → Prop} {Cb Ce P c b : Addr} {ds : PyData} {ms : List Addr} {ok : Bool} {x1 x2 : Str} {scope : Scope} {params : Arguments} {p p1 p2 p3 p4 lpos pos : Pos} (i j : Nat)
    (B : Err X.K X.mg Cb Ce) (T : Dg X.K X.mg "_law_told" (top 62)) (CZ : CalZ X.prog X.w X.K X.mg X.base 11 "_law_done" (spZ X.K G Cb R)) (TB : LamX.TabB X.base X.mg c P) (hcode : X.env.code = .ref c) (hP : ¬ G P) (hr : Room 13 X.A)
    (h1 : ρ[i]? = some (.v (.ref b))) (h2 : ρ[j]? = some (.d ds)) (hT : ∀ H, AA.P H → LamX.TabS H P (X.env.qual ++ "<lambda>")) (hlam : ∀ H H', AA.P H → Gr G [P] H H' → Tb G H → LamX.TabS H' P (X.env.qual ++ "<lambda>") → AA.P H')
    (hR : R [.v (.ref b), .d ds] A ms ok P0) (hA : ∀ H, AA.P H → A.P H) (hm : Mu L (P :: ms)) (hoff : OffL (P :: ms) ρ) (hst : ∀ r B, P0 r B → Still r ∧ ∀ H, Fresh H r)
    (hF : ∀ r B H H', P0 r B → AA.P H → Tb G H → Gr G ms H H' → B.P H' → ∃ BB, (ok = true → Post r (Jl L BB)) ∧ (ok = false → Post (.d (sS "step")) (Jl L BB)) ∧ BB.P H')
    (hN1 : X.N[i]? = some x1 := by rfl) (hN2 : X.N[j]? = some x2 := by rfl) (hv1 : Vis scope x1 := by first | exact Or.inl rfl | exact Or.inr (Or.inl rfl) | exact Or.inr (Or.inr rfl)) (hv2 : Vis scope x2 := by first | exact Or.inl rfl | exact Or.inr (Or.inl rfl) | exact Or.inr (Or.inr rfl))
    (hd1 : (x1 == ("__debug__" : Str)) = false := by decide) (hcd1 : (x1 == ("__classdict__" : Str)) = false := by decide) (hd2 : (x2 == ("__debug__" : Str)) = false := by decide) (hcd2 : (x2 == ("__classdict__" : Str)) = false := by decide)
    (Ls : LamX.LamS X.env.scope scope := by exact LamX.lamS_by (by decide +kernel)) (hdef : defaultsOf params X.env = ([], []) := by rfl)
    (hbind : ∀ (q : Str) (cl : List (Str × Addr)) (pm cv ctv : Value), bindArgs (PySem.W.kla_fn "<lambda>" q params (.Call (.Name "_law_done" p1) [.Name x1 p2, .Name x2 p3] [] p4) scope cl pm cv ctv) { pos := [] } = pure [] := by intro _ _ _ _ _; rfl)
    (hgl : scope.names.lookup ("_law_done" : Str) = some .globalImplicit := by rfl) (hg : Gl X "_law_told" := by rfl) :
    Ek X G (.Call (.Name "_law_told" p) [.Lambda params (.Call (.Name "_law_done" p1) [.Name x1 p2, .Name x2 p3] [] p4) scope lpos] [] pos) ρ (Jl L AA) Post := fun σ H Q s t jj q => by
  obtain ⟨g, fg, F, hm1⟩ := T
  obtain ⟨f, fd, ps, FZ, hmz, hkz, hbz⟩ := CZ
  have hb : L2.Binds X.K fg ["_law_work"] [] := F.bindsN (ps := ["_law_work"]) fun kV doc pm an cdv ct us hl => match us, hl with | [_], _ => rfl
  refine ⟨_, pe_lm (k := 11) (P := P) (c := c) (TT := TTw Cb) (t := fun E => tCall (spZ X.K G Cb R) [] E (tCons (tVar i) (tCons (tVar j) tNil))) hg hm1 F.kp F hb scTo rfl (.inl rfl) (fun cdv => told_to B) TB hcode hr Ls hdef hbind (fun A' outer s' H' E f' c' hr2 => ?_), hT H jj.2, fun H1 lt T1 => ?_⟩
  · exact pe_call (X := LamX.lamCx X A' outer s' H' E scope f' c') (E := E) FZ hr2 hgl hmz hkz hbz .nil (passes_call (takes_of rfl rfl rfl rfl) fun _ _ _ _ h => h) (pa_cons (pe_var (i := i) hN1 hv1 hd1 hcd1) (pa_cons (pe_var (i := j) hN2 hv2 hd2 hcd2) pa_nil))
  have gP : Gr G [P] H H1 := lt.gr hP
  have a1 := hlam H H1 jj.2 gP t T1
  have gP' : Gr G (P :: ms) H H1 := gP.mono fun b hb => by rw [List.mem_singleton.mp hb]; exact List.mem_cons_self
  have sl1 : Sl X.K H1 ρ σ := Sl.up gP' t hoff.all s
  have t1 := t.up gP
  obtain ⟨o1, e1, q1⟩ := sl1.get h1
  obtain ⟨o2, e2, w, rfl, q2⟩ := sl1.get h2
  subst q1
  have fin : ∀ (r : Sv) (B : As G) (H2 : Hp), P0 r B → Gr G ms H1 H2 → B.P H2 → ∃ BB : As G, (ok = true → Post r (Jl L BB)) ∧ (ok = false → Post (.d (sS "step")) (Jl L BB)) ∧ (Jl L BB).P H2 ∧ Gr G (P :: ms) H H2 ∧ Sl X.K H2 ρ σ ∧ Tb G H2 := fun r B H2 p g2 b => by
    obtain ⟨BB, f1, f2, f3⟩ := hF r B H1 H2 p a1 t1 g2 b
    have g2' : Gr G (P :: ms) H1 H2 := g2.mono fun b hb => List.mem_cons_of_mem _ hb
    have g := gP'.trans g2'
    exact ⟨BB, f1, f2, Jl.step jj g hm f3, g, Sl.up g t hoff.all s, t.up g⟩
  refine ⟨_, e1, _, e2, [.v (.ref b), .d ds], A, ms, ok, P0, hR, ⟨rfl, ⟨w, rfl, q2⟩, trivial⟩, t1, hA _ a1, fun e r B v H2 p s2 f2 g2 b => ?_, fun e r B H2 p g2 b => ?_⟩
  · obtain ⟨BB, f1, _, jB, g, sl2, t2⟩ := fin r B H2 p g2 b
    exact ⟨v, rfl, q r _ v H2 (f1 e) s2 ((hst r B p).2 H) sl2 t2 g.tk g.dom jB⟩
  · obtain ⟨BB, _, f1, jB, g, sl2, t2⟩ := fin r B H2 p g2 b
    exact ⟨rfl, rfl, q _ _ _ H2 (f1 e) ⟨_, rfl, .str "step"⟩ trivial sl2 t2 g.tk g.dom jB⟩
end
end Wb

namespace Wb
open PySem PySem.Spec PyProof.Rows L2
/-! ### law -/
abbrev nLw : List Str := ["_law_script", "_law_row_here", "_law_machine_here", "_law_marks", "_law_table_here", "_law_manner", "_law_bench", "_law_world_here", "_law_story", "_law_turn", "_law_steps", "_law_some", "_law_wrong", "_law_fits", "_law_step", "_law_before"]
theorem scLw : FnScope nLw ["_law_script"] (defScope (top 67)) := ⟨rfl, rfl, rfl, by decide +kernel, rfl, by decide +kernel, by decide +kernel⟩
def nbR (row : Addr) (sa : Addr × Bool) : List Addr := row :: (if sa.2 = true then [] else [sa.1])
def someL : List Stp := [.turn, .cut, .sel, .ask 0, .ask 9, .boot ⟨9, some 0, [], 0⟩]
/-- a list of steps apart from all that changes -/
structure StO (row d P : Addr) (b : Bf) (m : Mach) (wd : Wd) (a : Addr) (ss : List Stp) : Prop where
  r : row ≠ a
  d : d ≠ a
  P : P ≠ a
  b : ∀ x ∈ b.ms, x ≠ a
  ne : ss ≠ []
  can : ∀ s ∈ ss, s ∈ Wb.can m wd
  len : ss.length ≤ 1000
theorem can_len {m : Mach} {k : Nat} {t : Tabl} {n : Nat} {wd : Wd} (hs : House m k t) (ok : Ok m t n wd) (hn : n ≤ 400) : (can m wd).length ≤ 1000 := by
  cases e : isOff wd.stand with
  | true =>
    unfold can
    rw [if_pos e, List.length_map]
    have := ok.shl
    omega
  | false =>
    rw [can_on e]
    have h1 := asks_len (w := wd) hs
    have h2 : (turnsOf wd).length ≤ 1 := by unfold turnsOf; split <;> simp
    have h3 : (selsOf wd).length ≤ 1 := by unfold selsOf; split <;> simp
    simp
    omega
theorem can_boot {m : Mach} {wd : Wd} (h : isOff wd.stand = true) {s : Stp} (hs : s ∈ can m wd) : ∃ x, s = .boot x := by
  unfold can at hs
  rw [if_pos h] at hs
  obtain ⟨x, _, rfl⟩ := List.mem_map.mp hs
  exact ⟨x, rfl⟩
theorem wrong_ne {m : Mach} {k : Nat} {t : Tabl} {wd : Wd} (hs : House m k t) : someL.filter (fun s => !decide (s ∈ can m wd)) ≠ [] := by
  intro z
  have h := List.filter_eq_nil_iff.mp z (.ask 9) (by simp [someL])
  simp only [Bool.not_eq_true', decide_eq_false_iff_not, Classical.not_not] at h
  have h := can_iff.mp h
  cases e : wd.stand with
  | choice l =>
    simp [doable, e] at h
    have := hs.few (behind m l)
    omega
  | _ => simp [doable, e] at h
def fitS (mn : Man) (wd : Wd) : Stp → Bool
  | .boot x => fits mn wd x
  | _ => false
theorem say_shelf (m : Mach) (l : Life) (n : Nat) (w : Wd) : (say m l n w).shelf = w.shelf := by
  unfold say
  cases wordOf m l <;> rfl
theorem seal_shelf {y x : Note} {w : Wd} (h : y ∈ w.shelf) : y ∈ (sealN x w).shelf := by
  unfold sealN
  simp only
  split
  · exact h
  · exact List.mem_append_left _ h
theorem come_shelf {y : Note} {mn : Man} {m : Mach} {t : Tabl} {l : Life} {d : Nat} {w : Wd} (h : y ∈ w.shelf) : y ∈ (come mn m t l d w).shelf := by
  unfold come
  by_cases h1 : d = (rowOf m t l).length
  · rw [if_pos h1]
    by_cases h2 : mn = .early
    · rw [if_pos h2]; exact h
    · rw [if_neg h2]; show y ∈ (say m l w.wheel.1 w).shelf; rw [say_shelf]; exact h
  · rw [if_neg h1]
    by_cases h2 : mn = .late
    · rw [if_pos h2]; exact h
    · rw [if_neg h2]
      by_cases h3 : mn = .early ∧ d + 1 = (rowOf m t l).length
      · rw [if_pos h3]; show y ∈ (say _ _ _ (sealN _ w)).shelf; rw [say_shelf]; exact seal_shelf h
      · rw [if_neg h3]; exact seal_shelf h
theorem stp_shelf {y : Note} {mn : Man} {m : Mach} {t : Tabl} {s : Stp} {w : Wd} (h : y ∈ w.shelf) : y ∈ (stp mn m t s w).shelf := by
  cases s with
  | boot x =>
    unfold stp
    simp only
    split
    · exact come_shelf h
    · exact h
  | ask o =>
    unfold stp
    simp only
    split
    · exact come_shelf h
    · exact h
  | turn =>
    unfold stp
    simp only
    split
    · exact come_shelf h
    · exact h
    · exact h
  | cut => exact h
  | sel =>
    unfold stp
    simp only
    split
    · exact come_shelf (seal_shelf h)
    · exact h
theorem can_ne {m : Mach} {w : Wd} {y : Note} (h : y ∈ w.shelf) : can m w ≠ [] := by
  cases e : isOff w.stand with
  | true =>
    unfold can
    rw [if_pos e]
    intro z
    rw [List.map_eq_nil_iff.mp z] at h
    cases h
  | false =>
    rw [can_on e]
    simp
def spLaw (K : PySem.W.Frag) (G : Addr → Prop) (P : Addr) (q : Str) : Sp := fun vs H Q _ => ∃ (sa : Addr × Bool) (ns : List Int), vs = [.ref sa.1] ∧ Scr K H sa ns ∧ Tb G H ∧ LamX.TabS H P q ∧ ∀ H', Q (.bl true) H'
section
variable {X : Cx} {G : Addr → Prop} {ρ : List Sv} {L : List (List Addr × Hp)} {row P C CB : Addr} {sa : Addr × Bool} {ns : List Int} {q : Str} {hP : ¬ G P} {b : Bf} {wd wd2 : Wd} {sy : List Stp} {d : Addr}
theorem ed_open {e : Expr} {r : Sv} (h : ∀ (A : As G) sh he sp, (∀ H, A.P H → (aDx G X.K (row :: b.ms) d b.c.mn wd2 sh he sp).P H) → Ed X G e ρ (Jl L A) r) : Ed X G e ρ (Jl L (aL G X.K row sa ns P q hP CB C b wd sy d wd2)) r := fun σ H Q s t j qq => by
  obtain ⟨j0, ja, sh, he, sp, jd⟩ := j
  exact h (((aA G X.K row sa ns P q hP).and (aB G X.K CB C b wd sy)).and (aDx G X.K (row :: b.ms) d b.c.mn wd2 sh he sp)) sh he sp (fun H h => h.2) σ H Q s t ⟨j0, ja, jd⟩ qq
theorem aL_D {K : PySem.W.Frag} : ∀ H, (Jl L (aL G K row sa ns P q hP CB C b wd sy d wd2)).P H → (aD G K (row :: b.ms) d b.c.mn wd2).P H := fun _ h => h.2.2
theorem aL_new {K : PySem.W.Frag} {a : Addr} (h : ∀ x, (∀ H, (aL G K row sa ns P q hP CB C b wd sy d wd2).P H → ∃ o, H x = some o) → x ≠ a) : row ≠ a ∧ d ≠ a ∧ P ≠ a ∧ ∀ x ∈ b.ms, x ≠ a := by
  refine ⟨h _ fun H h => rowEx H h.1.1.1, h _ fun H h => ?_, h _ fun H h => ?_, fun x hx => h _ fun H h => ?_⟩
  · obtain ⟨_, _, _, _, hd⟩ := h
    obtain ⟨⟨_, e⟩, _⟩ := adx_k hd
    exact ⟨_, e⟩
  · obtain ⟨_, e⟩ := tab_k h.1.1.2
    exact ⟨_, e⟩
  · obtain ⟨b1, ⟨_, _, _, b2⟩, ⟨_, b3⟩, ⟨_, b4⟩, ⟨_, b5⟩, ⟨_, b6⟩⟩ := ab_k h.1.2
    simp only [Bf.ms, List.mem_cons, List.not_mem_nil, or_false] at hx
    rcases hx with rfl | rfl | rfl | rfl | rfl
    · exact ⟨_, b2⟩
    · exact ⟨_, b4⟩
    · exact ⟨_, b5⟩
    · exact ⟨_, b6⟩
    · exact ⟨_, b3⟩
theorem ed_stands {n k : Nat} {e : Expr} {es : List Expr} {p pos : Pos} (cStands : Cal X.prog X.w X.K X.mg X.base k "_law_stands" (spS X.K G (fStands X.K CB C)) []) (hr : Room k X.A) (hn : n ≤ 400) (ok : Ok b.c.m b.c.t n wd) (hsy : sy.length ≤ 1000) (h5 : ∀ s ∈ sy, ∀ x, s = .boot x → x.life.length ≤ 1000)
    (ha : Ea X G (e :: es) ρ (Jl L (aL G X.K row sa ns P q hP CB C b wd sy d wd)) [.v (.ref b.b), .v (.ref d), .d (eM b.c.m), .d (eT b.c.t), .d (.tuple (sy.map eStp))]) (hg : Gl X "_law_stands" := by rfl) (he : starEach (e :: es) X.env = (false, eval e X.env) :: starEach es X.env := by rfl) (hpl : (backTo pos (starEach es X.env)).any (·.1) = false := by rfl) :
    Ed X G (.Call (.Name "_law_stands" p) (e :: es) [] pos) ρ (Jl L (aL G X.K row sa ns P q hP CB C b wd sy d wd)) (.d (.bool true)) :=
  ed_callS (ss := []) (A := aBD G X.K CB C b wd sy (row :: b.ms) d) (P0 := fun r B => r = .d (.bool true) ∧ B = aBD G X.K CB C b wd sy (row :: b.ms) d) cStands hr ha (fun _ => trivial) (by rw [List.append_nil]; exact ⟨row :: b.ms, b, wd, sy, d, n, hn, ok, hsy, h5, rfl, rfl, rfl, rfl⟩) (fun H h => ⟨h.2.1.2, h.2.2⟩) (fun _ _ h => h.1) hg (by decide) he hpl
end
section
variable {P : Program} {w : World} {K : PySem.W.Frag} {mg : Str → Option Value} {base : Heap} {G : Addr → Prop} {C CB Cb Ce Pt : Addr}
theorem fn_law (E : Ev K mg) (Er : Err K mg Cb Ce) (cTaken : Cal P w K mg base 1 "_law_taken" (spS K G (fDraw K gTaken)) []) (cPick : Cal P w K mg base 2 "_law_pick" (spS K G (fDraw K gPick)) []) (cSmall : Cal P w K mg base 4 "_law_small" (spS K G (fDraw K gSmall)) [])
    (mkB : Mkr P w K mg base 8 CB "Bench" (spS K G (fBInit K CB C)) []) (mkB2 : Mkr P w K mg base 8 CB "Bench" (spS K G (fBInit K CB C)) [.str "sealed"]) (cBW : Cal P w K mg base 2 "_law_bad_world" (spS K G (fBW K)) []) (cStands : Cal P w K mg base 9 "_law_stands" (spS K G (fStands K CB C)) [])
    (cCan : Cal P w K mg base 2 "_law_bad_can" (spS K G (fCan K)) []) (cFits : Cal P w K mg base 1 "_law_bad_fits" (spS K G (fD K fBF)) []) (cStep : Cal P w K mg base 4 "_law_bad_step" (spS K G (fDm K fDStep)) []) (cAlike : Cal P w K mg base 6 "_law_alike" (spS K G (Pu (fAlike 5))) [])
    (CZ : CalZ P w K mg base 11 "_law_done" (spZ K G Cb (fZ K CB C fGiven))) (T : Dg K mg "_law_told" (top 62)) {f : Addr} {fd : FuncData} (F : FunD K "law" "law" (defArgs (top 67)) (defBody (top 67)) (defScope (top 67)) [] [] f fd) (hP : ¬ G Pt) (TB : ∀ c, fd.code = .ref c → LamX.TabB base mg c Pt) :
    FnOk P w K mg base CX0 14 f fd ["_law_script"] (spLaw K G Pt "law.<locals>.<lambda>") := by
  obtain ⟨oc, od, dV, kV, doc, pm, an, cdv, ct, osl, rfl, lk, hcd, _, _⟩ := F.ex
  obtain ⟨c, rfl⟩ := He.codeIn_ref hcd
  have TB := TB c rfl
  refine fn_of lk hcd scLw (fun vs H Q E h => ?_) (fun A' outer s H vs Q E0 hr h => ?_)
  · obtain ⟨sa, ns, rfl, _⟩ := h
    rfl
  obtain ⟨sa, ns, rfl, hsc, tb, hT, hQ⟩ := h
  have nd := scLw.nd
  generalize hq : ("law.<locals>.<lambda>" : Str) = q at hT
  let X := (cxOf CX0 P w K mg base nLw "law" (defScope (top 67)) f (.ref c) A' outer s H E0).nox
  have hqX : X.env.qual ++ "<lambda>" = q := by rw [← hq]; rfl
  suffices hh : Fin (G := G) X (cSs X (defBody (top 67)) { nx := fun _ H' => Q .non H', rt := Q }) (.v (.ref sa.1) :: List.replicate 15 .u) (Jl [] ((⟨fun H => Scr K H sa ns, fun g t h => h.gr g t (.inr (by simp))⟩ : As G).and (As.tabS G Pt q hP))) by
    obtain ⟨t, h1, h2⟩ := fin_ok hh (SvA.st (K := K) (H := H) (rs := [.v (.ref sa.1)]) (vs := [.ref sa.1]) 15 ⟨rfl, trivial⟩) tb ⟨fun p hp => (nomatch hp), hsc, hT⟩
    exact ⟨t, h1.nox, h2⟩
  have hr : Room 13 X.A := hr
  refine f_cons (fun σ H1 sl t j => ⟨_, ps_set (i := 1) nd rfl (Or.inl rfl) (pe_lst (pa_cons (pe_var (i := 0) rfl (.inl rfl)) (pa_cons pe_int (pa_cons pe_int (pa_cons pe_int pa_nil))))) rfl (.inl rfl), ?_⟩)
  obtain ⟨o0, e0, q0⟩ := sl.get (i := 0) (r := .v (.ref sa.1)) rfl
  subst q0
  refine ⟨_, e0, show 4 ≤ sizeLine by decide, fun row nrow => ?_⟩
  have g0 : Gr G [] H1 (upd H1 row (.lst [.ref sa.1, .int 0, .int 7035, .int 0])) := Gr.new nrow
  show cSs X _ _ (List.set σ 1 (some (V.ref row))) (upd H1 row (HO.lst [V.ref sa.1, .int 0, .int 7035, .int 0]))
  refine Fin.app (X := X) (G := G) (ρ := [.v (.ref sa.1), .v (.ref row), .u, .u, .u, .u, .u, .u, .u, .u, .u, .u, .u, .u, .u, .u]) (J := Jl [] (aA G K row sa ns Pt q hP)) ?_ ((sl.g0 g0 t).set (r := .v (.ref row)) 1 rfl) (t.up g0) ⟨fun p hp => (nomatch hp), ⟨0, 7035, 0, by decide, by decide, by decide, upd_same, j.2.1.gr g0 t (.inr (by simp))⟩, (As.tabS G Pt q hP).up g0 t j.2.2⟩
  clear e0 g0
  have mu0 : ∀ {ms : List Addr}, Mu [] ms := Mu.nil
  refine f_cons (f_unp3J 2 3 4 (J1 := Jl [] (aA G K row sa ns Pt q hP)) (Pd := fun d1 d2 d3 => ∃ m k t, House m k t ∧ d1 = eM m ∧ d2 = eN k ∧ d3 = eT t) (Ek.mono (ek_drF (row := row) (sa := sa) (ns := ns) (fun H0 => dr_draw (ek_draw (args := []) cSmall (hr.mono (by decide)) (ea_cons (ed_name 1) ea_nil) ?_ muA ⟨trivial, trivial, trivial, trivial, trivial, trivial, trivial, trivial, trivial, trivial, trivial, trivial, trivial, trivial, trivial, trivial, trivial⟩)) (fun H h => h.1) mu0 (fun H H' a g t b => aA_row a g t b)) (fun r J' p => ?_)) (fun d1 d2 d3 hd => ?_) nd)
  · obtain ⟨t, ht⟩ := House.some (m := [[]]) (k := 1) ⟨by simp, by simp, by simp⟩ (by decide) (by decide)
    exact ⟨_, rfl, _, _, _, ht, rfl⟩
  · obtain ⟨dd, rfl, ⟨_, m, k, t, hs, rfl⟩, rfl⟩ := p
    exact ⟨_, _, _, rfl, ⟨m, k, t, hs, rfl, rfl, rfl⟩, rfl⟩
  obtain ⟨m, k, t0, hs, rfl, rfl, rfl⟩ := hd
  refine f_cons (f_setK 5 (ek_drF (row := row) (sa := sa) (ns := ns) (Pd := (· ∈ [eMan .sealed, eMan .late, eMan .early, eMan .counted, eMan .opn])) (fun H0 => dr_pick (ek_pick (ds := [eMan .sealed, eMan .late, eMan .early, eMan .counted, eMan .opn]) cPick (hr.mono (by decide)) (ed_name 1) (el_en (en_lst (ds := [eMan .sealed, eMan .late, eMan .early, eMan .counted, eMan .opn]) (ea_cons ed_str (ea_cons ed_str (ea_cons ed_str (ea_cons ed_str (ea_cons ed_str ea_nil))))) (by simp)) (fun H a j n z => ?_)) (by simp) (by simp) muA ⟨trivial, trivial, trivial, trivial, trivial, trivial, trivial, trivial, trivial, trivial, trivial, trivial, trivial, trivial, trivial, trivial, trivial⟩)) (fun H h => h.1) mu0 (fun H H' a g t b => aA_row a g t b)) (fun r J' p => ?_) nd)
  · obtain ⟨o, e⟩ := rowEx H j.2
    rw [z, e] at n
    cases n
  obtain ⟨dm, rfl, hdm, rfl⟩ := p
  have hmn : ∃ mn, dm = eMan mn := by
    simp only [List.mem_cons, List.not_mem_nil, or_false] at hdm
    rcases hdm with rfl | rfl | rfl | rfl | rfl
    · exact ⟨_, rfl⟩
    · exact ⟨_, rfl⟩
    · exact ⟨_, rfl⟩
    · exact ⟨_, rfl⟩
    · exact ⟨_, rfl⟩
  obtain ⟨mn, rfl⟩ := hmn
  have hlive : ∀ H, (aA G K row sa ns Pt q hP).P H → (As.live G (nbR row sa)).P H := fun H h z hz => by
    obtain ⟨⟨xs, k1⟩, k2⟩ := row_k h.1
    unfold nbR at hz
    rcases List.mem_cons.mp hz with rfl | hz
    · exact ⟨_, k1⟩
    · by_cases e : sa.2 = true
      · rw [if_pos e] at hz
        cases hz
      · rw [if_neg e] at hz
        rw [List.mem_singleton.mp hz]
        rcases k2 with z | ⟨_, z⟩ | ⟨_, _, z⟩
        · exact absurd z e
        · exact ⟨_, z⟩
        · exact ⟨_, z⟩
  have hmk : ∀ (a : Addr) (r : Sv) (B : As G), (r = .d .none ∧ ∃ b : Bf, b.c.m = m ∧ b.c.k = k ∧ b.c.t = t0 ∧ b.c.mn = mn ∧ b.b = a ∧ (b.st ∉ nbR row sa ∧ b.c.n ∉ nbR row sa ∧ b.c.s ∉ nbR row sa ∧ b.c.p ∉ nbR row sa) ∧ B = aB G K CB C b w0 []) →
      r = .d .none ∧ (fun (r : Sv) (J' : As G) => ∃ b : Bf, b.c.m = m ∧ b.c.k = k ∧ b.c.t = t0 ∧ b.c.mn = mn ∧ (b.st ∉ nbR row sa ∧ b.c.n ∉ nbR row sa ∧ b.c.s ∉ nbR row sa ∧ b.c.p ∉ nbR row sa) ∧ r = .v (.ref b.b) ∧ J' = Jl [] ((aA G K row sa ns Pt q hP).and (aB G K CB C b w0 []))) (.v (.ref a)) (Jl [] ((aA G K row sa ns Pt q hP).and B)) := fun a r B p => by
    obtain ⟨rfl, b, e1, e2, e3, e4, e5, e6, rfl⟩ := p
    exact ⟨rfl, b, e1, e2, e3, e4, e6, by rw [e5], rfl⟩
  refine f_cons (f_setK 6 (Post := fun (r : Sv) (J' : As G) => ∃ b : Bf, b.c.m = m ∧ b.c.k = k ∧ b.c.t = t0 ∧ b.c.mn = mn ∧ (b.st ∉ nbR row sa ∧ b.c.n ∉ nbR row sa ∧ b.c.s ∉ nbR row sa ∧ b.c.p ∉ nbR row sa) ∧ r = .v (.ref b.b) ∧ J' = Jl [] ((aA G K row sa ns Pt q hP).and (aB G K CB C b w0 []))) (ek_if (x := decide (mn = .sealed)) (Et.to (et_eq (d := eMan mn) (e := sS (mS .sealed)) hr (ed_name 5) ed_str (es_man _) (es_man _)) (eqvMan _ _)) (fun e => ?_) (fun e => ek_makeF (F := As.live G (nbR row sa)) (ss := []) mkB (hr.mono (by decide)) (ea_cons (ed_name 2) (ea_cons (ed_name 3) (ea_cons (ed_name 4) (ea_cons (ed_name 5) ea_nil)))) (fun _ => trivial) hlive (fun a ⟨H0, hA, ea⟩ => ⟨nbR row sa, a, m, k, t0, mn, hs, live_not (hlive H0 hA) ea, rfl, rfl, rfl, rfl⟩) hmk)) (fun r J' p => ?_) nd)
  · have e := of_decide_eq_true e
    subst e
    exact ek_makeF (F := As.live G (nbR row sa)) (ss := [.d (eMan .sealed)]) mkB2 (hr.mono (by decide)) (ea_cons (ed_name 2) (ea_cons (ed_name 3) (ea_cons (ed_name 4) ea_nil))) (fun _ => ⟨⟨_, rfl, .str _⟩, trivial⟩) hlive (fun a ⟨H0, hA, ea⟩ => ⟨nbR row sa, a, m, k, t0, .sealed, hs, live_not (hlive H0 hA) ea, rfl, rfl, rfl, rfl⟩) hmk
  obtain ⟨b, rfl, rfl, rfl, rfl, hnb, rfl, rfl⟩ := p
  have ap : Apt row sa b := by
    obtain ⟨n1, n2, n3, n4⟩ := hnb
    unfold nbR at n1 n2 n3 n4
    simp only [List.mem_cons, not_or] at n1 n2 n3 n4
    refine ⟨n1.1, n2.1, n3.1, n4.1, ?_⟩
    by_cases e : sa.2 = true
    · exact .inl e
    · rw [if_neg e] at n1 n2 n3 n4
      simp only [List.mem_singleton] at n1 n2 n3 n4
      exact .inr ⟨n1.2, n2.2, n3.2, n4.2⟩
  have hlive2 : ∀ H, ((aA G K row sa ns Pt q hP).and (aB G K CB C b w0 [])).P H → (As.live G (row :: b.ms)).P H := fun H h z hz => by
    obtain ⟨⟨xs, k1⟩, _⟩ := row_k h.1.1
    obtain ⟨b1, ⟨_, _, _, b2⟩, ⟨_, b3⟩, ⟨_, b4⟩, ⟨_, b5⟩, ⟨_, b6⟩⟩ := ab_k h.2
    simp only [Bf.ms, List.mem_cons, List.not_mem_nil, or_false] at hz
    rcases hz with rfl | rfl | rfl | rfl | rfl | rfl
    · exact ⟨_, k1⟩
    · exact ⟨_, b2⟩
    · exact ⟨_, b4⟩
    · exact ⟨_, b5⟩
    · exact ⟨_, b6⟩
    · exact ⟨_, b3⟩
  refine f_cons (f_tup2 7 8 (r2 := .d (.tuple ([] : List PyData))) (Post := fun r J' => ∃ d, r = .v (.ref d) ∧ J' = Jl [] (aL G K row sa ns Pt q hP CB C b w0 [] d w0)) (ek_call (ss := []) (ms := []) (A := As.live G (row :: b.ms)) (P0 := fun r B => ∃ d, r = .v (.ref d) ∧ B = aD G K (row :: b.ms) d b.c.mn w0) cBW (hr.mono (by decide)) (ea_cons (ed_name 5) ea_nil) (fun _ => trivial) ⟨row :: b.ms, b.c.mn, rfl, rfl, rfl, rfl⟩ (fun H h => hlive2 H h.2) ⟨trivial, trivial, trivial, trivial, trivial, trivial, trivial, trivial, trivial, trivial, trivial, trivial, trivial, trivial, trivial, trivial, trivial⟩ (fun r B H1 H2 p j t g bb => ?_)) (fun r J' p => ed_tup (ds := []) ea_nil (by decide)) (k := fun r J' p => ?_) nd)
  · obtain ⟨d, rfl, rfl⟩ := p
    exact ⟨_, ⟨d, rfl, rfl⟩, fun p hp => (nomatch hp), ((aA G K row sa ns Pt q hP).and (aB G K CB C b w0 [])).up g t j.2, bb⟩
  obtain ⟨d, rfl, rfl⟩ := p
  refine f_skip (x := false) (et_not (b := true) (et_val (ed_stands (n := 0) cStands (hr.mono (by decide)) (by decide) ok0 (by simp) (by simp) (ea_cons (ed_name 6) (ea_cons (ed_name 7) (ea_cons (ed_name 2) (ea_cons (ed_name 4) (ea_cons (ed_name 8) ea_nil)))))))) ?_ rfl
  have hw0 : (⟨0, none, [], 0⟩ : Note) ∈ w0.shelf := by simp [w0]
  refine f_cons (f_forK 9 (row :: d :: Pt :: b.ms) (Pd := fun ds => ds.length ≤ 30) (Ei.mono (ei_rngK (Post := fun n J' => n ≤ 30 ∧ J' = Jl [] (aL G K row sa ns Pt q hP CB C b w0 [] d w0)) E.range (Ek.mono (ek_drF (row := row) (sa := sa) (ns := ns) (Pd := fun d => ∃ n, n < 30 ∧ d = eN n) (fun H0 => ek_tk (m := 30) cTaken hr (ed_name 1) (ed_int (i := 30)) (by decide) (by decide) muA ⟨trivial, trivial, trivial, trivial, trivial, trivial, trivial, trivial, trivial, trivial, trivial, trivial, trivial, trivial, trivial, trivial, trivial⟩) (fun H h => h.1.1.1) mu0 (fun H H' a g t b => aL_row a ap g t b)) (fun r J' p => ?_))) (fun ds J' p => ?_))
    (fun ds n ρ A => ∃ wd sy u, Ok b.c.m b.c.t n wd ∧ sy.length = n ∧ (∀ s ∈ sy, ∀ x, s = .boot x → x.life.length ≤ 1000) ∧ (∃ y, y ∈ wd.shelf) ∧ A = aL G K row sa ns Pt q hP CB C b wd sy d wd ∧ ρ = [.v (.ref sa.1), .v (.ref row), .d (eM b.c.m), .d (eN b.c.k), .d (eT b.c.t), .d (eMan b.c.mn), .v (.ref b.b), .v (.ref d), .d (.tuple (sy.map eStp)), u, .u, .u, .u, .u, .u, .u])
    (fun ds h => ⟨w0, [], .u, ok0, rfl, by simp, ⟨_, hw0⟩, rfl, rfl⟩) (fun ds hds H1 n dd ρ A' hdd hI => ?_) (fun ds hds ρ A' hI => ?_) nd)
  · obtain ⟨dd, rfl, ⟨n, hn, rfl⟩, rfl⟩ := p
    exact ⟨n, rfl, by omega, by omega, rfl⟩
  · obtain ⟨n, rfl, hn, rfl⟩ := p
    exact ⟨by simp [rngD]; omega, rfl⟩
  · obtain ⟨wd, sy, u9, ok, hsl, h5, ⟨y0, hy0⟩, rfl, rfl⟩ := hI
    have hn : n < ds.length := (List.getElem?_eq_some_iff.mp hdd).1
    have hn4 : n ≤ 400 := by omega
    refine f_wk 9 ?_
    have muL : ∀ {ms : List Addr}, (∀ x ∈ ms, x ∈ row :: d :: Pt :: b.ms) → Mu [(row :: d :: Pt :: b.ms, H1)] ms := fun h => Mu.cons (fun a ha => .inl (h a ha)) Mu.nil
    refine f_cons (f_newL 10 (ds := (can b.c.m wd).map eStp) (en_callS (ss := []) (A := aD G K (row :: b.ms) d b.c.mn wd) (P0 := fun r B => (∃ a, r = .l a ((can b.c.m wd).map eStp)) ∧ B = aD G K (row :: b.ms) d b.c.mn wd) cCan (hr.mono (by decide)) (ea_cons (ed_name 7) (ea_cons (ed_name 2) ea_nil)) (fun _ => trivial) ⟨row :: b.ms, d, b.c.mn, wd, b.c.m, b.c.k, b.c.t, n, b.c.hs, hn4, ok, rfl, rfl, rfl, rfl⟩ aL_D (fun _ _ h => h.1)) (fun a mu off hnew => ?_) nd)
    obtain ⟨ra, da, Pa, ba⟩ := aL_new hnew
    have hcl := can_len b.c.hs ok hn4
    refine f_cons (f_newL 11 (ds := [eStp .turn, eStp .cut, eStp .sel, eStp (.ask 0), eStp (.ask 9), eStp (.boot ⟨9, some 0, [], 0⟩)]) (en_lst (ea_cons (ed_tup (ds := [sS "turn"]) (ea_cons ed_str ea_nil) (by simp)) (ea_cons (ed_tup (ds := [sS "cut"]) (ea_cons ed_str ea_nil) (by simp)) (ea_cons (ed_tup (ds := [sS "seal"]) (ea_cons ed_str ea_nil) (by simp)) (ea_cons (ed_tup (ds := [sS "ask", eN 0]) (ea_cons ed_str (ea_cons ed_int ea_nil)) (by simp)) (ea_cons (ed_tup (ds := [sS "ask", eN 9]) (ea_cons ed_str (ea_cons ed_int ea_nil)) (by simp))
      (ea_cons (ed_tup (ds := [sS "boot", eNote ⟨9, some 0, [], 0⟩]) (ea_cons ed_str (ea_cons (ed_tup (ds := [eN 9, eN 0, eL [], eN 0]) (ea_cons ed_int (ea_cons ed_int (ea_cons (ed_tup (ds := []) ea_nil (by decide)) (ea_cons ed_int ea_nil)))) (by simp)) ea_nil)) (by simp)) ea_nil)))))) (by simp)) (fun a2 mu2 off2 hnew2 => ?_) nd)
    obtain ⟨ra2, da2, Pa2, ba2⟩ := aL_new hnew2
    refine f_cons (f_setK 12 (ek_drF (row := row) (sa := sa) (ns := ns) (Pd := (· ∈ (someL.filter (fun s => !decide (s ∈ can b.c.m wd))).map eStp)) (fun H0 => dr_pick (ek_pick (ds := (someL.filter (fun s => !decide (s ∈ can b.c.m wd))).map eStp) cPick (hr.mono (by decide)) (ed_name 1) (el_en (En.to (en_lc 14 (ds := someL.map eStp) (liftB eStp fun s => !decide (s ∈ can b.c.m wd)) (liftD eStp eStp) (ep_lst (a := a2) (ds := someL.map eStp) (ed_name 11) (by simp)) (by simp [someL]) (fun d' hd s H0 C' cl fp => .one ?_) (fun d' hd _ s H0 C' cl fp => ?_) nd (blkOk_by (N := nLw) (sc := defScope (top 67)) (by decide +kernel))) (keepM_map (fun _ _ => eStp_inj) _)) (fun H a j n z => ?_)) ?_ ?_ muA (by simp [OffL, Off, Ne.symm ra, Ne.symm ra2]))) (fun H h => h.1.1.1) (muL (by simp)) (fun H H' a g t b => aL_row a ap g t b)) (fun r J' p => ?_) nd)
    · obtain ⟨o, ho, rfl⟩ := List.mem_map.mp hd
      rw [liftB_at (fun _ _ => eStp_inj)]
      exact Et.to (et_notInL (k := 0) (d := eStp o) (ds := (can b.c.m wd).map eStp) (hu65 hr) (ed_name 14) (ed_name 10) (cn_shaped (cn_Stp 0 o)) (cnl_shaped (n := 3) (fun d hd => by obtain ⟨a, _, rfl⟩ := List.mem_map.mp hd; exact cn_Stp 0 a))) (by rw [any_eqv (n := 3) (cn_Stp 0) (fun _ _ => eStp_inj)])
    · obtain ⟨o, ho, rfl⟩ := List.mem_map.mp hd
      rw [liftD_at (fun _ _ => eStp_inj)]
      exact ed_name 14
    · obtain ⟨o, e⟩ := rowEx H j.2
      rw [z, e] at n
      cases n
    · intro z
      exact wrong_ne b.c.hs (List.map_eq_nil_iff.mp z)
    · rw [List.length_map]
      exact Nat.le_trans (List.length_filter_le _ _) (by simp [someL])
    obtain ⟨dw, rfl, hdw, rfl⟩ := p
    obtain ⟨sw, hsw, rfl⟩ := List.mem_map.mp hdw
    obtain ⟨hs1, hs2⟩ := List.mem_filter.mp hsw
    have hnd : doable b.c.m wd sw = false := by
      cases e : doable b.c.m wd sw with
      | false => rfl
      | true => simp [can_iff.mpr e] at hs2
    have hl : ∀ x, sw = .boot x → x.life.length ≤ 1000 := by
      rintro x rfl
      simp [someL] at hs1
      rw [hs1]
      simp
    refine f_wk 11 ?_
    have ml : ∀ x ∈ Pt :: b.ms, x ∈ row :: d :: Pt :: b.ms := fun x hx => List.mem_cons_of_mem _ (List.mem_cons_of_mem _ hx)
    have offL : ∀ {a : Addr}, Pt ≠ a → (∀ x ∈ b.ms, x ≠ a) → a ∉ Pt :: b.ms := fun h1 h2 z => (List.mem_cons.mp z).elim (fun e => h1 e.symm) fun e => h2 _ e rfl
    have o1 : OffL (Pt :: b.ms) [.v (.ref sa.1), .v (.ref row), .d (eM b.c.m), .d (eN b.c.k), .d (eT b.c.t), .d (eMan b.c.mn), .v (.ref b.b), .v (.ref d), .d (.tuple (sy.map eStp)), .u, .l a ((can b.c.m wd).map eStp), .u, .d (eStp sw), .u, .u, .u] := ⟨trivial, trivial, trivial, trivial, trivial, trivial, trivial, trivial, trivial, trivial, offL Pa ba, trivial, trivial, trivial, trivial, trivial, trivial⟩
    refine f_cons (f_ifN (J1 := Jl [(row :: d :: Pt :: b.ms, H1)] (aL G K row sa ns Pt q hP CB C b wd sy d wd)) (etn_neS (x := "step") hr (ek_told (Post := fun r J' => r = .d (.str "step") ∧ J' = Jl [(row :: d :: Pt :: b.ms, H1)] (aL G K row sa ns Pt q hP CB C b wd sy d wd)) (R := fZ K CB C fGiven) (A := aB G K CB C b wd sy) (ms := b.ms) (ok := doable b.c.m wd sw) (P0 := fun r B => r = .d (heardD wd (nxtW b.c wd sw)) ∧ B = aB G K CB C b (nxtW b.c wd sw) (syN b.c.m wd sw sy)) (b := b.b) (ds := eStp sw) (Ls := LamX.lamS_by (sc := defScope (top 67)) (by decide +kernel)) 6 12 Er T CZ TB rfl hP hr rfl rfl (fun H h => by rw [hqX]; exact h.1.1.2) (fun H H' a g t hT => aL_lam a g t (by rw [hqX] at hT; exact hT)) ⟨b, wd, sy, n, sw, [.d (eStp sw)], rfl, hn4, ok, by omega, hl, rfl, rfl, rfl, rfl, rfl⟩ (fun H h => h.1.2) (muL ml) o1 (fun r B p => by obtain ⟨rfl, _⟩ := p; exact ⟨trivial, fun _ => trivial⟩) (fun r B H2 H3 p a t g bb => ?_)) (by decide +kernel) (by decide +kernel)) (fun p => ?_) (fun _ => f_nil ?_))
    · obtain ⟨rfl, rfl⟩ := p
      have e1 : nxtW b.c wd sw = wd := by unfold nxtW; rw [hnd] <;> rfl
      have e2 : syN b.c.m wd sw sy = sy := by unfold syN; rw [hnd] <;> rfl
      rw [e1, e2] at bb
      exact ⟨aL G K row sa ns Pt q hP CB C b wd sy d wd, ⟨(fun e => by rw [hnd] at e; cases e), ⟨fun _ => ⟨rfl, rfl⟩, aL_done a ap g t bb⟩⟩⟩
    · simp [PyData.eqv] at p
    refine f_wk 12 ?_
    have hcn := can_ne (m := b.c.m) hy0
    obtain ⟨s0, rest0, hcan⟩ := List.exists_cons_of_ne_nil hcn
    have hs0 : (can b.c.m wd)[0]? = some s0 := by rw [hcan] <;> rfl
    have off1 : ∀ {a : Addr} {ss : List PyData}, row ≠ a → OffL [row] [.v (.ref sa.1), .v (.ref row), .d (eM b.c.m), .d (eN b.c.k), .d (eT b.c.t), .d (eMan b.c.mn), .v (.ref b.b), .v (.ref d), .d (.tuple (sy.map eStp)), .u, .l a ss, .u, .u, .u, .u, .u] := fun h => ⟨trivial, trivial, trivial, trivial, trivial, trivial, trivial, trivial, trivial, trivial, by simpa [Off] using h.symm, trivial, trivial, trivial, trivial, trivial, trivial⟩
    have etk : ∀ {a : Addr} {ss : List PyData} {m : Nat} {p p1 p2 p3 p4 pos : Pos} {k k2 : Nat} {Pb : Bool → Prop}, row ≠ a → 0 < m → m ≤ 1000000 → (∀ b, Pb b) → EtN X G (.Compare (.Call (.Name "_law_taken" p) [.Name "_law_row_here" p1, .Constant (.int (m : Nat)) k2 p2] [] p3) [.Gt] [.Constant (.int 0) k p4] pos) [.v (.ref sa.1), .v (.ref row), .d (eM b.c.m), .d (eN b.c.k), .d (eT b.c.t), .d (eMan b.c.mn), .v (.ref b.b), .v (.ref d), .d (.tuple (sy.map eStp)), .u, .l a ss, .u, .u, .u, .u, .u] (Jl [(row :: d :: Pt :: b.ms, H1)] (aL G K row sa ns Pt q hP CB C b wd sy d wd)) Pb (Jl [(row :: d :: Pt :: b.ms, H1)] (aL G K row sa ns Pt q hP CB C b wd sy d wd)) := fun {a ss m _ _ _ _ _ _ _ _ _} h1 h2 h3 hb =>
      etn_gt0 (Pd := fun _ => True) (Ek.mono (ek_drF (row := row) (sa := sa) (ns := ns) (Pd := fun d => ∃ n, n < m ∧ d = eN n) (fun H0 => ek_tk (m := m) cTaken hr (ed_name 1) ed_int h2 h3 muA (off1 h1)) (fun H h => h.1.1.1) (muL (by simp)) (fun H H' a g t b => aL_row a ap g t b)) (fun r J' p => by
        obtain ⟨dd, rfl, ⟨n, hn, rfl⟩, rfl⟩ := p
        exact ⟨_, rfl, rfl⟩)) hb
    refine f_cut (Mid := Any X (fun ρ J => J = Jl [(row :: d :: Pt :: b.ms, H1)] (aL G K row sa ns Pt q hP CB C b wd sy d wd) ∧ ∃ a ss, StO row d Pt b b.c.m wd a ss ∧ ρ = [.v (.ref sa.1), .v (.ref row), .d (eM b.c.m), .d (eN b.c.k), .d (eT b.c.t), .d (eMan b.c.mn), .v (.ref b.b), .v (.ref d), .d (.tuple (sy.map eStp)), .u, .l a (ss.map eStp), .u, .u, .u, .u, .u]))
      (f_ifN (Pb := fun bb => bb = true → 1 < (can b.c.m wd).length) (J1 := Jl [(row :: d :: Pt :: b.ms, H1)] (aL G K row sa ns Pt q hP CB C b wd sy d wd)) (etn_w (ewn_and (x := decide ((1 : Int) < (((can b.c.m wd).map eStp).length : Nat))) (et_gt (ed_lenL (a := a) (ds := (can b.c.m wd).map eStp) E.len (ed_name 10)) ed_int) (fun e => ⟨(fun z => by cases z), rfl⟩)
        (fun e => ewn_and (x := PyData.eqv (eStp s0) (eStp .cut)) (et_eq (d := eStp s0) (e := eStp .cut) hr (ed_ixL (p := a) (ds := (can b.c.m wd).map eStp) (i := 0) (ed_name 10) ed_int (map_at hs0)) (ed_tup (ds := [sS "cut"]) (ea_cons ed_str ea_nil) (by simp)) (cn_shaped (cn_Stp 0 _)) (cn_shaped (cn_Stp 0 .cut))) (fun e => ⟨(fun z => by cases z), rfl⟩)
          (fun _ => ewn_and1 (etk (m := 3) ra (by decide) (by decide) (fun _ _ => by have e := of_decide_eq_true e; rw [List.length_map] at e; omega)))))) (fun p => ?_) (fun p => f_nil (fin_any ⟨rfl, a, can b.c.m wd, ⟨ra, da, Pa, ba, hcn, fun s h => h, hcl⟩, rfl⟩))) fun σ H2 hM => ?_
    · have p := p rfl
      refine f_one (f_newL 10 (ds := ((can b.c.m wd).drop 1).map eStp) (En.to (en_sl (a := a) (ds := (can b.c.m wd).map eStp) (ed_name 10) (eo_some ed_int) eo_none) (by rw [List.map_drop]; exact cut_drop _ 1)) (fun a' mu' off' hnew' => ?_) nd)
      obtain ⟨ra', da', Pa', ba'⟩ := aL_new hnew'
      refine fin_any ⟨rfl, a', (can b.c.m wd).drop 1, ⟨ra', da', Pa', ba', ?_, fun s h => List.mem_of_mem_drop h, ?_⟩, rfl⟩
      · intro z
        have := congrArg List.length z
        simp at this
        omega
      · rw [List.length_drop]
        omega
    obtain ⟨ρ, J, ⟨rfl, a, ss, st, rfl⟩, sl, tb, jj⟩ := hM
    refine Fin.app (X := X) ?_ sl tb jj
    clear sl tb jj σ H2
    refine f_cut (Mid := Any X (fun ρ J => J = Jl [(row :: d :: Pt :: b.ms, H1)] (aL G K row sa ns Pt q hP CB C b wd sy d wd) ∧ ∃ a ss, StO row d Pt b b.c.m wd a ss ∧ ρ = [.v (.ref sa.1), .v (.ref row), .d (eM b.c.m), .d (eN b.c.k), .d (eT b.c.t), .d (eMan b.c.mn), .v (.ref b.b), .v (.ref d), .d (.tuple (sy.map eStp)), .u, .l a (ss.map eStp), .u, .u, .u, .u, .u]))
      (f_ifN (Pb := fun bb => bb = true → isOff wd.stand = true) (J1 := Jl [(row :: d :: Pt :: b.ms, H1)] (aL G K row sa ns Pt q hP CB C b wd sy d wd)) (etn_w (ewn_and (x := isOff wd.stand) (Et.to (et_eq (d := eSt wd.stand) (e := eSt .off) hr (ed_open fun A sh he sp hA => ed_wd 2 hr (fun H h => hA H h.2) (ed_name 7)) (ed_tup (ds := [sS "off"]) (ea_cons ed_str ea_nil) (by simp)) (cn_shaped (cn_St 0 _)) (cn_shaped (cn_St 0 .off))) (eqvOff _)) (fun e => ⟨(fun z => by cases z), rfl⟩)
        (fun e => ewn_and1 (etk (m := 4) st.r (by decide) (by decide) (fun _ _ => e))))) (fun p => ?_) (fun p => f_nil (fin_any ⟨rfl, a, ss, st, rfl⟩))) fun σ H2 hM => ?_
    · have p := p rfl
      refine f_cons (f_setLc 14 13 (ds := ss.map eStp) (liftB eStp (fitS b.c.mn wd)) (liftD eStp eStp) (fun a3 => ∀ x, (∀ H, (aL G K row sa ns Pt q hP CB C b wd sy d wd).P H → ∃ o, H x = some o) → x ≠ a3) (ep_lst (a := a) (ds := ss.map eStp) (ed_name 10) (by simp)) (by have := st.len; simp; omega) (fun d' hd s H0 C' cl fp => .one ?_) (fun d' hd _ s H0 C' cl fp => ?_) (fun σ H a3 s j n x hx z => ?_) (fun a3 hnew3 => ?_) nd (blkOk_by (N := nLw) (sc := defScope (top 67)) (by decide +kernel)))
      · obtain ⟨o, ho, rfl⟩ := List.mem_map.mp hd
        rw [liftB_at (fun _ _ => eStp_inj)]
        obtain ⟨x, rfl⟩ := can_boot p (st.can o ho)
        exact et_val (ed_d (args := [.d (eNote x)]) (mn := b.c.mn) (wd := wd) (res := .bool (fits b.c.mn wd x)) cFits (hr.mono (by decide)) (ea_cons (ed_name 7) (ea_cons (ed_ixc (ds := [sS "boot", eNote x]) (d := eNote x) (ed_name 14) rfl) ea_nil)) ⟨x, rfl, rfl⟩ aL_D)
      · obtain ⟨o, ho, rfl⟩ := List.mem_map.mp hd
        rw [liftD_at (fun _ _ => eStp_inj)]
        exact ed_name 14
      · obtain ⟨o, e⟩ := hx H j.2
        rw [z, n] at e
        cases e
      obtain ⟨ra3, da3, Pa3, ba3⟩ := aL_new hnew3
      rw [keepM_map (fun _ _ => eStp_inj)]
      by_cases z : ss.filter (fitS b.c.mn wd) = []
      · refine f_one (f_set 10 (r := .l a (ss.map eStp)) (ed_if (x := false) (Et.to (et_neL (p := a3) (ds := (ss.filter (fitS b.c.mn wd)).map eStp) (es := []) hr (ed_name 13) (en_lst (ds := []) ea_nil (by simp)) (cnl_shaped (n := 3) (fun d hd => by obtain ⟨a, _, rfl⟩ := List.mem_map.mp hd; exact cn_Stp 0 a)) rfl) ?_) (fun e => by cases e) (fun _ => ed_name 10)) (f_wk 13 (fin_any ⟨rfl, a, ss, st, rfl⟩)) nd)
        rw [eqvNil, z] <;> rfl
      · refine f_one (f_set 10 (r := .l a3 ((ss.filter (fitS b.c.mn wd)).map eStp)) (ed_if (x := true) (Et.to (et_neL (p := a3) (ds := (ss.filter (fitS b.c.mn wd)).map eStp) (es := []) hr (ed_name 13) (en_lst (ds := []) ea_nil (by simp)) (cnl_shaped (n := 3) (fun d hd => by obtain ⟨a, _, rfl⟩ := List.mem_map.mp hd; exact cn_Stp 0 a)) rfl) ?_) (fun _ => ed_name 13) (fun e => by cases e)) (f_wk 13 (fin_any ⟨rfl, a3, ss.filter (fitS b.c.mn wd), ⟨ra3, da3, Pa3, ba3, z, fun s h => st.can s (List.mem_filter.mp h).1, Nat.le_trans (List.length_filter_le _ _) st.len⟩, rfl⟩)) nd)
        rw [eqvNil, decide_eq_false (fun e => z (List.map_eq_nil_iff.mp e))] <;> rfl
    obtain ⟨ρ, J, ⟨rfl, a, ss, st, rfl⟩, sl, tb, jj⟩ := hM
    refine Fin.app (X := X) ?_ sl tb jj
    clear sl tb jj σ H2
    refine f_cons (f_tup2 14 15 (r2 := .d (eN wd.heard.length)) (Post := Dr [(row :: d :: Pt :: b.ms, H1)] (aL G K row sa ns Pt q hP CB C b wd sy d wd) (· ∈ ss.map eStp)) (ek_drF (row := row) (sa := sa) (ns := ns) (fun H0 => dr_pick (ek_pick (ds := ss.map eStp) cPick (hr.mono (by decide)) (ed_name 1) (el_ed (ed_name 10) st.r.symm) (by simpa using st.ne) (by simpa using st.len) muA (off1 st.r))) (fun H h => h.1.1.1) (muL (by simp)) (fun H H' a g t b => aL_row a ap g t b)) (fun r J' p => by
      obtain ⟨dd, rfl, hdd, rfl⟩ := p
      exact Ed.to (ed_open fun A sh he sp hA => ed_lenL (a := he) (ds := wd.heard.map eH) E.len (ed_wd 3 hr (fun H h => hA H h.2) (ed_name 7))) (by rw [List.length_map] <;> rfl)) (k := fun r J' p => ?_) nd)
    obtain ⟨ds', rfl, hds', rfl⟩ := p
    obtain ⟨s1, hs1, rfl⟩ := List.mem_map.mp hds'
    have hdo := can_iff.mp (st.can s1 hs1)
    have ok' : Ok b.c.m b.c.t (n + 1) (stp b.c.mn b.c.m b.c.t s1 wd) := stp_ok b.c.hs ok hdo
    have hl1 : ∀ x, s1 = .boot x → x.life.length ≤ 1000 := by
      rintro x rfl
      simp [doable] at hdo
      exact Nat.le_trans (ok.sh x hdo.2).2.2 (by omega)
    have hy1 := stp_shelf (mn := b.c.mn) (m := b.c.m) (t := b.c.t) (s := s1) hy0
    generalize hwd' : stp b.c.mn b.c.m b.c.t s1 wd = wd' at ok' hy1
    refine f_wk 10 ?_
    refine f_cons (f_dropK (Post := fun r J' => J' = Jl [(row :: d :: Pt :: b.ms, H1)] (aL G K row sa ns Pt q hP CB C b wd sy d wd')) (ek_fr (ms := [d]) (A := aD G K (row :: b.ms) d b.c.mn wd) (Post0 := fun r B => B = aD G K (row :: b.ms) d b.c.mn wd') (fun H0 => Ek.mono (ek_dm (mn := b.c.mn) (wd := wd) (wd' := wd') cStep (hr.mono (by decide)) (ea_cons (ed_name 7) (ea_cons (ed_name 2) (ea_cons (ed_name 4) (ea_cons (ed_name 14) ea_nil)))) (fun H h => h) ⟨b.c.m, b.c.k, b.c.t, s1, n, b.c.hs, hn4, ok, hdo, rfl, hwd'.symm⟩ muD ⟨trivial, trivial, trivial, trivial, trivial, trivial, trivial, trivial, trivial, trivial, trivial, trivial, trivial, trivial, trivial, trivial, trivial⟩) (fun r J' p => ⟨_, p.2, rfl⟩)) (fun H h => h.2) (muL (by simp)) (fun r B H2 H3 p a t g bb => ?_)) (fun r J' p => ?_))
    · subst p
      exact ⟨_, rfl, aL_step a g t bb⟩
    subst p
    have e1 : nxtW b.c wd s1 = wd' := by unfold nxtW; rw [if_pos hdo]; exact hwd'
    have e2 : syN b.c.m wd s1 sy = sy ++ [s1] := by unfold syN; rw [if_pos hdo]
    have ha5 : Alk 5 (heardD wd wd') := alk_map (by have := ok'.he; simp; omega) fun x hx => alk_H 3 (ok'.hs x (List.mem_of_mem_drop hx))
    refine f_cons (f_ifN (J1 := Jl [(row :: d :: Pt :: b.ms, H1)] (aL G K row sa ns Pt q hP CB C b wd' (sy ++ [s1]) d wd')) (etn_not (b := true) (etn_val (ek_pu2 (d1 := heardD wd wd') (d2 := heardD wd wd') (r := .d (.bool true)) cAlike (hr.mono (by decide)) (ek_told (Post := fun r J' => r = .d (heardD wd wd') ∧ J' = Jl [(row :: d :: Pt :: b.ms, H1)] (aL G K row sa ns Pt q hP CB C b wd' (sy ++ [s1]) d wd')) (R := fZ K CB C fGiven) (A := aB G K CB C b wd sy) (ms := b.ms) (ok := doable b.c.m wd s1) (P0 := fun r B => r = .d (heardD wd (nxtW b.c wd s1)) ∧ B = aB G K CB C b (nxtW b.c wd s1) (syN b.c.m wd s1 sy)) (b := b.b) (ds := eStp s1) (Ls := LamX.lamS_by (sc := defScope (top 67)) (by decide +kernel)) 6 14 Er T CZ TB rfl hP hr rfl rfl (fun H h => by rw [hqX]; exact h.1.1.2) (fun H H' a g t hT => aL_lam a g t (by rw [hqX] at hT; exact hT)) ⟨b, wd, sy, n, s1, [.d (eStp s1)], rfl, hn4, ok, by omega, hl1, rfl, rfl, rfl, rfl, rfl⟩ (fun H h => h.1.2) (muL ml) ⟨trivial, trivial, trivial, trivial, trivial, trivial, trivial, trivial, trivial, trivial, trivial, trivial, trivial, trivial, trivial, trivial, trivial⟩ (fun r B p => by obtain ⟨rfl, _⟩ := p; exact ⟨trivial, fun _ => trivial⟩) (fun r B H2 H3 p a t g bb => ?_))
      (ed_open fun A sh he sp hA => Ed.to (ed_tupleN E.tuple (en_sl (a := he) (ds := wd'.heard.map eH) (ed_wd 3 hr (fun H h => hA H h.2) (ed_name 7)) (eo_some (i := (wd.heard.length : Nat)) (ed_name 15)) eo_none)) ?_) ⟨rfl, .inl ⟨_, ha5, rfl⟩⟩))) (fun p => by cases p) (fun _ => f_nil ?_))
    · obtain ⟨rfl, rfl⟩ := p
      rw [e1, e2] at bb
      exact ⟨aL G K row sa ns Pt q hP CB C b wd' (sy ++ [s1]) d wd', ⟨fun _ => ⟨by rw [e1], rfl⟩, ⟨(fun e => by rw [hdo] at e; cases e), aL_done a ap g t bb⟩⟩⟩
    · rw [cut_drop]
      unfold heardD
      rw [List.map_drop]
    refine f_cons (f_set 8 (r := .d (.tuple ((sy ++ [s1]).map eStp))) (Ed.to (ed_cat (ds := sy.map eStp) (es := [eStp s1]) (ed_name 8) (ed_tup (ds := [eStp s1]) (ea_cons (ed_name 14) ea_nil) (by simp)) (by simp; omega)) (by simp)) ?_ nd)
    have h5' : ∀ s ∈ sy ++ [s1], ∀ x, s = .boot x → x.life.length ≤ 1000 := fun s hs => (List.mem_append.mp hs).elim (h5 s) fun e => by rw [List.mem_singleton.mp e]; exact hl1
    refine f_skip (x := false) (et_not (b := true) (et_val (ed_stands (n := n + 1) cStands (hr.mono (by decide)) (by omega) ok' (by simp; omega) h5' (ea_cons (ed_name 6) (ea_cons (ed_name 7) (ea_cons (ed_name 2) (ea_cons (ed_name 4) (ea_cons (ed_name 8) ea_nil)))))))) ?_ rfl
    exact f_nil (f_wk 14 (f_wk 15 (f_next ⟨wd', sy ++ [s1], .u, ok', by simp [hsl], h5', ⟨_, hy1⟩, rfl, rfl⟩)))
  · obtain ⟨wd, sy, u9, ok, hsl, h5, _, rfl, rfl⟩ := hI
    exact f_one (f_ret ed_bl (fun v H s t j => by
      obtain ⟨_, e, dd⟩ := s
      cases e
      cases dd
      exact hQ H))
end
end Wb

namespace Wb
open PySem PySem.Spec PyProof.Rows L2
theorem gt_ok {K : PySem.W.Frag} {t : Str × Str × Nat} (h : gtOk K t = true) (e : gtSee K t = gtVal t) : Dpr K (He.ga K "Bench") t.1 t.2.1 (inClass (top 42) t.2.2) := by
  obtain ⟨h1, h2⟩ := He.ba h
  obtain ⟨k1, k2⟩ := He.ba h1
  obtain ⟨h3, h4⟩ := He.ba h2
  obtain ⟨h5, h6⟩ := He.ba h3
  obtain ⟨h7, h8⟩ := He.ba h4
  have gf : ∃ g rest, PySem.W.recIn K (prA K t.1) "property" = some (.ref g :: rest) := by
    split at h8
    · rename_i g rest q
      exact ⟨g, rest, q⟩
    · cases h8
  obtain ⟨g, rest, hrec⟩ := gf
  have hg : gtA K t.1 = g := by unfold gtA; rw [hrec]
  unfold gtSee at e
  cases q : gtF K t.1 with
  | none => rw [q] at k2; cases k2
  | some fd =>
    rw [q] at k2 e
    obtain ⟨c1, c2⟩ := He.ba (show (PySem.W.codeIn K fd.code t.2.1 && He.dflB K fd.defaults []) = true from k2)
    unfold gtF at q
    cases q2 : K.lookup (gtA K t.1) with
    | none => rw [q2] at q; cases q
    | some o =>
      obtain ⟨oc, od, dt, osl⟩ := o
      rw [q2] at q
      cases dt with
      | func fd2 =>
        have q3 : fd2 = fd := Option.some.inj q
        subst q3
        obtain ⟨n1, n2, n3, n4, n5, n6, n7, n8, n9, n10, n11, n12, n13, n14, n15⟩ := fd2
        have e2 : (some (n1, n2, n3, n4, n5, n6, n7, n15) : He.FnW) = some (t.1, t.2.1, defArgs (inClass (top 42) t.2.2), .stmts (defBody (inClass (top 42) t.2.2)), defScope (inClass (top 42) t.2.2), mainGlobals, [], builtinsNs) := e
        simp only [Option.some.injEq, Prod.mk.injEq] at e2
        obtain ⟨a1, a2, a3, a4, a5, a6, a7, a8⟩ := e2
        subst a1 a2 a3 a4 a5 a6 a7 a8
        exact ⟨prA K t.1, gtA K t.1, _, ⟨⟨oc, od, n8, n9, n10, n11, n12, n13, n14, osl, rfl, q2, c1, He.dflB_ok c2, .inl rfl⟩, k1⟩, ⟨of_decide_eq_true h5, of_decide_eq_true h6, of_decide_eq_true h7, ⟨rest, by rw [hg]; exact hrec⟩⟩⟩
      | _ => cases q
section
variable {w : World} {h : Heap} {K : PySem.W.Frag} {mg : Str → Option Value}
theorem dg_of {x : Str} {i : Nat} (X : K.In h) (Gn : h.Ns mainGlobals mg) (c : He.SaysD faL fnL K) (j k : Nat) (e1 : fnL[j]? = some (dgD x i []) := by rfl) (e2 : faL[k]? = some (.glo x) := by rfl) : Dg K mg x (top i) := by
  obtain ⟨fd, F⟩ := c.def_ j e1
  exact ⟨_, fd, F, He.glo_ok X Gn (c.fact k e2)⟩
theorem dm_of {C m q : Str} {st : Stmt} (c : He.SaysD faL fnL K) (j k : Nat) (e1 : fnL[j]? = some (dmD C m q st []) := by rfl) (e2 : faL[k]? = some (.meth C m) := by rfl) : Dm K (He.ga K C) m q st := by
  obtain ⟨fd, F⟩ := c.def_ j e1
  exact ⟨_, fd, F, He.meth_ok (c.fact k e2)⟩
theorem dmd_of {C q : Str} {st : Stmt} (X : K.In h) (Gn : h.Ns mainGlobals mg) (c : He.SaysD faL fnL K) (j k l : Nat) (e1 : fnL[j]? = some (dmD C "__init__" q st [.str "sealed"]) := by rfl) (e2 : faL[k]? = some (.mkr C) := by rfl) (e3 : faL[l]? = some (.glo C) := by rfl) : Dmd K mg (He.ga K C) C q st [.str "sealed"] := by
  obtain ⟨fd, F⟩ := c.def_ j e1
  exact ⟨_, fd, F, He.mkr_ok (c.fact k e2), He.glo_ok X Gn (c.fact l e3)⟩
theorem dgt_of {x : Str} {i : Nat} {dfl : List He.Dv} {base : Heap} (X : K.In h) (Gn : h.Ns mainGlobals mg) (c : He.SaysD faL fnL K) (TB : ∀ p ∈ tfL.map (He.cT K), LamX.TabB base mg p.1 p.2) (hx : (x, none) ∈ tfG) (j k : Nat) (e1 : fnL[j]? = some (dgD x i dfl) := by rfl) (e2 : faL[k]? = some (.glo x) := by rfl) : Dgt K mg base (gTab K) x (top i) (dfl.map (He.Dv.v K)) := by
  obtain ⟨fd, F⟩ := c.def_ j e1
  refine ⟨_, fd, F, He.glo_ok X Gn (c.fact k e2), fun cc e => ?_⟩
  obtain ⟨oc, od, dV, kV, doc, pm, an, cdv, ct, osl, rfl, lk, _⟩ := F.ex
  have hc := He.codeOf_eq (p := (x, none)) lk e
  have t := TB (He.cT K (x, none)) (List.mem_map.mpr ⟨_, List.mem_cons_of_mem _ hx, rfl⟩)
  refine ⟨(He.cT K (x, none)).2, List.mem_map.mpr ⟨_, hx, rfl⟩, ?_⟩
  rw [← hc]
  exact ⟨t.code, t.bm, t.gP⟩
theorem dmt_of {C m q : Str} {st : Stmt} {base : Heap} (c : He.SaysD faL fnL K) (TB : ∀ p ∈ tfL.map (He.cT K), LamX.TabB base mg p.1 p.2) (hx : (C, some m) ∈ tfG) (j k : Nat) (e1 : fnL[j]? = some (dmD C m q st []) := by rfl) (e2 : faL[k]? = some (.meth C m) := by rfl) : Dmt K mg base (gTab K) (He.ga K C) m q st := by
  obtain ⟨fd, F⟩ := c.def_ j e1
  refine ⟨_, fd, F, He.meth_ok (c.fact k e2), fun cc e => ?_⟩
  obtain ⟨oc, od, dV, kV, doc, pm, an, cdv, ct, osl, rfl, lk, _⟩ := F.ex
  have hc := He.codeOf_eq (p := (C, some m)) lk e
  have t := TB (He.cT K (C, some m)) (List.mem_map.mpr ⟨_, List.mem_cons_of_mem _ hx, rfl⟩)
  refine ⟨(He.cT K (C, some m)).2, List.mem_map.mpr ⟨_, hx, rfl⟩, ?_⟩
  rw [← hc]
  exact ⟨t.code, t.bm, t.gP⟩
abbrev pg : Program := (PySem.Challenge.rw_onelife_k35_whole_benches).prog
theorem law_at {fa : Addr} (X : K.In h) (Gn : h.Ns mainGlobals mg) (cx : SaysW h K) (hfa : mg ("law" : Str) = some (.ref fa)) : LamX.LawAtS PySem.Challenge.rw_onelife_k35_whole_benches w K L2.CX0 14 63 "_law_script" mg fa h := by
  have cg := cx.gt
  have c := cx.d
  have hex := cx.more
  unfold exB at hex
  simp only [Bool.and_eq_true] at hex
  obtain ⟨⟨⟨t1, t2⟩, t3, t4⟩, ⟨t5, t6⟩, t7, t8⟩ := hex
  have E : Ev K mg := {
    len := (He.free_ok X Gn (c.fact 0 (f := .free "len") rfl))
    range := (He.free_ok X Gn (c.fact 1 (f := .free "range") rfl))
    tuple := (He.free_ok X Gn (c.fact 2 (f := .free "tuple") rfl))
    isin := (He.free_ok X Gn (c.fact 3 (f := .free "isinstance") rfl))
    int := (He.free_ok X Gn (c.fact 4 (f := .free "int") rfl))
    bool := (He.free_ok X Gn (c.fact 5 (f := .free "bool") rfl))
    str := (He.free_ok X Gn (c.fact 6 (f := .free "str") rfl))
    list := (He.free_ok X Gn (c.fact 7 (f := .free "list") rfl))
    any := (He.free_ok X Gn (c.fact 8 (f := .free "any") rfl))
    all := (He.free_ok X Gn (c.fact 9 (f := .free "all") rfl))
    min := (He.free_ok X Gn (c.fact 10 (f := .free "min") rfl))
    enum := (He.free_ok X Gn (c.fact 11 (f := .free "enumerate") rfl))
    mStates := (He.int_ok X Gn (c.fact 12 (f := .int "MOST_STATES" 40) rfl))
    mOptions := (He.int_ok X Gn (c.fact 13 (f := .int "MOST_OPTIONS" 6) rfl))
    mLetters := (He.int_ok X Gn (c.fact 14 (f := .int "MOST_LETTERS" 8) rfl))
    letters := He.str_ok X Gn (c.fact 16 (f := .str "LETTERS" "abcdefghijklmnopqrstuvwxyz") rfl)
    mMarks := (He.int_ok X Gn (c.fact 15 (f := .int "MOST_MARKS" 4) rfl))
    birth := ⟨_, He.glo_ok X Gn (c.fact 63 (f := .glo "BIRTH") rfl), fun H => .tup (He.tupB_ok t1 H) (.cons (.int 0) (.cons .non (.cons (.tup (nilT_ok t2 H) .nil) (.cons (.int 0) .nil))))⟩
    off := ⟨_, He.glo_ok X Gn (c.fact 64 (f := .glo "OFF") rfl), fun H => .tup (He.tupB_ok t3 H) (.cons (.str _) .nil)⟩
    mute := ⟨_, He.glo_ok X Gn (c.fact 65 (f := .glo "MUTE") rfl), fun H => .tup (He.tupB_ok t4 H) (.cons (.str _) .nil)⟩
    manners := ⟨_, He.glo_ok X Gn (c.fact 66 (f := .glo "MANNERS") rfl), fun H => .tup (He.tupB_ok t5 H) (.cons (.str _) (.cons (.str _) (.cons (.str _) (.cons (.str _) (.cons (.str _) .nil)))))⟩ }
  obtain ⟨ec, ek⟩ := errB_ok t7
  obtain ⟨x1, x2, x3, x4⟩ := He.exc_ok (c.fact 101 (f := .exc "BadStep") rfl)
  have gBad := He.glo_ok X Gn (c.fact 62 (f := .glo "BadStep") rfl)
  have Er : Err K mg (He.ga K "BadStep") (He.ga K "LifeError") := ⟨He.glo_ok X Gn (c.fact 61 (f := .glo "LifeError") rfl), gBad, E.isin, He.exm_ok (c.fact 102 (f := .exm "BadStep" "LifeError" true) rfl), ek, ec⟩
  have bad : Bad K mg (He.ga K "BadStep") "BadStep" := ⟨⟨_, _, _, _, PySem.F.excBase_ValueError, x1⟩, gBad, x2, x3, x4⟩
  have W : WF K (He.ga K "World") := ⟨He.cls_ok (c.fact 67 (f := .cls "World") rfl), fun f hf => by
    simp only [wN, List.mem_cons, List.not_mem_nil, or_false] at hf
    rcases hf with rfl | rfl | rfl | rfl | rfl | rfl | rfl | rfl
    · exact He.noat_ok (c.fact 71 (f := .noat "World" "machine") rfl)
    · exact He.noat_ok (c.fact 72 (f := .noat "World" "table") rfl)
    · exact He.noat_ok (c.fact 73 (f := .noat "World" "manner") rfl)
    · exact He.noat_ok (c.fact 74 (f := .noat "World" "reading") rfl)
    · exact He.noat_ok (c.fact 75 (f := .noat "World" "notes") rfl)
    · exact He.noat_ok (c.fact 76 (f := .noat "World" "standing") rfl)
    · exact He.noat_ok (c.fact 77 (f := .noat "World" "said") rfl)
    · exact He.noat_ok (c.fact 78 (f := .noat "World" "speakers") rfl)⟩
  have B : BFc K (He.ga K "Bench") := ⟨He.cls_ok (c.fact 69 (f := .cls "Bench") rfl), fun f hf => by
    simp only [bN, List.mem_cons, List.not_mem_nil, or_false] at hf
    rcases hf with rfl | rfl
    · exact He.noat_ok (c.fact 79 (f := .noat "Bench" "_world") rfl)
    · exact He.noat_ok (c.fact 80 (f := .noat "Bench" "_steps") rfl)⟩
  have hprop : ∀ t ∈ prL, Dpr K (He.ga K "Bench") t.1 t.2.1 (inClass (top 42) t.2.2) := fun t ht => by
    obtain ⟨i, hi, e⟩ := List.mem_iff_getElem.mp ht
    have e2 : (prL.map (gtSee K))[i]? = (prL.map gtVal)[i]? := by rw [cg]
    rw [List.getElem?_map, List.getElem?_map, List.getElem?_eq_getElem hi, e] at e2
    exact gt_ok (List.all_eq_true.mp t6 t ht) (Option.some.inj e2)
  have hP : ¬ gTab K (lTab K) := fun z => by
    unfold tabNe at t8
    simp only [Bool.not_eq_true', decide_eq_false_iff_not] at t8
    exact t8 z
  obtain ⟨fd, F⟩ := c.def_ 41 (d := dgD "law" 67 []) rfl
  have ef := hfa.symm.trans (He.glo_ok X Gn (c.fact 58 (f := .glo "law") rfl))
  cases ef
  refine ⟨fd, tfL.map (He.cT K), spLaw K (gTab K) (lTab K) "law.<locals>.<lambda>", fun p hp => ?_, fun p hp => ?_, fun p hp => ?_, fun s u => ?_, fun H a ns hl hb hT hS => ?_, fun base XB GB TB => ?_⟩
  · obtain ⟨t, ht, rfl⟩ := List.mem_map.mp hp
    exact cx.empty t ht
  · obtain ⟨t, ht, rfl⟩ := List.mem_map.mp hp
    exact cx.out t ht
  · obtain ⟨t, ht, rfl⟩ := List.mem_map.mp hp
    exact PySem.W.codeHd_of_K X (cx.hd t ht)
  · exact FunD.bindsA (ps := ["_law_script"]) F (fun _ _ _ _ _ _ us hl => match us, hl with | [_], _ => rfl) s [u] rfl
  · obtain ⟨b, hb⟩ := Scr.of hS
    refine ⟨(a, b), ns, rfl, hb, fun T hT' => ?_, LamX.TabS.nil (hT (He.cT K ("law", none)) (List.mem_map.mpr ⟨_, List.mem_cons_self, rfl⟩)), fun _ => rfl⟩
    obtain ⟨t, ht, rfl⟩ := List.mem_map.mp hT'
    exact ⟨#[], hT _ (List.mem_map.mpr ⟨t, List.mem_cons_of_mem _ ht, rfl⟩), trivial⟩
  · have TBl := TB (He.cT K ("law", none)) (List.mem_map.mpr ⟨_, List.mem_cons_self, rfl⟩)
    have cNumber := ok_number (P := pg) (w := w) (K := K) (mg := mg) (base := base) (G := gTab K) E (dg_of (x := "is_number") (i := 13) X Gn c 0 17)
    have cWord := ok_word (P := pg) (w := w) (K := K) (mg := mg) (base := base) (G := gTab K) E (dgt_of (x := "is_word") (i := 14) (dfl := []) X Gn c TB (by simp [tfG]) 1 18)
    have cOption := ok_option (P := pg) (w := w) (K := K) (mg := mg) (base := base) (G := gTab K) E cNumber cWord (dg_of (x := "is_option") (i := 15) X Gn c 2 19)
    have cWay := ok_way (P := pg) (w := w) (K := K) (mg := mg) (base := base) (G := gTab K) E cNumber (dg_of (x := "way_of") (i := 17) X Gn c 4 21)
    have cBehind := ok_behind (P := pg) (w := w) (K := K) (mg := mg) (base := base) (G := gTab K) cWay (dg_of (x := "state_behind") (i := 18) X Gn c 5 22)
    have cWordOf := ok_wordOf (P := pg) (w := w) (K := K) (mg := mg) (base := base) (G := gTab K) cBehind (dg_of (x := "word_of") (i := 19) X Gn c 6 23)
    have cRowOf := ok_rowOf (P := pg) (w := w) (K := K) (mg := mg) (base := base) (G := gTab K) cBehind (dg_of (x := "row_of") (i := 27) X Gn c 11 28)
    have cTold := ok_told (P := pg) (w := w) (K := K) (mg := mg) (base := base) (G := gTab K) E cRowOf cWordOf (dg_of (x := "told_by") (i := 28) X Gn c 12 29)
    have cBegins := ok_begins (P := pg) (w := w) (K := K) (mg := mg) (base := base) (G := gTab K) E (dg_of (x := "begins") (i := 29) X Gn c 13 30)
    have cAlong := ok_along (P := pg) (w := w) (K := K) (mg := mg) (base := base) (G := gTab K) cBegins (dg_of (x := "along") (i := 30) X Gn c 14 31)
    have cSame := ok_same (P := pg) (w := w) (K := K) (mg := mg) (base := base) (G := gTab K) E (dgt_of (x := "is_same_note") (i := 36) (dfl := []) X Gn c TB (by simp [tfG]) 15 32)
    have cNeedK := ok_needK (P := pg) (w := w) (K := K) (mg := mg) (base := base) (G := gTab K) E cNumber (dg_of (x := "need_marks") (i := 23) X Gn c 7 24)
    have cNeedMan := ok_needMan (P := pg) (w := w) (K := K) (mg := mg) (base := base) (G := gTab K) E (dg_of (x := "need_manner") (i := 39) X Gn c 16 33)
    have cNeedM := ok_needM (P := pg) (w := w) (K := K) (mg := mg) (base := base) (G := gTab K) E cOption (dgt_of (x := "need_machine") (i := 16) (dfl := []) X Gn c TB (by simp [tfG]) 3 20)
    have cRow := ok_row (P := pg) (w := w) (K := K) (mg := mg) (base := base) (G := gTab K) E cNumber (dgt_of (x := "is_row") (i := 24) (dfl := [.int 8]) X Gn c TB (by simp [tfG]) 8 25)
    have cNeedT := ok_needT (P := pg) (w := w) (K := K) (mg := mg) (base := base) (G := gTab K) E cRow (dgt_of (x := "need_table") (i := 25) (dfl := []) X Gn c TB (by simp [tfG]) 9 26)
    have cNeedH := ok_needH (P := pg) (w := w) (K := K) (mg := mg) (base := base) (G := gTab K) cNeedM cNeedK cNeedT (dg_of (x := "need_house") (i := 26) X Gn c 10 27)
    have mFits := ok_fits (P := pg) (w := w) (K := K) (mg := mg) (base := base) (G := gTab K) W (dm_of (C := "World") (m := "fits") (q := "World.fits") (st := inClass (top 35) 2) c 42 81)
    have mSay := ok_say (P := pg) (w := w) (K := K) (mg := mg) (base := base) (G := gTab K) W cWordOf (dm_of (C := "World") (m := "say") (q := "World.say") (st := inClass (top 35) 3) c 43 82)
    have mSeal := ok_seal (P := pg) (w := w) (K := K) (mg := mg) (base := base) (G := gTab K) W (dm_of (C := "World") (m := "seal") (q := "World.seal") (st := inClass (top 35) 4) c 44 83)
    have mCome := ok_come (P := pg) (w := w) (K := K) (mg := mg) (base := base) (G := gTab K) E W cRowOf mSay mSeal (dm_of (C := "World") (m := "come_to") (q := "World.come_to") (st := inClass (top 35) 5) c 45 84)
    have mBoot := ok_boot (P := pg) (w := w) (K := K) (mg := mg) (base := base) (G := gTab K) E W cSame mFits mCome (dmt_of (C := "World") (m := "boot") (q := "World.boot") (st := inClass (top 35) 6) c TB (by simp [tfG]) 46 85)
    have mAsk := ok_ask (P := pg) (w := w) (K := K) (mg := mg) (base := base) (G := gTab K) E W cNumber cBehind mCome (dm_of (C := "World") (m := "ask") (q := "World.ask") (st := inClass (top 35) 7) c 47 86)
    have mTurn := ok_turn (P := pg) (w := w) (K := K) (mg := mg) (base := base) (G := gTab K) W cRowOf mCome (dm_of (C := "World") (m := "turn") (q := "World.turn") (st := inClass (top 35) 8) c 48 87)
    have mLate := ok_late (P := pg) (w := w) (K := K) (mg := mg) (base := base) (G := gTab K) W mSeal mCome (dm_of (C := "World") (m := "seal_late") (q := "World.seal_late") (st := inClass (top 35) 9) c 49 88)
    have mCut := ok_cut (P := pg) (w := w) (K := K) (mg := mg) (base := base) (G := gTab K) E W (dm_of (C := "World") (m := "cut") (q := "World.cut") (st := inClass (top 35) 10) c 50 89)
    have mDo := ok_do (P := pg) (w := w) (K := K) (mg := mg) (base := base) (G := gTab K) E W mBoot mAsk mTurn mCut mLate (dm_of (C := "World") (m := "do") (q := "World.do") (st := inClass (top 35) 11) c 51 90)
    have mDead := ok_dead (P := pg) (w := w) (K := K) (mg := mg) (base := base) (G := gTab K) E W mFits (dmt_of (C := "World") (m := "is_dead") (q := "World.is_dead") (st := inClass (top 35) 12) c TB (by simp [tfG]) 52 91)
    have mPair := ok_pair (P := pg) (w := w) (K := K) (mg := mg) (base := base) (G := gTab K) E W cTold cAlong (dm_of (C := "World") (m := "pair") (q := "World.pair") (st := inClass (top 35) 13) c 53 92)
    have cHarm := ok_harm (P := pg) (w := w) (K := K) (mg := mg) (base := base) (G := gTab K) mPair mDead (dg_of (x := "harm_in") (i := 40) X Gn c 17 34)
    have mkW := ok_winit (P := pg) (w := w) (K := K) (mg := mg) (base := base) (G := gTab K) E W (by rfl) (dmd_of (C := "World") (q := "World.__init__") (st := inClass (top 35) 0) X Gn c 54 68 59)
    have mFitting := ok_fitting (P := pg) (w := w) (K := K) (mg := mg) (base := base) (G := gTab K) E B W mFits (dm_of (C := "Bench") (m := "fitting") (q := "Bench.fitting") (st := inClass (top 42) 7) c 61 99)
    have mHarm := ok_bharm (P := pg) (w := w) (K := K) (mg := mg) (base := base) (G := gTab K) B W cHarm (dm_of (C := "Bench") (m := "harm") (q := "Bench.harm") (st := inClass (top 42) 13) c 62 100)
    have pWheel := ok_wheel (P := pg) (w := w) (K := K) (mg := mg) (base := base) (G := gTab K) B W (hprop ("wheel", "Bench.wheel", 8) (by simp [prL]))
    have pShelf := ok_shelf (P := pg) (w := w) (K := K) (mg := mg) (base := base) (G := gTab K) E B W (hprop ("shelf", "Bench.shelf", 9) (by simp [prL]))
    have pStand := ok_stand (P := pg) (w := w) (K := K) (mg := mg) (base := base) (G := gTab K) B W (hprop ("stand", "Bench.stand", 10) (by simp [prL]))
    have pTold := ok_tell (P := pg) (w := w) (K := K) (mg := mg) (base := base) (G := gTab K) E B W (hprop ("told", "Bench.told", 11) (by simp [prL]))
    have pStory := ok_story (P := pg) (w := w) (K := K) (mg := mg) (base := base) (G := gTab K) E B W (hprop ("story", "Bench.story", 12) (by simp [prL]))
    have zDo := ok_bdo (P := pg) (w := w) (K := K) (mg := mg) (base := base) (G := gTab K) E B W bad mDo (dm_of (C := "Bench") (m := "_do") (q := "Bench._do") (st := inClass (top 42) 1) c 55 93)
    have zBoot := ok_bboot (P := pg) (w := w) (K := K) (mg := mg) (base := base) (G := gTab K) B zDo (dm_of (C := "Bench") (m := "boot") (q := "Bench.boot") (st := inClass (top 42) 2) c 56 94)
    have zAsk := ok_bask (P := pg) (w := w) (K := K) (mg := mg) (base := base) (G := gTab K) B zDo (dm_of (C := "Bench") (m := "ask") (q := "Bench.ask") (st := inClass (top 42) 3) c 57 95)
    have zTurn := ok_bturn (P := pg) (w := w) (K := K) (mg := mg) (base := base) (G := gTab K) B zDo (dm_of (C := "Bench") (m := "turn") (q := "Bench.turn") (st := inClass (top 42) 4) c 58 96)
    have zCut := ok_bcut (P := pg) (w := w) (K := K) (mg := mg) (base := base) (G := gTab K) B zDo (dm_of (C := "Bench") (m := "cut") (q := "Bench.cut") (st := inClass (top 42) 5) c 59 97)
    have zSeal := ok_bseal (P := pg) (w := w) (K := K) (mg := mg) (base := base) (G := gTab K) B zDo (dm_of (C := "Bench") (m := "seal") (q := "Bench.seal") (st := inClass (top 42) 6) c 60 98)
    have zDone := ok_done (P := pg) (w := w) (K := K) (mg := mg) (base := base) (G := gTab K) zBoot zAsk zTurn zCut zSeal (dg_of (x := "_law_done") (i := 63) X Gn c 37 54)
    have mkB := ok_binit (P := pg) (w := w) (K := K) (mg := mg) (base := base) (G := gTab K) B cNeedH cNeedMan mkW (dmd_of (C := "Bench") (q := "Bench.__init__") (st := inClass (top 42) 0) X Gn c 63 70 60)
    have lTaken := ok_taken (P := pg) (w := w) (K := K) (mg := mg) (base := base) (G := gTab K) E (dg_of (x := "_law_taken") (i := 44) X Gn c 18 35)
    have lPick := ok_pick (P := pg) (w := w) (K := K) (mg := mg) (base := base) (G := gTab K) E lTaken (dg_of (x := "_law_pick") (i := 45) X Gn c 19 36)
    have lMach := ok_machine (P := pg) (w := w) (K := K) (mg := mg) (base := base) (G := gTab K) E lTaken lPick (dg_of (x := "_law_machine") (i := 46) X Gn c 20 37)
    have lRow := ok_lrow (P := pg) (w := w) (K := K) (mg := mg) (base := base) (G := gTab K) E lTaken (dg_of (x := "_law_row") (i := 47) X Gn c 21 38)
    have lEvery := ok_every (P := pg) (w := w) (K := K) (mg := mg) (base := base) (G := gTab K) E (dg_of (x := "_law_every") (i := 48) X Gn c 22 39)
    have lTable := ok_table (P := pg) (w := w) (K := K) (mg := mg) (base := base) (G := gTab K) E lTaken lRow lEvery (dg_of (x := "_law_table") (i := 49) X Gn c 23 40)
    have lWorld := ok_lw (P := pg) (w := w) (K := K) (mg := mg) (base := base) (G := gTab K) (dg_of (x := "_law_world") (i := 51) X Gn c 25 42)
    have lBW := ok_bw (P := pg) (w := w) (K := K) (mg := mg) (base := base) (G := gTab K) lWorld (dg_of (x := "_law_bad_world") (i := 52) X Gn c 26 43)
    have lSmall := ok_small (P := pg) (w := w) (K := K) (mg := mg) (base := base) (G := gTab K) E lTaken lMach lTable (dg_of (x := "_law_small") (i := 50) X Gn c 24 41)
    have lBehind := ok_lbehind (P := pg) (w := w) (K := K) (mg := mg) (base := base) (G := gTab K) (dg_of (x := "_law_state_behind") (i := 60) X Gn c 34 51)
    have lFits := ok_bf (P := pg) (w := w) (K := K) (mg := mg) (base := base) (G := gTab K) (dg_of (x := "_law_bad_fits") (i := 56) X Gn c 30 47)
    have lSpell := ok_spell (P := pg) (w := w) (K := K) (mg := mg) (base := base) (G := gTab K) E (dg_of (x := "_law_spell") (i := 53) X Gn c 27 44)
    have lAlong := ok_lalong (P := pg) (w := w) (K := K) (mg := mg) (base := base) (G := gTab K) E (dg_of (x := "_law_along") (i := 54) X Gn c 28 45)
    have lTwo := ok_two (P := pg) (w := w) (K := K) (mg := mg) (base := base) (G := gTab K) E lSpell lAlong (dg_of (x := "_law_two") (i := 55) X Gn c 29 46)
    have lHarm := ok_bh (P := pg) (w := w) (K := K) (mg := mg) (base := base) (G := gTab K) lTwo lFits (dg_of (x := "_law_bad_harm") (i := 57) X Gn c 31 48)
    have lCan := ok_can (P := pg) (w := w) (K := K) (mg := mg) (base := base) (G := gTab K) E lBehind (dg_of (x := "_law_bad_can") (i := 61) X Gn c 35 52)
    have lSay := ok_dsay (P := pg) (w := w) (K := K) (mg := mg) (base := base) (G := gTab K) lBehind (dg_of (x := "_law_bad_say") (i := 64) X Gn c 38 55)
    have lCome := ok_dcome (P := pg) (w := w) (K := K) (mg := mg) (base := base) (G := gTab K) E lBehind lSay (dg_of (x := "_law_bad_come") (i := 65) X Gn c 39 56)
    have lStep := ok_dstep (P := pg) (w := w) (K := K) (mg := mg) (base := base) (G := gTab K) E lBehind lFits lCome (dg_of (x := "_law_bad_step") (i := 66) X Gn c 40 57)
    have lAlike := ok_alike (P := pg) (w := w) (K := K) (mg := mg) (base := base) (G := gTab K) E (dg_of (x := "_law_alike") (i := 58) X Gn c 32 49) 5
    have lStands := ok_stands (P := pg) (w := w) (K := K) (mg := mg) (base := base) (G := gTab K) E B W pWheel pShelf pStand pTold pStory mHarm mFitting lHarm lFits lAlike (dg_of (x := "_law_stands") (i := 59) X Gn c 33 50)
    exact fn_law (P := pg) E Er lTaken lPick lSmall mkB.1 mkB.2 lBW lStands lCan lFits lStep lAlike zDone (dg_of (x := "_law_told") (i := 62) X Gn c 36 53) F hP fun cc e => by
      obtain ⟨oc, od, dV, kV, doc, pm, an, cdv, ct, osl, rfl, lk, _⟩ := F.ex
      have hc := He.codeOf_eq (p := ("law", none)) lk e
      rw [← hc]
      exact TBl
end
end Wb

open PySem PySem.W PySem.Calls PyProof.Rows
theorem PySem.Challenge.cw_onelife_k35_whole_benches_holds : PySem.Challenge.rw_onelife_k35_whole_benches.Holds := by
  w_on; o_law
  refine HandSHeadRun.head_any (r := OpenLaw.row PySem.Challenge.rw_onelife_k35_whole_benches) (q := view (OpenLaw.row PySem.Challenge.rw_onelife_k35_whole_benches).prog [67]) (H := Wb.hkW) (ob := Wb.obL) (M := 6000) (loose := Wb.names) (d := HandSHeadRun.topDef (OpenLaw.row PySem.Challenge.rw_onelife_k35_whole_benches).prog 67) (kwd := []) Wb.obL_eq
    (by kernel_rfl) (fun s => by kernel_rfl) Wb.runL (by kernel_rfl) (by kernel_rfl) (by kernel_rfl) (by rfl) (by first | assumption | decide +kernel) (by decide +kernel) ⟨rfl, rfl, rfl, rfl, rfl, by decide +kernel⟩ ?hw ?hc
  case hw => w_witness2
  case hc =>
    refine LamX.walk_ofTsE (l := PySem.Challenge.rw_onelife_k35_whole_benches) (n := 63) (k := 14) (x := "_law_script") (CX := fun _ => L2.CX0) rfl (by decide) (by kernel_rfl) ⟨rfl, by decide, by decide⟩ ?F (fun _ _ _ _ _ z => z)
    intro w mg fa h Y G hmg0
    obtain ⟨K, KX, c⟩ := Y
    have hmg : mg ("law" : PySem.Str) = some (.ref fa) := by
      have e : (HandSHeadRun.topDef (OpenLaw.row PySem.Challenge.rw_onelife_k35_whole_benches).prog 67).name = ("law" : PySem.Str) := by kernel_rfl
      rw [← e]
      exact hmg0
    exact ⟨K, KX, Wb.law_at KX G c hmg⟩
