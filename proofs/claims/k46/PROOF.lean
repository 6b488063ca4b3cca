import PyProof.Rows.All
import Wide.All
import OpenK.AllK
import Wide.FinOn
import HandS.ForMost
import HandS.Walk
import HandS.Evl
import HandS.More
import HandS.Defaults
import HandS.Star
import HandS.MethStar
import HandS.ClsMeth
import HandS.Property
import HandS.MakeKwOnly
import HandS.Strs
import HandS.FStr
import HandS.TupAny
import HandS.NoneIn
import HandS.IsInst
import HandS.Conv
import HandS.Deep
import HandS.TupSets
import HandS.Flow
import HandS.SortInts
import HandS.HeadHook1
import HandS.HeadHook2
import KE.KStateDown
import HandS.Head0
import HandS.Head1
import HandS.Head2
import KE.KOpsOwn
import KE.KCallOwn
import HandS.SlotsOwn
import KE.KSuper
import KE.KDictCopyH
import KE.GoesComp
import KE.GoesMore
import HandS.GenYield
import HandS.GenCall
import HandS.GenList
import KE.SortData
import HandS.SetFor
import HandS.HeadEnd
import PySem.Challenge.RW_forkbeats_k46_whole_fork_added
set_option Elab.async false
set_option linter.all false
set_option maxRecDepth 100000
set_option maxHeartbeats 4000000
/-! Forkbeats: the text by places, a def's promise by position, heaps. -/
namespace Fb
open PySem PySem.Spec PyProof.Rows L2
/-- the i-th statement of the text -/
def top (i : Nat) : Stmt := PySem.Challenge.pw_forkbeats_k46_whole_fork_added.main.body.getD i (.Pass ⟨0, 0, 0, 0⟩)
/-- the j-th statement of the i-th, a class -/
abbrev inC (i j : Nat) : Stmt := inClass (top i) j
/-- a promise of a def that lets no exception out -/
abbrev SpN := List V → Hp → VK → Prop
abbrev spE (sp : SpN) : Sp := fun vs H Q _ => sp vs H Q
abbrev FnN (P : Program) (w : World) (K : PySem.W.Frag) (mg : Str → Option Value) (base : Heap) (k : Nat) (f : Addr) (sp : SpN) : Prop := FnR P w K mg base CX0 k f (spE sp)
/-- a def of the text, no defaults, no closure -/
abbrev FunP (K : PySem.W.Frag) (x qual : Str) (st : Stmt) (f : Addr) : Prop := ∃ fd, FunD K x qual (defArgs st) (defBody st) (defScope st) [] [] f fd
section
variable {P : Program} {w : World} {K : PySem.W.Frag} {mg : Str → Option Value} {base : Heap}
theorem FunP.kp {x qual : Str} {st : Stmt} {f : Addr} (F : FunP K x qual st f) : PySem.W.keepIn K (.ref f) = true := let ⟨_, h⟩ := F; h.kp
/-- the rule of a def: no exception leaves it -/
theorem fn_mk {x qual : Str} {st : Stmt} {f : Addr} {N ps : List Str} {k : Nat} {sp : SpN} (F : FunP K x qual st f) (S : FnScope N ps (defScope st))
    (hb : ∀ (kV doc pm : Value) (an : Option Addr) (cdv ct : Value) (us : List Value), us.length = ps.length → bindArgs (PySem.W.fnOf x qual (defArgs st) (defBody st) (defScope st) .none kV doc pm an cdv ct) ⟨us, []⟩ = pure (ps.zip us))
    (len : ∀ vs H Q, sp vs H Q → vs.length = ps.length)
    (hbody : ∀ (cdv : Value) (A : Around) (outer : List Env) (s : Shared) (H : Hp) (vs : List V) (Q : VK), Room k (A.deeper (envOfC qual (defScope st) s.heap.objs.size f cdv)) → sp vs H Q →
      ∃ t, PSs (cxOf CX0 P w K mg base N qual (defScope st) f cdv A outer s H E0).nox (defBody st) t ∧ t { nx := fun _ H' => Q .non H', rt := Q } (start N vs) H) : FnN P w K mg base (k + 1) f sp := by
  obtain ⟨fd, F⟩ := F
  intro A outer s H us vs Q E hr e0 r hs
  have hl : us.length = ps.length := by rw [← r.length]; exact len _ _ _ hs
  have G : FnOk P w K mg base CX0 (k + 1) f fd ps (fun vs H Q E => sp vs H Q ∧ E = E0) :=
    F.ok S (fun vs H Q E h => len vs H Q h.1) fun cdv A outer s H vs Q E hr h => by
      obtain ⟨h, rfl⟩ := h
      obtain ⟨t, ht, hq⟩ := hbody cdv A outer s H vs Q hr h
      exact ⟨t, ht.nox, hq⟩
  refine codeAny_mono (G.run A outer s H ⟨us, []⟩ us vs Q E0 hr e0 (FunD.bindsA F hb s us hl) r ⟨hs, rfl⟩) fun r s' hq => ?_
  cases r with
  | error e => exact hq.elim
  | ok fl => exact hq
end
/-! ### heaps -/
theorem same_new {H : Hp} {p : Addr} {o : HO} (h : H p = none) : Same H (upd H p o) := fun a u e => by
  rw [upd_ne (ne_of_none e h)]
  exact e
theorem same_mut {H H' : Hp} {p : Addr} {o : HO} (e : Same H H') (h : H p = none) : Same H (upd H' p o) := fun a u ha => by
  rw [upd_ne (ne_of_none ha h)]
  exact e a u ha
theorem same_rd {H H' : Hp} {a : Addr} {u : HO} (e : Same H H') (h : Rd H a u) : Rd H' a u := by
  rcases h with h | ⟨o, h⟩
  · exact Or.inl (e a _ h)
  · exact Or.inr ⟨o, e a _ h⟩
theorem same_tup {K : PySem.W.Frag} {H H' : Hp} {a : Addr} {xs : List V} (e : Same H H') (h : SqT K H a xs) : SqT K H' a xs := by
  rcases h with h | h
  · exact Or.inl (same_rd e h)
  · exact Or.inr h
/-- a new object laid: forget how the heap was made -/
theorem laid {H : Hp} {p : Addr} {o : HO} {G : Hp → Prop} (hp : H p = none) (h : ∀ H1, Same H H1 → H1 p = some o → G H1) : G (upd H p o) := h _ (same_new hp) upd_same
theorem sz {n : Nat} (h : n ≤ 100000) : n ≤ sizeLine := Nat.le_trans h (by decide)
theorem szl {n : Nat} (h : n < 100000) : n < sizeLine := Nat.lt_of_lt_of_le h (by decide)
/-! ### names -/
/-- a valid name -/
structure NameOk (z : Str) : Prop where
  lo : 1 ≤ z.length
  hi : z.length ≤ 12
  az : ∀ c ∈ z.cps.toList, 97 ≤ c ∧ c ≤ 122
def letters : Str := "abcdefghijklmnopqrstuvwxyz"
theorem mem_letters {c : Nat} (h : 97 ≤ c ∧ c ≤ 122) : c ∈ letters.cps.toList := by
  have e : letters.cps.toList = [97, 98, 99, 100, 101, 102, 103, 104, 105, 106, 107, 108, 109, 110, 111, 112, 113, 114, 115, 116, 117, 118, 119, 120, 121, 122] := by decide +kernel
  rw [e]
  simp only [List.mem_cons, List.not_mem_nil, or_false]
  omega
end Fb
set_option maxHeartbeats 0
/-! Forkbeats: the head, one run, what it leaves. Printed by genhead.py. -/
namespace Fb
open PySem PySem.Spec PyProof.Rows L2
/-! ### where the facts lie -/
def pick (g : Addr → Option Obj) (f : Obj → List Addr) : List Addr → List Addr
  | [] => []
  | a :: r => (match g a with
    | some o => f o
    | none => []) ++ pick g f r
def oVals (o : Obj) : List Addr := match o.data with
  | .dict es _ => es.toList.flatMap fun e => He.refV e.val
  | _ => []
def oCls (o : Obj) : List Addr := match o.data with
  | .cls cd => [cd.ns]
  | _ => []
def oProp (o : Obj) : List Addr := match o.cls, o.data with
  | .type n, .fields vs => if n == "property" then vs.toList.flatMap He.refV else []
  | _, _ => []
def oFar (o : Obj) : List Addr := match o.data with
  | .func fd => He.refV fd.code ++ (He.refV fd.defaults ++ fd.closure.map fun q => q.2)
  | _ => []
/-- a list of addresses, reckoned out -/
def forceL {α : Type} : List Addr → (List Addr → α) → α
  | [], k => k []
  | a :: r, k => HandSHeadRun.frNat a fun a => forceL r fun r => k (a :: r)
theorem forceL_eq {α : Type} : ∀ (l : List Addr) (k : List Addr → α), forceL l k = k l
  | [], _ => rfl
  | a :: r, k => by
    rw [forceL, HandSHeadRun.frNat_eq, forceL_eq r]
def adsK {α : Type} (g : Addr → Option Obj) (k : List Addr → α) : α :=
  forceL (pick g oVals [mainGlobals]) fun l1 => forceL (pick g oCls l1) fun l2 => forceL (pick g oVals l2) fun l3 => forceL (pick g oProp l3) fun l4 =>
    forceL (pick g oFar (l1 ++ (l3 ++ l4))) fun l5 => k (mainGlobals :: cStatics :: (l1 ++ (l2 ++ (l3 ++ (l4 ++ l5)))))
def adsG (g : Addr → Option Obj) : List Addr := adsK g id
theorem adsK_eq {α : Type} (g : Addr → Option Obj) (k : List Addr → α) : adsK g k = k (adsG g) := by
  simp only [adsG, adsK, forceL_eq, id]
/-! ### facts by Bool -/
def freeB (K : PySem.W.Frag) (x : Str) : Bool := (He.Fa.free x).ok K
def gloB (K : PySem.W.Frag) (x : Str) : Bool := (He.Fa.glo x).ok K
def intB (K : PySem.W.Frag) (x : Str) (i : Int) : Bool := (He.Fa.int x i).ok K
def strB (K : PySem.W.Frag) (x z : Str) : Bool := (He.Fa.str x z).ok K
def isAt (K : PySem.W.Frag) (C : Addr) (m : Str) (g : Addr) : Bool := decide (PySem.W.findIn K (.ref C) m = some (some (.ref g)))
def noatB (K : PySem.W.Frag) (C : Addr) (f : Str) : Bool := decide (PySem.W.findIn K (.ref C) f = some none)
def clsB (K : PySem.W.Frag) (C : Addr) : Bool := (PySem.W.hasDictIn K C && PySem.W.plainOver K C) && (PySem.W.plainGet K C Str.empty && decide (PySem.W.findIn K (.ref C) "__setattr__" = some (some (.builtin "object.__setattr__"))))
def spdB (K : PySem.W.Frag) (C : Addr) (m : Str) (g : Addr) : Bool := isAt K C m g && PySem.W.isFn K (.ref g)
def methB (K : PySem.W.Frag) (C : Addr) (m : Str) (g : Addr) : Bool := spdB K C m g && PySem.W.keepIn K (.ref g)
def mkB (K : PySem.W.Frag) (C g : Addr) : Bool := (PySem.W.makesIn K C && PySem.W.keepIn K (.ref C)) && spdB K C "__init__" g
def callB (K : PySem.W.Frag) (C g : Addr) : Bool := spdB K C "__call__" g && PySem.W.fnIn K g
def nbrB (K : PySem.W.Frag) (op : Operator) (C g : Addr) : Bool := (PySem.W.selfFirst K C && spdB K C (PySem.dunder op.info.2) g) && decide (PySem.W.findIn K (.ref C) (dunderR op.info.2) = some none)
def pAd (K : PySem.W.Frag) : Addr := He.ma K (He.ga K "Bench") "limit"
def lAd (K : PySem.W.Frag) : Addr := match PySem.W.recIn K (pAd K) "property" with
  | some (.ref g :: _) => g
  | _ => 0
def propB (K : PySem.W.Frag) (C : Addr) (f : Str) (p g : Addr) : Bool := (isAt K C f p && decide (PySem.W.specialIn K (.ref p) "__get__" = some (some (.builtin "property.__get__")))) && (decide (PySem.W.takesIn K (.ref p) = some true) && match PySem.W.recIn K p "property" with
  | some (.ref a :: _) => decide (a = g)
  | _ => false)
def readB (K : PySem.W.Frag) (C : Addr) : Bool := PySem.W.readsIn K C (.type "type") && decide (PySem.W.specialIn K (.ref C) "__getattribute__" = some (some (.builtin "type.__getattribute__")))
def conB (K : PySem.W.Frag) (C : Addr) (f : Str) (v : Int) : Bool := match PySem.W.findCls K (.ref C) (.type "type") f with
  | some (.val (.int i _)) => decide (i = v)
  | _ => false
def factB (K : PySem.W.Frag) (aForks aCall aInv aAnd aOr aStr C aKept : Addr) : Bool :=
  (clsB K C && (methB K C "forks" aForks && methB K C "kept" aKept)) && ((callB K C aCall && spdB K C "__invert__" aInv) && ((nbrB K .BitAnd C aAnd && nbrB K .BitOr C aOr) && (spdB K C "__str__" aStr &&
    ((noatB K C "word_text" && (noatB K C "named" && noatB K C "depth")) && (noatB K C "left" && (noatB K C "right" && noatB K C "ranked"))))))
def supB (K : PySem.W.Frag) (C f : Addr) : Bool := (match K.lookup f with
  | some ⟨_, _, .func fd, _⟩ => (match fd.code with
    | .ref c => (match K.lookup c with
      | some ⟨_, _, .fields vs, _⟩ => (match vs.toList with
        | _ :: _ :: .str file _ :: _ => (PySem.Challenge.pw_forkbeats_k46_whole_fork_added.main.file : Str) == file
        | _ => false)
      | _ => false)
    | _ => false) && (match fd.closure with
    | [(_, cc)] => (match K.lookup cc with
      | some ⟨_, _, .cell (some (.ref D)), _⟩ => decide (D = C)
      | _ => false)
    | _ => false)
  | _ => false) && ((PySem.W.clsIn K C).isSome && decide (PySem.W.nsIn K cStatics "thirdparty.any" = some none))
def smB (K : PySem.W.Frag) (C g : Addr) : Bool := (decide (PySem.W.mroIn K C (.ref C) = some true) && decide (PySem.W.ks_superIn K C C "__init__" = some (some (.ref g)))) && (PySem.W.isFn K (.ref g) && PySem.W.fnIn K g)
def factNames : List Str := ["Above", "InTune", "Between", "Highest", "AsOften", "MoreOften", "Trio", "Not", "Both", "Either"]
def apartB (K : PySem.W.Frag) : Bool := factNames.all fun x => factNames.all fun y => decide (He.ga K x = He.ga K y) || decide (PySem.W.mroIn K (He.ga K y) (.ref (He.ga K x)) = some false)
/-! ### defs -/
structure Df where
  ad : PySem.W.Frag → Addr
  name : Str
  qual : Str
  st : Stmt
  dvs : List V
  clo : Bool
abbrev Fv : Type := Option (Str × Str × Arguments × FuncBody × Scope × Addr × List Str × Addr)
def Df.obs (K : PySem.W.Frag) (d : Df) : Fv := match K.lookup (d.ad K) with
  | some ⟨_, _, .func fd, _⟩ => some (fd.name, fd.qualname, fd.params, fd.body, fd.scope, fd.globals, fd.closure.map (fun q => q.1), fd.builtins)
  | _ => none
def Df.val (d : Df) : Fv := some (d.name, d.qual, defArgs d.st, .stmts (defBody d.st), defScope d.st, mainGlobals, if d.clo = true then ["__class__"] else [], builtinsNs)
def Df.ok (K : PySem.W.Frag) (d : Df) : Bool := PySem.W.keepIn K (.ref (d.ad K)) && match K.lookup (d.ad K) with
  | some ⟨_, _, .func fd, _⟩ => PySem.W.codeIn K fd.code d.qual && He.dflB K fd.defaults d.dvs
  | _ => false
abbrev Rr : PySem.W.OpenRow := PySem.W.OpenLaw.row PySem.Challenge.rw_forkbeats_k46_whole_fork_added
abbrev qv : Program := PySem.W.view Rr.prog [77]
def loose0 : List PySem.Str := ["_wall", "ForkError", "BadName", "UnknownFork", "RepeatedFork", "BadCount", "BadLimit", "BadWord", "BadText", "TooDeep", "TooMany", "Apart", "Clash", "NothingToUndo", "LETTERS"]
def loose1 : List PySem.Str := ["DIGITS", "MOST_LETTERS", "MOST_FIGURES", "is_name", "is_number", "read_pitch", "Tuning", "checked_names", "check_distinct", "without_duplicates", "Fact", "Above", "InTune", "Between", "Highest"]
def loose2 : List PySem.Str := ["AsOften", "MoreOften", "Trio", "deeper", "Not", "Both", "Either", "reached_from", "Bench", "Blocks", "blocks", "order_of_walking", "ties", "choices", "levels"]
def loose3 : List PySem.Str := ["found_fittings", "fittings", "count_fittings", "_law_bag", "_law_mixed", "_law_take", "_law_name", "_law_names", "_law_is_int", "_law_row", "_law_rows", "_law_some", "_law_pairs", "_law_level", "_law_struck"]
def loose4 : List PySem.Str := ["_law_many", "_law_bench", "_law_rises", "_law_pieces", "_law_draw_plain", "_law_draw_fact", "_law_make", "_law_make_highest", "_law_draw_plans", "_law_pitches"]
abbrev loose : List PySem.Str := loose0 ++ loose1 ++ loose2 ++ loose3 ++ loose4
def facts0 : List (PySem.W.Frag → Bool) := [
  fun K => freeB K "len",
  fun K => freeB K "enumerate",
  fun K => freeB K "range",
  fun K => freeB K "sorted",
  fun K => freeB K "set",
  fun K => freeB K "max",
  fun K => freeB K "min",
  fun K => freeB K "abs",
  fun K => freeB K "int",
  fun K => freeB K "str",
  fun K => freeB K "list",
  fun K => freeB K "tuple",
  fun K => freeB K "isinstance",
  fun K => freeB K "all",
  fun K => freeB K "bool",
  fun K => freeB K "super",
  fun K => intB K "MOST_LETTERS" 12,
  fun K => strB K "LETTERS" letters,
  fun K => gloB K "is_name",
  fun K => gloB K "checked_names"]
def facts1 : List (PySem.W.Frag → Bool) := [
  fun K => gloB K "check_distinct",
  fun K => gloB K "without_duplicates",
  fun K => gloB K "deeper",
  fun K => gloB K "reached_from",
  fun K => gloB K "blocks",
  fun K => gloB K "order_of_walking",
  fun K => gloB K "ties",
  fun K => gloB K "choices",
  fun K => gloB K "levels",
  fun K => gloB K "found_fittings",
  fun K => gloB K "fittings",
  fun K => gloB K "count_fittings",
  fun K => gloB K "_law_bag",
  fun K => gloB K "_law_mixed",
  fun K => gloB K "_law_take",
  fun K => gloB K "_law_name",
  fun K => gloB K "_law_names",
  fun K => gloB K "_law_is_int",
  fun K => gloB K "_law_row",
  fun K => gloB K "_law_rows"]
def facts2 : List (PySem.W.Frag → Bool) := [
  fun K => gloB K "_law_some",
  fun K => gloB K "_law_pairs",
  fun K => gloB K "_law_level",
  fun K => gloB K "_law_struck",
  fun K => gloB K "_law_many",
  fun K => gloB K "_law_bench",
  fun K => gloB K "_law_rises",
  fun K => gloB K "_law_pieces",
  fun K => gloB K "_law_draw_plain",
  fun K => gloB K "_law_draw_fact",
  fun K => gloB K "_law_make",
  fun K => gloB K "_law_make_highest",
  fun K => gloB K "_law_draw_plans",
  fun K => gloB K "_law_pitches",
  fun K => gloB K "law",
  fun K => gloB K "Tuning",
  fun K => gloB K "Fact",
  fun K => gloB K "Above",
  fun K => gloB K "InTune",
  fun K => gloB K "Between"]
def facts3 : List (PySem.W.Frag → Bool) := [
  fun K => gloB K "Highest",
  fun K => gloB K "AsOften",
  fun K => gloB K "MoreOften",
  fun K => gloB K "Trio",
  fun K => gloB K "Not",
  fun K => gloB K "Both",
  fun K => gloB K "Either",
  fun K => gloB K "Bench",
  fun K => gloB K "Blocks",
  fun K => clsB K (He.ga K "Tuning"),
  fun K => mkB K (He.ga K "Tuning") (He.ma K (He.ga K "Tuning") "__init__"),
  fun K => noatB K (He.ga K "Tuning") "level",
  fun K => noatB K (He.ga K "Tuning") "name_row",
  fun K => methB K (He.ga K "Tuning") "pitches" (He.ma K (He.ga K "Tuning") "pitches"),
  fun K => methB K (He.ga K "Tuning") "beats" (He.ma K (He.ga K "Tuning") "beats"),
  fun K => clsB K (He.ga K "Bench"),
  fun K => mkB K (He.ga K "Bench") (He.ma K (He.ga K "Bench") "__init__"),
  fun K => noatB K (He.ga K "Bench") "state",
  fun K => noatB K (He.ga K "Bench") "past",
  fun K => noatB K (He.ga K "Bench") "future"]
def facts4 : List (PySem.W.Frag → Bool) := [
  fun K => methB K (He.ga K "Bench") "enter" (He.ma K (He.ga K "Bench") "enter"),
  fun K => methB K (He.ga K "Bench") "add" (He.ma K (He.ga K "Bench") "add"),
  fun K => methB K (He.ga K "Bench") "add_all" (He.ma K (He.ga K "Bench") "add_all"),
  fun K => methB K (He.ga K "Bench") "strike" (He.ma K (He.ga K "Bench") "strike"),
  fun K => methB K (He.ga K "Bench") "check_pair" (He.ma K (He.ga K "Bench") "check_pair"),
  fun K => methB K (He.ga K "Bench") "check_fork" (He.ma K (He.ga K "Bench") "check_fork"),
  fun K => methB K (He.ga K "Bench") "check_fact" (He.ma K (He.ga K "Bench") "check_fact"),
  fun K => methB K (He.ga K "Bench") "tell" (He.ma K (He.ga K "Bench") "tell"),
  fun K => methB K (He.ga K "Bench") "undo" (He.ma K (He.ga K "Bench") "undo"),
  fun K => methB K (He.ga K "Bench") "forks" (He.ma K (He.ga K "Bench") "forks"),
  fun K => methB K (He.ga K "Bench") "strikes" (He.ma K (He.ga K "Bench") "strikes"),
  fun K => methB K (He.ga K "Bench") "told" (He.ma K (He.ga K "Bench") "told"),
  fun K => clsB K (He.ga K "Blocks"),
  fun K => mkB K (He.ga K "Blocks") (He.ma K (He.ga K "Blocks") "__init__"),
  fun K => noatB K (He.ga K "Blocks") "struck",
  fun K => noatB K (He.ga K "Blocks") "order",
  fun K => noatB K (He.ga K "Blocks") "low",
  fun K => noatB K (He.ga K "Blocks") "stack",
  fun K => noatB K (He.ga K "Blocks") "found",
  fun K => methB K (He.ga K "Blocks") "visit" (He.ma K (He.ga K "Blocks") "visit")]
def facts5 : List (PySem.W.Frag → Bool) := [
  fun K => methB K (He.ga K "Blocks") "close" (He.ma K (He.ga K "Blocks") "close"),
  fun K => spdB K (He.ga K "Tuning") "__getitem__" (He.ma K (He.ga K "Tuning") "__getitem__"),
  fun K => spdB K (He.ga K "Tuning") "__contains__" (He.ma K (He.ga K "Tuning") "__contains__"),
  fun K => PySem.W.fnIn K (He.ma K (He.ga K "Tuning") "__getitem__"),
  fun K => propB K (He.ga K "Bench") "limit" (pAd K) (lAd K),
  fun K => readB K (He.ga K "Fact"),
  fun K => readB K (He.ga K "Bench"),
  fun K => conB K (He.ga K "Fact") "MOST_COUNT" 1000000000,
  fun K => conB K (He.ga K "Fact") "MOST_DEPTH" 6,
  fun K => conB K (He.ga K "Bench") "MOST_FORKS" 10,
  fun K => conB K (He.ga K "Bench") "MOST_STRIKES" 20,
  fun K => conB K (He.ga K "Bench") "MOST_FACTS" 12,
  fun K => conB K (He.ga K "Bench") "MOST_LIMIT" 3,
  fun K => factB K (He.ma K (He.ga K "Fact") "forks") (He.ma K (He.ga K "Fact") "__call__") (He.ma K (He.ga K "Fact") "__invert__") (He.ma K (He.ga K "Fact") "__and__") (He.ma K (He.ga K "Fact") "__or__") (He.ma K (He.ga K "Fact") "__str__") (He.ga K "Above") (He.ma K (He.ga K "Above") "kept"),
  fun K => mkB K (He.ga K "Above") (He.ma K (He.ga K "Above") "__init__"),
  fun K => supB K (He.ga K "Above") (He.ma K (He.ga K "Above") "__init__"),
  fun K => smB K (He.ga K "Above") (He.ma K (He.ga K "Fact") "__init__"),
  fun K => factB K (He.ma K (He.ga K "Fact") "forks") (He.ma K (He.ga K "Fact") "__call__") (He.ma K (He.ga K "Fact") "__invert__") (He.ma K (He.ga K "Fact") "__and__") (He.ma K (He.ga K "Fact") "__or__") (He.ma K (He.ga K "Fact") "__str__") (He.ga K "InTune") (He.ma K (He.ga K "InTune") "kept"),
  fun K => mkB K (He.ga K "InTune") (He.ma K (He.ga K "InTune") "__init__"),
  fun K => supB K (He.ga K "InTune") (He.ma K (He.ga K "InTune") "__init__")]
def facts6 : List (PySem.W.Frag → Bool) := [
  fun K => smB K (He.ga K "InTune") (He.ma K (He.ga K "Fact") "__init__"),
  fun K => factB K (He.ma K (He.ga K "Fact") "forks") (He.ma K (He.ga K "Fact") "__call__") (He.ma K (He.ga K "Fact") "__invert__") (He.ma K (He.ga K "Fact") "__and__") (He.ma K (He.ga K "Fact") "__or__") (He.ma K (He.ga K "Fact") "__str__") (He.ga K "Between") (He.ma K (He.ga K "Between") "kept"),
  fun K => mkB K (He.ga K "Between") (He.ma K (He.ga K "Between") "__init__"),
  fun K => supB K (He.ga K "Between") (He.ma K (He.ga K "Between") "__init__"),
  fun K => smB K (He.ga K "Between") (He.ma K (He.ga K "Fact") "__init__"),
  fun K => factB K (He.ma K (He.ga K "Fact") "forks") (He.ma K (He.ga K "Fact") "__call__") (He.ma K (He.ga K "Fact") "__invert__") (He.ma K (He.ga K "Fact") "__and__") (He.ma K (He.ga K "Fact") "__or__") (He.ma K (He.ga K "Fact") "__str__") (He.ga K "Highest") (He.ma K (He.ga K "Highest") "kept"),
  fun K => mkB K (He.ga K "Highest") (He.ma K (He.ga K "Highest") "__init__"),
  fun K => supB K (He.ga K "Highest") (He.ma K (He.ga K "Highest") "__init__"),
  fun K => smB K (He.ga K "Highest") (He.ma K (He.ga K "Fact") "__init__"),
  fun K => factB K (He.ma K (He.ga K "Fact") "forks") (He.ma K (He.ga K "Fact") "__call__") (He.ma K (He.ga K "Fact") "__invert__") (He.ma K (He.ga K "Fact") "__and__") (He.ma K (He.ga K "Fact") "__or__") (He.ma K (He.ga K "Fact") "__str__") (He.ga K "AsOften") (He.ma K (He.ga K "AsOften") "kept"),
  fun K => mkB K (He.ga K "AsOften") (He.ma K (He.ga K "AsOften") "__init__"),
  fun K => supB K (He.ga K "AsOften") (He.ma K (He.ga K "AsOften") "__init__"),
  fun K => smB K (He.ga K "AsOften") (He.ma K (He.ga K "Fact") "__init__"),
  fun K => factB K (He.ma K (He.ga K "Fact") "forks") (He.ma K (He.ga K "Fact") "__call__") (He.ma K (He.ga K "Fact") "__invert__") (He.ma K (He.ga K "Fact") "__and__") (He.ma K (He.ga K "Fact") "__or__") (He.ma K (He.ga K "Fact") "__str__") (He.ga K "MoreOften") (He.ma K (He.ga K "MoreOften") "kept"),
  fun K => mkB K (He.ga K "MoreOften") (He.ma K (He.ga K "MoreOften") "__init__"),
  fun K => supB K (He.ga K "MoreOften") (He.ma K (He.ga K "MoreOften") "__init__"),
  fun K => smB K (He.ga K "MoreOften") (He.ma K (He.ga K "Fact") "__init__"),
  fun K => factB K (He.ma K (He.ga K "Fact") "forks") (He.ma K (He.ga K "Fact") "__call__") (He.ma K (He.ga K "Fact") "__invert__") (He.ma K (He.ga K "Fact") "__and__") (He.ma K (He.ga K "Fact") "__or__") (He.ma K (He.ga K "Fact") "__str__") (He.ga K "Trio") (He.ma K (He.ga K "Trio") "kept"),
  fun K => mkB K (He.ga K "Trio") (He.ma K (He.ga K "Trio") "__init__"),
  fun K => supB K (He.ga K "Trio") (He.ma K (He.ga K "Trio") "__init__")]
def facts7 : List (PySem.W.Frag → Bool) := [
  fun K => smB K (He.ga K "Trio") (He.ma K (He.ga K "Fact") "__init__"),
  fun K => factB K (He.ma K (He.ga K "Fact") "forks") (He.ma K (He.ga K "Fact") "__call__") (He.ma K (He.ga K "Fact") "__invert__") (He.ma K (He.ga K "Fact") "__and__") (He.ma K (He.ga K "Fact") "__or__") (He.ma K (He.ga K "Fact") "__str__") (He.ga K "Not") (He.ma K (He.ga K "Not") "kept"),
  fun K => mkB K (He.ga K "Not") (He.ma K (He.ga K "Not") "__init__"),
  fun K => supB K (He.ga K "Not") (He.ma K (He.ga K "Not") "__init__"),
  fun K => smB K (He.ga K "Not") (He.ma K (He.ga K "Fact") "__init__"),
  fun K => factB K (He.ma K (He.ga K "Fact") "forks") (He.ma K (He.ga K "Fact") "__call__") (He.ma K (He.ga K "Fact") "__invert__") (He.ma K (He.ga K "Fact") "__and__") (He.ma K (He.ga K "Fact") "__or__") (He.ma K (He.ga K "Fact") "__str__") (He.ga K "Both") (He.ma K (He.ga K "Both") "kept"),
  fun K => mkB K (He.ga K "Both") (He.ma K (He.ga K "Both") "__init__"),
  fun K => supB K (He.ga K "Both") (He.ma K (He.ga K "Both") "__init__"),
  fun K => smB K (He.ga K "Both") (He.ma K (He.ga K "Fact") "__init__"),
  fun K => factB K (He.ma K (He.ga K "Fact") "forks") (He.ma K (He.ga K "Fact") "__call__") (He.ma K (He.ga K "Fact") "__invert__") (He.ma K (He.ga K "Fact") "__and__") (He.ma K (He.ga K "Fact") "__or__") (He.ma K (He.ga K "Fact") "__str__") (He.ga K "Either") (He.ma K (He.ga K "Either") "kept"),
  fun K => mkB K (He.ga K "Either") (He.ma K (He.ga K "Either") "__init__"),
  fun K => supB K (He.ga K "Either") (He.ma K (He.ga K "Either") "__init__"),
  fun K => smB K (He.ga K "Either") (He.ma K (He.ga K "Fact") "__init__"),
  fun K => apartB K]
def defs0 : List Df := [
  ⟨fun K => (He.ga K "is_name"), "is_name", "is_name", top 20, [], false⟩,
  ⟨fun K => (He.ga K "checked_names"), "checked_names", "checked_names", top 25, [], false⟩,
  ⟨fun K => (He.ga K "check_distinct"), "check_distinct", "check_distinct", top 26, [], false⟩,
  ⟨fun K => (He.ga K "without_duplicates"), "without_duplicates", "without_duplicates", top 27, [], false⟩,
  ⟨fun K => (He.ga K "deeper"), "deeper", "deeper", top 36, [], false⟩,
  ⟨fun K => (He.ga K "reached_from"), "reached_from", "reached_from", top 41, [], false⟩,
  ⟨fun K => (He.ga K "blocks"), "blocks", "blocks", top 45, [], false⟩,
  ⟨fun K => (He.ga K "order_of_walking"), "order_of_walking", "order_of_walking", top 47, [], false⟩,
  ⟨fun K => (He.ga K "ties"), "ties", "ties", top 48, [], false⟩,
  ⟨fun K => (He.ga K "choices"), "choices", "choices", top 49, [], false⟩,
  ⟨fun K => (He.ga K "levels"), "levels", "levels", top 50, [], false⟩,
  ⟨fun K => (He.ga K "found_fittings"), "found_fittings", "found_fittings", top 51, [], false⟩,
  ⟨fun K => (He.ga K "fittings"), "fittings", "fittings", top 52, [], false⟩,
  ⟨fun K => (He.ga K "count_fittings"), "count_fittings", "count_fittings", top 53, [], false⟩,
  ⟨fun K => (He.ga K "_law_bag"), "_law_bag", "_law_bag", top 55, [], false⟩,
  ⟨fun K => (He.ga K "_law_mixed"), "_law_mixed", "_law_mixed", top 56, [], false⟩,
  ⟨fun K => (He.ga K "_law_take"), "_law_take", "_law_take", top 57, [], false⟩,
  ⟨fun K => (He.ga K "_law_name"), "_law_name", "_law_name", top 58, [], false⟩,
  ⟨fun K => (He.ga K "_law_names"), "_law_names", "_law_names", top 59, [], false⟩,
  ⟨fun K => (He.ga K "_law_is_int"), "_law_is_int", "_law_is_int", top 60, [], false⟩]
def defs1 : List Df := [
  ⟨fun K => (He.ga K "_law_row"), "_law_row", "_law_row", top 61, [], false⟩,
  ⟨fun K => (He.ga K "_law_rows"), "_law_rows", "_law_rows", top 62, [], false⟩,
  ⟨fun K => (He.ga K "_law_some"), "_law_some", "_law_some", top 63, [], false⟩,
  ⟨fun K => (He.ga K "_law_pairs"), "_law_pairs", "_law_pairs", top 64, [], false⟩,
  ⟨fun K => (He.ga K "_law_level"), "_law_level", "_law_level", top 65, [], false⟩,
  ⟨fun K => (He.ga K "_law_struck"), "_law_struck", "_law_struck", top 66, [], false⟩,
  ⟨fun K => (He.ga K "_law_many"), "_law_many", "_law_many", top 67, [], false⟩,
  ⟨fun K => (He.ga K "_law_bench"), "_law_bench", "_law_bench", top 68, [], false⟩,
  ⟨fun K => (He.ga K "_law_rises"), "_law_rises", "_law_rises", top 69, [], false⟩,
  ⟨fun K => (He.ga K "_law_pieces"), "_law_pieces", "_law_pieces", top 70, [], false⟩,
  ⟨fun K => (He.ga K "_law_draw_plain"), "_law_draw_plain", "_law_draw_plain", top 71, [], false⟩,
  ⟨fun K => (He.ga K "_law_draw_fact"), "_law_draw_fact", "_law_draw_fact", top 72, [], false⟩,
  ⟨fun K => (He.ga K "_law_make"), "_law_make", "_law_make", top 73, [], false⟩,
  ⟨fun K => (He.ga K "_law_make_highest"), "_law_make_highest", "_law_make_highest", top 74, [], false⟩,
  ⟨fun K => (He.ga K "_law_draw_plans"), "_law_draw_plans", "_law_draw_plans", top 75, [], false⟩,
  ⟨fun K => (He.ga K "_law_pitches"), "_law_pitches", "_law_pitches", top 76, [], false⟩,
  ⟨fun K => (He.ga K "law"), "law", "law", top 77, [], false⟩,
  ⟨fun K => (He.ma K (He.ga K "Tuning") "pitches"), "pitches", "Tuning.pitches", inC 23 4, [], false⟩,
  ⟨fun K => (He.ma K (He.ga K "Tuning") "beats"), "beats", "Tuning.beats", inC 23 5, [], false⟩,
  ⟨fun K => (He.ma K (He.ga K "Bench") "enter"), "enter", "Bench.enter", inC 42 6, [], false⟩]
def defs2 : List Df := [
  ⟨fun K => (He.ma K (He.ga K "Bench") "add"), "add", "Bench.add", inC 42 7, [], false⟩,
  ⟨fun K => (He.ma K (He.ga K "Bench") "add_all"), "add_all", "Bench.add_all", inC 42 8, [], false⟩,
  ⟨fun K => (He.ma K (He.ga K "Bench") "strike"), "strike", "Bench.strike", inC 42 9, [], false⟩,
  ⟨fun K => (He.ma K (He.ga K "Bench") "check_pair"), "check_pair", "Bench.check_pair", inC 42 10, [], false⟩,
  ⟨fun K => (He.ma K (He.ga K "Bench") "check_fork"), "check_fork", "Bench.check_fork", inC 42 11, [], false⟩,
  ⟨fun K => (He.ma K (He.ga K "Bench") "check_fact"), "check_fact", "Bench.check_fact", inC 42 12, [], false⟩,
  ⟨fun K => (He.ma K (He.ga K "Bench") "tell"), "tell", "Bench.tell", inC 42 13, [], false⟩,
  ⟨fun K => (He.ma K (He.ga K "Bench") "undo"), "undo", "Bench.undo", inC 42 18, [], false⟩,
  ⟨fun K => (He.ma K (He.ga K "Bench") "forks"), "forks", "Bench.forks", inC 42 21, [], false⟩,
  ⟨fun K => (He.ma K (He.ga K "Bench") "strikes"), "strikes", "Bench.strikes", inC 42 22, [], false⟩,
  ⟨fun K => (He.ma K (He.ga K "Bench") "told"), "told", "Bench.told", inC 42 24, [], false⟩,
  ⟨fun K => (He.ma K (He.ga K "Blocks") "visit"), "visit", "Blocks.visit", inC 44 1, [], false⟩,
  ⟨fun K => (He.ma K (He.ga K "Blocks") "close"), "close", "Blocks.close", inC 44 2, [], false⟩,
  ⟨fun K => (He.ma K (He.ga K "Tuning") "__init__"), "__init__", "Tuning.__init__", inC 23 0, [], false⟩,
  ⟨fun K => (He.ma K (He.ga K "Blocks") "__init__"), "__init__", "Blocks.__init__", inC 44 0, [], false⟩,
  ⟨fun K => (He.ma K (He.ga K "Bench") "__init__"), "__init__", "Bench.__init__", inC 42 4, [.int 0], false⟩,
  ⟨fun K => (He.ma K (He.ga K "Tuning") "__getitem__"), "__getitem__", "Tuning.__getitem__", inC 23 8, [], false⟩,
  ⟨fun K => (He.ma K (He.ga K "Tuning") "__contains__"), "__contains__", "Tuning.__contains__", inC 23 10, [], false⟩,
  ⟨fun K => (lAd K), "limit", "Bench.limit", inC 42 15, [], false⟩,
  ⟨fun K => (He.ma K (He.ga K "Fact") "__init__"), "__init__", "Fact.__init__", inC 28 2, [], false⟩]
def defs3 : List Df := [
  ⟨fun K => (He.ma K (He.ga K "Fact") "forks"), "forks", "Fact.forks", inC 28 3, [], false⟩,
  ⟨fun K => (He.ma K (He.ga K "Fact") "__call__"), "__call__", "Fact.__call__", inC 28 5, [], false⟩,
  ⟨fun K => (He.ma K (He.ga K "Fact") "__invert__"), "__invert__", "Fact.__invert__", inC 28 6, [], false⟩,
  ⟨fun K => (He.ma K (He.ga K "Fact") "__and__"), "__and__", "Fact.__and__", inC 28 7, [], false⟩,
  ⟨fun K => (He.ma K (He.ga K "Fact") "__or__"), "__or__", "Fact.__or__", inC 28 8, [], false⟩,
  ⟨fun K => (He.ma K (He.ga K "Fact") "__str__"), "__str__", "Fact.__str__", inC 28 9, [], false⟩,
  ⟨fun K => (He.ma K (He.ga K "Above") "kept"), "kept", "Above.kept", inC 29 1, [], false⟩,
  ⟨fun K => (He.ma K (He.ga K "Above") "__init__"), "__init__", "Above.__init__", inC 29 0, [], true⟩,
  ⟨fun K => (He.ma K (He.ga K "InTune") "kept"), "kept", "InTune.kept", inC 30 1, [], false⟩,
  ⟨fun K => (He.ma K (He.ga K "InTune") "__init__"), "__init__", "InTune.__init__", inC 30 0, [], true⟩,
  ⟨fun K => (He.ma K (He.ga K "Between") "kept"), "kept", "Between.kept", inC 31 1, [], false⟩,
  ⟨fun K => (He.ma K (He.ga K "Between") "__init__"), "__init__", "Between.__init__", inC 31 0, [], true⟩,
  ⟨fun K => (He.ma K (He.ga K "Highest") "kept"), "kept", "Highest.kept", inC 32 1, [], false⟩,
  ⟨fun K => (He.ma K (He.ga K "Highest") "__init__"), "__init__", "Highest.__init__", inC 32 0, [], true⟩,
  ⟨fun K => (He.ma K (He.ga K "AsOften") "kept"), "kept", "AsOften.kept", inC 33 1, [], false⟩,
  ⟨fun K => (He.ma K (He.ga K "AsOften") "__init__"), "__init__", "AsOften.__init__", inC 33 0, [], true⟩,
  ⟨fun K => (He.ma K (He.ga K "MoreOften") "kept"), "kept", "MoreOften.kept", inC 34 1, [], false⟩,
  ⟨fun K => (He.ma K (He.ga K "MoreOften") "__init__"), "__init__", "MoreOften.__init__", inC 34 0, [], true⟩,
  ⟨fun K => (He.ma K (He.ga K "Trio") "kept"), "kept", "Trio.kept", inC 35 1, [], false⟩,
  ⟨fun K => (He.ma K (He.ga K "Trio") "__init__"), "__init__", "Trio.__init__", inC 35 0, [], true⟩]
def defs4 : List Df := [
  ⟨fun K => (He.ma K (He.ga K "Not") "kept"), "kept", "Not.kept", inC 37 1, [], false⟩,
  ⟨fun K => (He.ma K (He.ga K "Not") "__init__"), "__init__", "Not.__init__", inC 37 0, [], true⟩,
  ⟨fun K => (He.ma K (He.ga K "Both") "kept"), "kept", "Both.kept", inC 38 1, [], false⟩,
  ⟨fun K => (He.ma K (He.ga K "Both") "__init__"), "__init__", "Both.__init__", inC 38 0, [], true⟩,
  ⟨fun K => (He.ma K (He.ga K "Either") "kept"), "kept", "Either.kept", inC 39 1, [], false⟩,
  ⟨fun K => (He.ma K (He.ga K "Either") "__init__"), "__init__", "Either.__init__", inC 39 0, [], true⟩]
def facts : List (List (PySem.W.Frag → Bool)) := [facts0, facts1, facts2, facts3, facts4, facts5, facts6, facts7]
def defs : List (List Df) := [defs0, defs1, defs2, defs3, defs4]
abbrev Ob : Type := Bool × List (List Fv)
def obsK (K : PySem.W.Frag) : Ob := ((facts.all fun l => l.all fun f => f K) && defs.all fun l => l.all fun d => d.ok K, defs.map fun l => l.map fun d => d.obs K)
def valK : Ob := (true, defs.map fun l => l.map Df.val)
/-- what the end leans on -/
def SaysK (K : PySem.W.Frag) : Prop := obsK K = valK
def hk : PySem.W.Hook where
  α := Ob
  obs := fun s => obsK (He.frG s.heap.get? (adsG s.heap.get?))
  val := fun _ => valK
  says := fun _ h => ∃ K : PySem.W.Frag, K.In h ∧ SaysK K
  of := fun _ _ e => ⟨_, He.frG_in, e⟩
  keeps := fun _ _ _ ⟨K, hK, c⟩ k => ⟨K, PySem.W.Frag.In.keeps hK k, c⟩
def ob (s : PySem.W.SharedT) : Ob := adsK (HandSHeadRun.getT s) fun as => obsK (He.frG (HandSHeadRun.getT s) as)
theorem ob_eq (s : PySem.W.SharedT) : ob s = hk.obs s.abs := by
  have e : HandSHeadRun.getT s = s.abs.heap.get? := funext fun a => HandSHeadRun.getT_eq s a
  unfold ob
  rw [adsK_eq, e]
  rfl
theorem run (w : World) : HandSHeadRun.RunEq Rr qv hk ob 12000 loose w := by
  intro os
  kernel_rfl
end Fb
set_option maxHeartbeats 4000000
/-! Forkbeats: rules whose readings name the callee; operators of own classes. -/
namespace Fb
open PySem PySem.Spec PyProof.Rows L2
/-- what a context hands to its calls -/
structure Cm where
  prog : Program
  w : World
  K : PySem.W.Frag
  mg : Str → Option Value
  base : Heap
  A : Around
/-! ### what may be called -/
/-- the module's name x is a def that keeps sp -/
def Cal (X : Cm) (x : Str) (sp : SpN) : Prop := ∃ g k, X.mg x = some (.ref g) ∧ PySem.W.keepIn X.K (.ref g) = true ∧ FnN X.prog X.w X.K X.mg X.base k g sp ∧ Room k X.A
/-- instances of C have the method m that keeps sp -/
def Mth (X : Cm) (C : Addr) (m : Str) (sp : SpN) : Prop := Cls X.K C ∧ ∃ g k, Meth X.K C m g ∧ FnN X.prog X.w X.K X.mg X.base k g sp ∧ Room k X.A
/-- the module's name x is the class C, whose __init__ keeps sp -/
def Mkr (X : Cm) (x : Str) (C : Addr) (sp : SpN) : Prop := X.mg x = some (.ref C) ∧ ∃ g k, Mk X.K C g ∧ FnN X.prog X.w X.K X.mg X.base k g sp ∧ Room (k + 1) X.A
theorem pass0' {X : Cx} {E : XK} : Passes CX0 X E := fun _ _ _ _ _ _ _ h => h.elim
section
variable {X : Cx} {x m : Str} {p pos apos : Pos} {e o : Expr} {es : List Expr} {ta : TE} {t : TA}
/-- f(..) -/
def tCal (X : Cm) (x : Str) (t : TA) : TE := fun σ H Q => ∃ sp, Cal X x sp ∧ t σ H fun vs H1 => sp vs H1 Q
theorem pe_cal (hg : Gl X x) (ha : PA X (e :: es) t) (hdb : (x == ("__debug__" : Str)) = false := by decide) (he : starEach (e :: es) X.env = (false, eval e X.env) :: starEach es X.env := by rfl)
    (hpl : (backTo pos (starEach es X.env)).any (·.1) = false := by rfl) : PE X (.Call (.Name x p) (e :: es) [] pos) (tCal ⟨X.prog, X.w, X.K, X.mg, X.base, X.A⟩ x t) := by
  refine ⟨fun pins s σ H Q I h => ?_⟩
  obtain ⟨sp, ⟨g, k, hm, hk, F, hr⟩, h⟩ := h
  refine wpAny_Call_Name_kw (ld_glob I hg hm ?_ hdb)
  refine PySem.W.callWith_K (h₀ := X.base) I.ok.mod.kin hk (thn (ha.run pos pins s σ H _ I h) fun us s1 ⟨vs, H1, I1, r, q⟩ => ⟨I1.kIn, ?_⟩) he hpl
  exact wpAny_call (run_fnR F hr (pass0' (E := E0)) I1 r q)
/-- o.m(..) -/
def tMet (X : Cm) (m : Str) (ta : TE) (t : TA) : TE := fun σ H Q => ta σ H fun x H1 => ∃ a C dx fs sp, x = .ref a ∧ H1 a = some (.ins C dx fs) ∧ fs.lookup m = none ∧ Mth X C m sp ∧ t σ H1 fun vs H2 => sp (x :: vs) H2 Q
theorem pe_met {pl : Sem Bool} (he : PE X o ta) (ha : PA X (e :: es) t)
    (hst : starEach (e :: es) X.env = (false, eval e X.env) :: starEach es X.env := by rfl) (hpl : (backTo pos (starEach es X.env)).any (·.1) = false := by rfl)
    (ht : eval (.Call (.Attribute o m apos) (e :: es) [] pos) X.env = (do
      let ov ← eval o X.env
      standAt apos.atName
      let (f, first) ← holding [ov] (getMethod ov m pl)
      callWith pos f first (backTo pos (starEach (e :: es) X.env)) (backToKw pos (keywordEach [] X.env))) := by rfl) :
    PE X (.Call (.Attribute o m apos) (e :: es) [] pos) (tMet ⟨X.prog, X.w, X.K, X.mg, X.base, X.A⟩ m ta t) := by
  refine ⟨fun pins s σ H Q I h => ?_⟩
  refine PySem.W.methodCall_KW (pl := pl) (thn (he.run pins s σ H _ I h) fun u s1 ⟨x, H1, I1, rx, a, C, dx, fs, sp, ex, ea, l, ⟨c, g, k, hm, F, hr⟩, q⟩ => ?_) ht
  subst ex
  obtain rfl : u = Value.ref a := rx
  refine getmeth_ok I1 ea c hm l ?_
  refine PySem.W.callWith_K (first := [.ref a]) (h₀ := X.base) I.ok.mod.kin hm.kp (thn (ha.run pos pins s1 σ H1 _ I1 q) fun us s2 ⟨vs, H2, I2, r, q2⟩ => ⟨I2.kIn, ?_⟩) hst hpl
  exact wpAny_call (run_fnR (us := .ref a :: us) (vs := .ref a :: vs) F hr (pass0' (E := E0)) I2 (.cons rfl r) q2)
theorem pe_met0 {pl : Sem Bool} (he : PE X o ta)
    (ht : eval (.Call (.Attribute o m apos) [] [] pos) X.env = (do
      let ov ← eval o X.env
      standAt apos.atName
      let (f, first) ← holding [ov] (getMethod ov m pl)
      callWith pos f first (backTo pos (starEach [] X.env)) (backToKw pos (keywordEach [] X.env))) := by rfl) :
    PE X (.Call (.Attribute o m apos) [] [] pos) (tMet ⟨X.prog, X.w, X.K, X.mg, X.base, X.A⟩ m ta tNil) := by
  refine ⟨fun pins s σ H Q I h => ?_⟩
  refine PySem.W.methodCall_KW (pl := pl) (thn (he.run pins s σ H _ I h) fun u s1 ⟨x, H1, I1, rx, a, C, dx, fs, sp, ex, ea, l, ⟨c, g, k, hm, F, hr⟩, q⟩ => ?_) ht
  subst ex
  obtain rfl : u = Value.ref a := rx
  refine getmeth_ok I1 ea c hm l ?_
  exact PySem.W.callWith_K0 (first := [.ref a]) I1.kIn hm.kp (wpAny_call (run_fnR (us := [.ref a]) (vs := [.ref a]) F hr (pass0' (E := E0)) I1 (.cons rfl .nil) q))
/-- C(..) -/
def tMkr (X : Cm) (x : Str) (t : TA) : TE := fun σ H Q => ∃ C sp, Mkr X x C sp ∧ t σ H fun vs H1 => ∀ y dx, H1 y = none → H1 dx = none → dx ≠ y →
  sp (.ref y :: vs) (upd (upd H1 dx (.own y)) y (.ins C dx [])) fun v H2 => v = .non ∧ Q (.ref y) H2
theorem pe_mkr (hg : Gl X x) (ha : PA X (e :: es) t) (hdb : (x == ("__debug__" : Str)) = false := by decide) (he : starEach (e :: es) X.env = (false, eval e X.env) :: starEach es X.env := by rfl)
    (hpl : (backTo pos (starEach es X.env)).any (·.1) = false := by rfl) : PE X (.Call (.Name x p) (e :: es) [] pos) (tMkr ⟨X.prog, X.w, X.K, X.mg, X.base, X.A⟩ x t) := by
  refine ⟨fun pins s σ H Q I h => ?_⟩
  obtain ⟨C, sp, ⟨hm, g, k, M, F, hr⟩, h⟩ := h
  refine wpAny_Call_Name_kw (ld_glob I hg hm ?_ hdb)
  refine PySem.W.callWith_K (h₀ := X.base) I.ok.mod.kin M.kp (thn (ha.run pos pins s σ H _ I h) fun us s1 ⟨vs, H1, I1, r, q⟩ => ⟨I1.kIn, ?_⟩) he hpl
  exact StX.run_makeR M F hr (pass0' (E := E0)) I1 r q
/-- f(e, ..) where f's value is an instance that may be called -/
def Clo (X : Cm) (C : Addr) (sp : SpN) : Prop := ∃ g k, StX.CallO X.K C g ∧ FnN X.prog X.w X.K X.mg X.base k g sp ∧ Room k X.A
def tClo (X : Cm) (tf : TE) (t : TA) : TE := fun σ H Q => tf σ H fun y H1 => ∃ a C sp, y = V.ref a ∧ Clo X C sp ∧ t σ H1 fun vs H2 => (∃ dx fs, H2 a = some (.ins C dx fs)) ∧ sp (V.ref a :: vs) H2 Q
theorem pe_clo {fe : Expr} {tf : TE} (hf : PE X fe tf) (ha : PA X (e :: es) t)
    (ht : eval (.Call fe (e :: es) [] pos) X.env = (do callWith pos (← eval fe X.env) [] (backTo pos (starEach (e :: es) X.env)) (backToKw pos (keywordEach [] X.env))) := by rfl)
    (he : starEach (e :: es) X.env = (false, eval e X.env) :: starEach es X.env := by rfl) (hpl : (backTo pos (starEach es X.env)).any (·.1) = false := by rfl) : PE X (.Call fe (e :: es) [] pos) (tClo ⟨X.prog, X.w, X.K, X.mg, X.base, X.A⟩ tf t) := by
  refine ⟨fun pins s σ H Q I h => ?_⟩
  refine Call_ (thn (hf.run pins s σ H _ I h) fun u s1 ⟨y, H1, I1, ry, a, C, sp, ey, ⟨g, k, c, F, hr⟩, q⟩ => ?_) ht
  subst ey
  obtain rfl : u = Value.ref a := ry
  refine StX.callO_with (thn (ha.run pos pins s1 σ H1 _ I1 q) fun us s2 ⟨vs, H2, I2, r, hi, q2⟩ => ?_) he hpl
  obtain ⟨ox, od, J, hd⟩ := StX.insC_at I2 (.inr hi)
  exact ⟨⟨C, ox, od, J, hd⟩, StX.run_callO c F hr (pass0' (E := E0)) I2 (.inr hi) r q2⟩
/-! ### operators of own classes -/
/-- instances of C answer the special name m by a def that keeps sp -/
structure Spc (X : Cm) (C : Addr) (m : Str) (g : Addr) : Prop where
  at_ : PySem.W.findIn X.K (.ref C) m = some (some (.ref g))
  fn : PySem.W.isFn X.K (.ref g) = true
theorem ins_at {pins : List (Addr × Obj)} {σ : L2.St} {H : Hp} {s : Shared} {a C dx : Addr} {fs : List (Str × V)} (I : Inv X pins σ H s) (h : H a = some (.ins C dx fs)) : ∃ ox od, PySem.W.InstAt s.heap a ox C od ∧ ox.data = .plain := by
  obtain ⟨mA, O, _⟩ := ins_get I.hok h
  obtain ⟨od, J, _⟩ := O.look
  exact ⟨_, _, J, rfl⟩
/-- x in o -/
def rInO (X : Cm) (neg : Bool) : R2 := fun x y H Q => ∃ a C dx fs g k sp, y = .ref a ∧ H a = some (.ins C dx fs) ∧ Spc X C "__contains__" g ∧ FnN X.prog X.w X.K X.mg X.base k g sp ∧ Room k X.A ∧ sp [y, x] H fun v H2 => ∃ b, v = .bl b ∧ Q (.bl (if neg then !b else b)) H2
theorem op_inO : OpR X (compareOp .In) (rInO ⟨X.prog, X.w, X.K, X.mg, X.base, X.A⟩ false) := by
  intro pins s σ H x y v u Q I rx ry h
  obtain ⟨a, C, dx, fs, g, k, sp, rfl, ha, S, F, hr, q⟩ := h
  cases (show u = Value.ref a from ry)
  obtain ⟨ox, od, J, _⟩ := ins_at I ha
  obtain ⟨m, hF⟩ := I.fr
  refine PySem.W.in_K hF I.ok.mod.kin J S.at_ S.fn (thn (wpAny_call (run_fnR (us := [.ref a, v]) (vs := [.ref a, x]) F hr (pass0' (E := E0)) I (.cons rfl (.cons rx .nil)) q)) fun r s' ⟨z, H', I', rz, b, ez, qz⟩ => ?_)
  subst ez
  cases rz
  exact wpAny_truthy_bool ⟨.bl b, H', I', rfl, qz⟩
theorem op_ninO : OpR X (compareOp .NotIn) (rInO ⟨X.prog, X.w, X.K, X.mg, X.base, X.A⟩ true) := by
  intro pins s σ H x y v u Q I rx ry h
  obtain ⟨a, C, dx, fs, g, k, sp, rfl, ha, S, F, hr, q⟩ := h
  cases (show u = Value.ref a from ry)
  obtain ⟨ox, od, J, _⟩ := ins_at I ha
  obtain ⟨m, hF⟩ := I.fr
  refine PySem.W.notIn_K hF I.ok.mod.kin J S.at_ S.fn (thn (wpAny_call (run_fnR (us := [.ref a, v]) (vs := [.ref a, x]) F hr (pass0' (E := E0)) I (.cons rfl (.cons rx .nil)) q)) fun r s' ⟨z, H', I', rz, b, ez, qz⟩ => ?_)
  subst ez
  cases rz
  exact wpAny_truthy_bool ⟨.bl (!b), H', I', rfl, qz⟩
/-- ~o -/
def rInv (X : Cm) : V → Hp → VK → Prop := fun x H Q => ∃ a C dx fs g k sp, x = .ref a ∧ H a = some (.ins C dx fs) ∧ Spc X C "__invert__" g ∧ FnN X.prog X.w X.K X.mg X.base k g sp ∧ Room k X.A ∧ sp [x] H Q
theorem un_invO : UnR X (unaryOp .Invert) (rInv ⟨X.prog, X.w, X.K, X.mg, X.base, X.A⟩) := by
  intro pins s σ H x v Q I rx h
  obtain ⟨a, C, dx, fs, g, k, sp, rfl, ha, S, F, hr, q⟩ := h
  cases (show v = Value.ref a from rx)
  obtain ⟨ox, od, J, _⟩ := ins_at I ha
  obtain ⟨m, hF⟩ := I.fr
  exact PySem.W.ksp_inv hF I.ok.mod.kin J S.at_ S.fn (wpAny_call (run_fnR (us := [.ref a]) (vs := [.ref a]) F hr (pass0' (E := E0)) I (.cons rfl .nil) q))
/-- o[i] -/
def rIxO (X : Cm) : R2 := fun x y H Q => ∃ a C dx fs g k sp, x = .ref a ∧ H a = some (.ins C dx fs) ∧ Spc X C "__getitem__" g ∧ PySem.W.fnIn X.K g = true ∧ FnN X.prog X.w X.K X.mg X.base k g sp ∧ Room (k + 1) X.A ∧ sp [x, y] H Q
theorem pe_ixO {i : Expr} {ti : TE} (ho : PE X o ta) (hi : PE X i ti)
    (hsl : ∀ x i', subscripted i true (.ref x) i' = runValue (.builtin "lifetime.subscript" ⟨[.ref x, i'], []⟩) := by intro _ _; with_unfolding_all rfl) : PE X (.Subscript o i pos) (tOp (rIxO ⟨X.prog, X.w, X.K, X.mg, X.base, X.A⟩) ta ti) := by
  refine ⟨fun pins s σ H Q I h => ?_⟩
  refine Subscript_ (thn (ho.run pins s σ H _ I h) fun v s1 ⟨x, H1, I1, rx, q1⟩ => ?_)
  refine thn (hi.run pins s1 σ H1 _ I1 q1) fun u s2 ⟨y, H2, I2, ry, q2⟩ => ?_
  obtain ⟨a, C, dx, fs, g, k, sp, rfl, ha, S, hf, F, hr, q⟩ := q2
  cases (show v = Value.ref a from rx)
  obtain ⟨ox, od, J, _⟩ := ins_at I2 ha
  obtain ⟨m, hF⟩ := I2.fr
  refine PySem.W.sub_K hF I2.ok.mod.kin J S.at_ hf S.fn ?_ (hsl _ _)
  refine wpAny_call (codeAny_mono (F X.A.in1 X.stack s2 H2 [.ref a, u] [.ref a, y] Q E0 hr.in1 I2.env0.in1 (.cons rfl (.cons ry .nil)) q) fun r s' hq => ?_)
  cases r with
  | error er => exact False.elim hq
  | ok fl =>
    cases fl with
    | ret w => exact I2.after hq
    | next => exact False.elim hq
    | brk => exact False.elim hq
    | cont => exact False.elim hq
theorem pe_ixOc {P : Program} {w : World} {K : PySem.W.Frag} {mg : Str → Option Value} {base : Heap} {A : Around} {i : Expr} {ti : TE} (ho : PE X o ta) (hi : PE X i ti)
    (hsl : ∀ x i', subscripted i true (.ref x) i' = runValue (.builtin "lifetime.subscript" ⟨[.ref x, i'], []⟩) := by intro _ _; with_unfolding_all rfl)
    (e1 : X.prog = P := by rfl) (e2 : X.w = w := by rfl) (e3 : X.K = K := by rfl) (e4 : X.mg = mg := by rfl) (e5 : X.base = base := by rfl) (e6 : X.A = A := by rfl) : PE X (.Subscript o i pos) (tOp (rIxO ⟨P, w, K, mg, base, A⟩) ta ti) := by
  subst e1 e2 e3 e4 e5 e6
  exact pe_ixO ho hi hsl
/-! ### a & b, a | b of two own classes -/
theorem looks_ne {prog : Program} {w : World} {A : Around} {E : Value → Shared → Prop} {s : Shared} {K : PySem.W.Frag} {x y C D f f' : Addr} {ox oy : Obj} {od ody : Option Obj} {op : Operator} {Q : Value → Shared → Prop} (X : K.In s.heap)
    (I : PySem.W.InstAt s.heap x ox C od) (J : PySem.W.InstAt s.heap y oy D ody) (hc : PySem.W.selfFirst K C = true) (hd : PySem.W.selfFirst K D = true) (hne : C ≠ D)
    (hs : PySem.W.findIn K (.ref C) (PySem.dunder op.info.2) = some (some (.ref f))) (hf : PySem.W.isFn K (.ref f) = true) (hr : PySem.W.findIn K (.ref C) (dunderR op.info.2) = some none)
    (hs' : PySem.W.findIn K (.ref D) (PySem.dunder op.info.2) = some (some (.ref f'))) (hr' : PySem.W.findIn K (.ref D) (dunderR op.info.2) = some none) (hsub : PySem.W.mroIn K D (.ref C) = some false)
    (h : wpAny (model prog w) A (call (.ref f) [.ref x, .ref y]) (PySem.W.CmpBack Q) E s) : wpAny (model prog w) A (binaryOp op (.ref x) (.ref y)) Q E s := by
  obtain ⟨cd, rest, hcd, hm⟩ := PySem.W.ksp_first hc
  obtain ⟨cd', rest', hcd', hm'⟩ := PySem.W.ksp_first hd
  rcases hi : op.info with ⟨sym, nm'⟩
  rw [hi] at hs hr hs' hr'
  dsimp only at hs hr hs' hr'
  have one := PySem.W.ksp_try X I hs hf h
  obtain ⟨hh, g, d, tt, os⟩ := s
  have L1 : PySem.W.Looks (model prog w) hh (typeOf (.ref x)) (.ref C) := I.type
  have L2 : PySem.W.Looks (model prog w) hh (typeOf (.ref y)) (.ref D) := J.type
  have L3 : PySem.W.Looks (model prog w) hh (fillsNumberSlot (.ref C) nm') true := PySem.W.fills_K X hcd hm hs
  have L4 : PySem.W.Looks (model prog w) hh (fillsNumberSlot (.ref D) nm') true := PySem.W.fills_K X hcd' hm' hs'
  have L5 : PySem.W.Looks (model prog w) hh (isSubtype (.ref D) (.ref C)) false := PySem.W.looks_mroIn X hsub
  have L6 : PySem.W.Looks (model prog w) hh (numberSlotInPython (.ref C) nm') true := PySem.W.ksp_inPy X hs hr (.inl rfl)
  have L7 : PySem.W.Looks (model prog w) hh (numberSlotInPython (.ref D) nm') true := PySem.W.ksp_inPy X hs' hr' (.inl rfl)
  have hne' : (Value.ref C == Value.ref D) = false := Bool.eq_false_iff.mpr fun q => by cases beq_iff_eq.mp q; exact hne rfl
  simp only [binaryOp, hi]
  refine wpAny_holding (wpAny_bind ?_)
  unfold binaryOp1
  refine wpAny_bind (L1.at (wpAny_bind (L2.at (wpAny_bind (L3.at ?_)))))
  simp only [hne', Bool.false_eq_true, if_false]
  ksp_lk
  refine wpAny_mono one (fun r s' hr' => ?_) fun _ _ e => e
  obtain ⟨v, rfl, hq⟩ := hr'
  ksp_lk
  exact hq
/-- C answers the operator by the def at g; two such classes are one or apart -/
structure Nbr (K : PySem.W.Frag) (op : Operator) (C g : Addr) : Prop where
  first : PySem.W.selfFirst K C = true
  at_ : PySem.W.findIn K (.ref C) (PySem.dunder op.info.2) = some (some (.ref g))
  fn : PySem.W.isFn K (.ref g) = true
  no : PySem.W.findIn K (.ref C) (dunderR op.info.2) = some none
def rNbr (X : Cm) (op : Operator) : R2 := fun x y H Q => ∃ a C dx fs g b D dy gs g' k sp, x = .ref a ∧ y = .ref b ∧ H a = some (.ins C dx fs) ∧ H b = some (.ins D dy gs) ∧ Nbr X.K op C g ∧ Nbr X.K op D g' ∧ (C = D ∨ PySem.W.mroIn X.K D (.ref C) = some false) ∧
  FnN X.prog X.w X.K X.mg X.base k g sp ∧ Room k X.A ∧ sp [x, y] H Q
theorem op_nbr {op : Operator} : OpR X (binaryOp op) (rNbr ⟨X.prog, X.w, X.K, X.mg, X.base, X.A⟩ op) := by
  intro pins s σ H x y v u Q I rx ry h
  obtain ⟨a, C, dx, fs, g, b, D, dy, gs, g', k, sp, rfl, rfl, ha, hb, S, S', hn, F, hr, q⟩ := h
  cases (show v = Value.ref a from rx)
  cases (show u = Value.ref b from ry)
  obtain ⟨ox, od, J, _⟩ := ins_at I ha
  obtain ⟨oy, ody, J', _⟩ := ins_at I hb
  obtain ⟨m, hF⟩ := I.fr
  have go : wpAny (model X.prog X.w) X.A (call (.ref g) [.ref a, .ref b]) (PySem.W.CmpBack (EP X pins σ Q)) X.xe s :=
    thn (wpAny_call (run_fnR (us := [.ref a, .ref b]) (vs := [.ref a, .ref b]) F hr (pass0' (E := E0)) I (.cons rfl (.cons rfl .nil)) q)) fun w s' ⟨z', H', I', rz, qz⟩ => SlX.cmpback rz ⟨z', H', I', rz, qz⟩
  by_cases e : C = D
  · subst e
    exact PySem.W.binop_K hF I.ok.mod.kin J J'.type S.first S.at_ S.fn go
  · rcases hn with hn | hn
    · exact absurd hn e
    · exact looks_ne I.kIn J J' S.first S'.first e S.at_ S.fn S.no S'.at_ S'.no hn go
/-! ### str(o) -/
def rStrO (X : Cm) : List V → Hp → VK → Prop := fun xs H Q => ∃ a C dx fs g k sp, xs = [.ref a] ∧ H a = some (.ins C dx fs) ∧ Spc X C "__str__" g ∧ FnN X.prog X.w X.K X.mg X.base k g sp ∧ Room (k + 2) X.A ∧ sp [.ref a] H fun z H' => ∃ y, z = .str y ∧ Q z H'
theorem call_strO : CallR X (.type "str") (rStrO ⟨X.prog, X.w, X.K, X.mg, X.base, X.A⟩) := by
  intro pins s σ H xs us Q I r h
  obtain ⟨a, C, dx, fs, g, k, sp, rfl, ha, S, F, hr, q⟩ := h
  obtain ⟨u, rfl, ru⟩ := vals1 r
  cases (show u = Value.ref a from ru)
  obtain ⟨ox, od, J, _⟩ := ins_at I ha
  have hr2 : Room k X.A.in1.in1 := (show Room (k + 1) X.A.in1 from Room.in1 hr).in1
  refine PySem.W.kso_call hr2.units0 I.kIn J S.at_ S.fn (wpAny_mono (wpAny_call (SlX.run_at (us := [.ref a]) (ws := [.ref a]) F hr2 I.env0.in1.in1 (pass0' (E := E0)) I (.cons rfl .nil) q)) (fun v s' z => ?_) fun _ _ e => e)
  obtain ⟨z', H', I', rz, y, ey, qz⟩ := z
  subst ey
  obtain ⟨t, rfl⟩ := rz
  exact ⟨.str y, H', I', ⟨t, rfl⟩, qz⟩
end
end Fb
set_option maxHeartbeats 4000000
/-! Forkbeats: a method whose last statement is super().__init__(..). -/
namespace Fb
open PySem PySem.Spec PyProof.Rows L2
abbrev envS (qual : Str) (scope : Scope) (L f : Addr) (cda cc : Addr) : Env := PySem.W.ksEnv qual scope L f (.ref cda) cc
/-- the context of such a method's body -/
def cxS (P : Program) (w : World) (K : PySem.W.Frag) (mg : Str → Option Value) (base : Heap) (N : List Str) (qual : Str) (scope : Scope) (f cda cc : Addr) (A : Around) (outer : List Env) (s : Shared) (H : Hp) : Cx where
  prog := P
  w := w
  K := K
  mg := mg
  base := base
  A := A.deeper (envS qual scope s.heap.objs.size f cda cc)
  N := N
  s_0 := s
  H_0 := H
  env := envS qual scope s.heap.objs.size f cda cc
  outer := outer
  stack := envS qual scope s.heap.objs.size f cda cc :: outer
  ex := []
  calm := true
  fn := fun _ => false
  pn := []
  xe := fun _ _ => False
/-- names: the parameters first; no cells; __class__ alone is free -/
structure SupScope (N P : List Str) (sc : Scope) : Prop where
  kind : sc.kind = .function
  co : sc.isCoroutine = false
  gen : sc.isGenerator = false
  nd : N.Nodup
  pre : N.take P.length = P
  par : ∀ x ∈ P, sc.names.lookup x = some .local
  nocell : ∀ y ∈ sc.names, y.2 ≠ .cell
  free : ∀ x, sc.names.lookup x = some .free → x = "__class__"
  sup : sc.names.lookup ("super" : Str) = some .globalImplicit
  cls : sc.names.lookup ("__class__" : Str) = some .free
theorem SupScope.cells {N P : List Str} {sc : Scope} (S : SupScope N P sc) {x : Str} (h : sc.names.lookup x = some .cell) : False := S.nocell _ (PySem.mem_of_lookup h) rfl
theorem zip_lookup : ∀ {ps : List Str} {us : List Value} {i : Nat} {x : Str} {u : Value}, ps.Nodup → ps[i]? = some x → us[i]? = some u → (ps.zip us).lookup x = some u
  | [], _, i, x, u, _, h, _ => by simp at h
  | _ :: _, [], i, x, u, _, _, h => by simp at h
  | p :: ps, v :: us, 0, x, u, _, h, h' => by
    simp at h h'
    subst h h'
    simp [List.lookup_cons]
  | p :: ps, v :: us, i + 1, x, u, nd, h, h' => by
    have h1 : ps[i]? = some x := by simpa using h
    have h2 : us[i]? = some u := by simpa using h'
    have hx : x ∈ ps := List.mem_of_getElem? h1
    have ne : (x == p) = false := by
      rw [beq_eq_false_iff_ne]
      rintro rfl
      exact (List.nodup_cons.mp nd).1 hx
    show (List.lookup x ((p, v) :: ps.zip us)) = some u
    rw [List.lookup_cons, ne]
    exact zip_lookup (List.nodup_cons.mp nd).2 h1 h2
theorem lookup_uniq {x : Str} {u : Value} : ∀ (l : List (Str × Value)), (l.map (·.1)).Nodup → (x, u) ∈ l → l.lookup x = some u
  | [], _, hm => by cases hm
  | (y, v) :: r, nd, hm => by
    rw [List.map_cons, List.nodup_cons] at nd
    rw [List.lookup_cons]
    rcases List.mem_cons.mp hm with e | hm2
    · cases e
      simp
    · have hne : (x == y) = false := by
        rw [beq_eq_false_iff_ne]
        intro e
        refine nd.1 ?_
        rw [show ((y, v) : Str × Value).1 = x from e.symm]
        exact List.mem_map_of_mem (f := fun q : Str × Value => q.1) hm2
      rw [hne]
      exact lookup_uniq r nd.2 hm2
theorem zip_fst_nodup : ∀ {ps : List Str} {us : List Value}, ps.Nodup → ((ps.zip us).map (·.1)).Nodup
  | [], _, _ => by simp
  | _ :: _, [], _ => by simp
  | p :: ps, u :: us, nd => by
    rw [List.zip_cons_cons, List.map_cons, List.nodup_cons]
    refine ⟨fun hm => (List.nodup_cons.mp nd).1 ?_, zip_fst_nodup (List.nodup_cons.mp nd).2⟩
    obtain ⟨q, hq, e⟩ := List.mem_map.mp hm
    have e2 : q.1 = p := e
    rw [← e2]
    exact (List.of_mem_zip hq).1
theorem zip_rev_lookup {ps : List Str} {us : List Value} {i : Nat} {x : Str} {u : Value} (nd : ps.Nodup) (h : ps[i]? = some x) (h' : us[i]? = some u) : (ps.zip us).reverse.lookup x = some u := by
  refine lookup_uniq _ ?_ ?_
  · rw [List.map_reverse]
    exact (List.reverse_perm _).nodup_iff.mpr (zip_fst_nodup nd)
  · rw [List.mem_reverse]
    exact List.mem_of_getElem? (by rw [List.getElem?_zip_eq_some]; exact ⟨h, h'⟩)
theorem start_get {N ps : List Str} {vs : List V} {i : Nat} {v : V} (h : (L2.start N vs)[i]? = some (some v)) : vs[i]? = some v := by
  have hi : i < vs.length := by
    unfold L2.start at h
    by_cases hi : i < vs.length
    · exact hi
    · rw [List.getElem?_append_right (by simpa using hi)] at h
      rw [List.getElem?_replicate] at h
      split at h <;> cases h
  unfold L2.start at h
  rw [List.getElem?_append_left (by simpa using hi), List.getElem?_map] at h
  cases e : vs[i]? with
  | none => rw [e] at h; cases h
  | some a => rw [e] at h; cases h; rfl
/-- the entry -/
theorem inv_startS {P : Program} {w : World} {K : PySem.W.Frag} {mg : Str → Option Value} {base : Heap} {N ps : List Str} {qual : Str} {scope : Scope} {f cda cc : Addr} {A : Around} {outer : List Env} {s : Shared} {H : Hp} {us : List Value} {vs : List V} {h0 : Heap} {tk : Nat} {cl : Value} {cld : Option Addr} {D : Addr} {csl : Array (Option Value)}
    (S : SupScope N ps scope) (hd : A.handled = none) (e0 : Env0 P w K mg base A outer s H) (hl : vs.length = ps.length) (r : Vals vs us) (hcc : K.lookup cc = some ⟨cl, cld, .cell (some (.ref D)), csl⟩)
    (hns : h0.Ns s.heap.objs.size (fun x => (ps.zip us).reverse.lookup x)) (hk : ∀ b o, s.heap.get? b = some o → h0.get? b = some o) :
    Inv (cxS P w K mg base N qual scope f cda cc A outer s H) [] (L2.start N vs) H { s with heap := h0, toks := tk } := by
  have hpl : ps.length ≤ N.length := by have := congrArg List.length S.pre; rw [List.length_take] at this; omega
  have noA : ∀ b : Addr, b ∉ (cxS P w K mg base N qual scope f cda cc A outer s H).ex := fun b z => absurd (show b ∈ ([] : List Addr) from z) (by simp)
  have bcc := e0.bs cc _ (e0.mod.kin cc _ hcc)
  have cellsEq : ∀ {y : Str} {c : Addr}, ([(("__class__" : Str), cc)] : List (Str × Addr)).lookup y = some c → y = "__class__" ∧ c = cc := fun {y c} e => by
    rw [List.lookup_cons] at e
    cases q : (y == ("__class__" : Str)) with
    | true => rw [q] at e; cases e; exact ⟨beq_iff_eq.mp q, rfl⟩
    | false => rw [q] at e; cases e
  refine ⟨⟨e0.mod, S.kind, rfl, rfl, Nat.le_refl _, fun y z c h1 h2 => (cellsEq h1).1.trans (cellsEq h2).1.symm, fun y hy => ?_, fun y c hf _ => ?_, fun _ => hd, Around.frames_deeper e0.frames, .inr ⟨rfl, rfl⟩, fun b z => absurd z (noA b), e0.bs, e0.bsz, fun b _ _ => noA b, fun b z => absurd z (noA b), e0.funs, e0.frf⟩,
    rfl, e0.bare, Un.kept hk, ⟨_, hns, fun i y v h1 h2 h3 => ?_⟩, fun y c h => ?_, e0.hok.fresh (Nat.le_refl _), fun y c h => ?_, fun p hp => absurd (show p ∈ ([] : List (Addr × Obj)) from hp) (by simp), e0.hok.kept hk, ?_⟩
  · have hy : scope.names.lookup y = some .cell ∨ scope.names.lookup y = some .free := hy
    rcases hy with hy | hy
    · exact (S.cells hy).elim
    · refine ⟨cc, ?_⟩
      show ([(("__class__" : Str), cc)] : List (Str × Addr)).lookup y = some cc
      rw [S.free y hy]
      simp
  · cases hf
  · have ha := start_get (ps := ps) h2
    obtain ⟨u, hu, rv⟩ := r.get ha
    have hi : i < vs.length := (List.getElem?_eq_some_iff.mp ha).1
    have hp : ps[i]? = some y := by
      rw [← S.pre, List.getElem?_take_of_lt (by omega)]; exact h1
    have ndP : ps.Nodup := by rw [← S.pre]; exact S.nd.sublist (List.take_sublist _ _)
    exact ⟨u, rv, .inl ⟨S.par y (List.mem_of_getElem? hp), zip_rev_lookup ndP hp hu⟩⟩
  · obtain ⟨rfl, rfl⟩ := cellsEq h
    exact ⟨some (.ref D), _, hk _ _ bcc.1, rfl⟩
  · obtain ⟨rfl, rfl⟩ := cellsEq h
    exact bcc.2
  · unfold L2.start
    show _ = N.length
    rw [List.length_append, List.length_map, List.length_replicate]
    omega
/-! ### a body whose last statement is super().__init__(..) -/
/-- statements that run within the activation c -/
structure PSA (X : Cx) (c : Code) (sts : List Stmt) (t : TS) : Prop where
  run : ∀ (pins : List (Addr × Obj)) (s : Shared) (σ : L2.St) (H : Hp) (D : Ends), Inv X pins σ H s → t D σ H → _root_.PySem.wpAt (model X.prog X.w) X.A c (execs sts X.env) (SP X pins D) X.xe s
theorem psa_cons {X : Cx} {c : Code} {st : Stmt} {rest : List Stmt} {t u : TS} (h1 : PS X st t) (h2 : PSA X c rest u) : PSA X c (st :: rest) (tSeq t u) := by
  refine ⟨fun pins s σ H D I h => ?_⟩
  refine ks_wpAt_execs_cons (_root_.PySem.wpAt_of_wpAny (thn (h1.run pins s σ H { D with nx := u D } I h) fun f s1 q => ?_))
  cases f with
  | next =>
    obtain ⟨σ', H', I', q⟩ := q
    exact h2.run pins s1 σ' H' D I' q
  | ret v => exact q
  | brk => exact q
  | cont => exact q
/-- what is fixed of the text: where the method stands, its class cell, what super() finds -/
structure SupTxt (P : Program) (K : PySem.W.Frag) (f cda cc D : Addr) (a0 : Str) : Prop where
  fn : ∃ oc od osl fd ar, K.lookup f = some ⟨oc, od, .func fd, osl⟩ ∧ (fd.params.posonlyargs ++ fd.params.args).head? = some ar ∧ ar.arg = a0
  code : ∃ ccl cdd vs ccs file tf, K.lookup cda = some ⟨ccl, cdd, .fields vs, ccs⟩ ∧ vs[2]? = some (.str file tf) ∧ ((P.main.file : Str) == file) = true
  cell : ∃ cl cld csl, K.lookup cc = some ⟨cl, cld, .cell (some (.ref D)), csl⟩
  cls : (PySem.W.clsIn K D).isSome = true
  sup : PySem.W.nsIn K mainGlobals "super" = some none
  top : (P.main.scope.names.lookup ("super" : Str)).isSome = false
  any : PySem.W.nsIn K cStatics "thirdparty.any" = some none
/-- super().m of an instance of C, in a method of the class D, is the def at g -/
structure SupMet (K : PySem.W.Frag) (C D : Addr) (m : Str) (g : Addr) : Prop where
  sub : PySem.W.mroIn K C (.ref D) = some true
  at_ : PySem.W.ks_superIn K C D m = some (some (.ref g))
  ty : PySem.W.typeIn K (.ref g) = some (.type "function")
  fi : PySem.W.fnIn K g = true
/-- super().m(..) as a statement, the def's first parameter in slot 0 -/
def tSup (X : Cx) (D : Addr) (m : Str) (t : TA) : TS := fun E σ H => ∃ a C dx fs g k sp, σ[0]? = some (some (.ref a)) ∧ H a = some (.ins C dx fs) ∧ SupMet X.K C D m g ∧ FnN X.prog X.w X.K X.mg X.base k g sp ∧ Room k X.A ∧
  t σ H fun vs H1 => sp (.ref a :: vs) H1 fun _ H2 => E.nx σ H2
theorem psa_sup {pl : Sem Bool} {X : Cx} {P : Program} {qual : Str} {scope : Scope} {L f cda cc D : Addr} {N ps : List Str} {a0 m : Str} {body : List Stmt} {e : Expr} {es : List Expr} {t : TA} {p0 p1 apos pos pos2 : Pos} (hP : X.prog = P) (hX : X.env = envS qual scope L f cda cc) (hN : X.N[0]? = some a0) (S : SupScope N ps scope) (h0 : scope.names.lookup a0 = some .local)
    (T : SupTxt P X.K f cda cc D a0) (ha : PA X (e :: es) t) (hm : (m == ("__class__" : Str)) = false) (hboot : bootBuiltins "super" = some (.type "super"))
    (he : eval (.Call (.Attribute (.Call (.Name "super" p0) [] [] p1) m apos) (e :: es) [] pos) X.env = (do
      let ov ← attributeBase (.Call (.Name "super" p0) [] [] p1) m X.env (eval (.Call (.Name "super" p0) [] [] p1) X.env)
      standAt apos.atName
      let (f, first) ← holding [ov] (getMethod ov m pl)
      callWith pos f first (backTo pos (starEach (e :: es) X.env)) []))
    (hst : starEach (e :: es) X.env = (false, eval e X.env) :: starEach es X.env := by rfl) (hpl : (backTo pos (starEach es X.env)).any (·.1) = false := by rfl)
    (hs : swapsWith (.Call (.Attribute (.Call (.Name "super" p0) [] [] p1) m apos) (e :: es) [] pos) none pos2.line X.env = pure false := by rfl) :
    PSA X (.func body X.env) [.Expr (.Call (.Attribute (.Call (.Name "super" p0) [] [] p1) m apos) (e :: es) [] pos) pos2] (tSup X D m t) := by
  refine ⟨fun pins s σ H E I h => ?_⟩
  obtain ⟨a, C, dx, fs, g, k, sp, hσ, ea, M, F, hr, h⟩ := h
  refine ks_wpAt_execs_cons (ks_wpAt_Expr_any ?_ I.quiet hs)
  obtain ⟨oc, od, osl, fd, ar, hf, har, e0⟩ := T.fn
  obtain ⟨ccl, cdd, vs, ccs, file, tf, hcode, hvs, hfile⟩ := T.code
  obtain ⟨cl, cld, csl, hcell⟩ := T.cell
  obtain ⟨cdD, hD⟩ := Option.isSome_iff_exists.mp T.cls
  have KX : X.K.In s.heap := I.kIn
  obtain ⟨oD, hD1, hD2⟩ : ∃ oD, s.heap.get? D = some oD ∧ oD.data = .cls cdD := by
    have hD' := hD
    unfold PySem.W.clsIn at hD'
    split at hD'
    · rename_i c d cd' sl ho
      cases hD'
      exact ⟨_, KX _ _ ho, rfl⟩
    · cases hD'
  obtain ⟨mA, O, _⟩ := ins_get I.hok ea
  obtain ⟨odx, J, _⟩ := O.look
  obtain ⟨m0, hn, hl⟩ := id I.loc
  have vis : Vis X.env.scope a0 := by
    rw [hX]
    exact .inl h0
  obtain ⟨u, ru, lk⟩ := hl 0 a0 (.ref a) hN hσ vis
  obtain rfl : u = Value.ref a := ru
  have hv : m0 a0 = some (.ref a) := by
    rcases lk with ⟨_, e⟩ | ⟨q, _⟩
    · exact e
    · have q1 : scope.names.lookup a0 = some .cell ∨ scope.names.lookup a0 = some .free := by rw [hX] at q; exact q
      rw [h0] at q1
      rcases q1 with q1 | q1 <;> cases q1
  have hglob : s.heap.Ns X.env.globals X.mg := by rw [I.ok.glob]; exact I.mod.glob.keeps I.bk
  obtain ⟨mb, hb1, hb2⟩ := I.mod.blt
  have hblt : s.heap.Ns X.env.builtins mb := by rw [I.ok.blt]; exact hb1.keeps I.bk
  have hmg : X.mg "super" = none := PySem.W.mg_none_of I.mod.kin I.mod.glob T.sup
  rw [he]
  refine _root_.PySem.wpAt_bind (_root_.PySem.wpAt_mono (Q := fun ov s1 => wpAny (model X.prog X.w) X.A (do
      standAt apos.atName
      let (f, first) ← holding [ov] (getMethod ov m pl)
      callWith pos f first (backTo pos (starEach (e :: es) X.env)) []) (fun _ s2 => match Flow.next with | .next => _root_.PySem.wpAt (model X.prog X.w) X.A (.func body X.env) (execs [] X.env) (SP X pins E) X.xe s2 | f => SP X pins E f s2) X.xe s1) (E := X.xe) ?_ (fun ov s1 h1 => _root_.PySem.wpAt_of_wpAny h1) fun _ _ z => z)
  have kk : ∀ x : Str, X.env.kindOf x = scope.names.lookup x := fun x => by rw [hX]; rfl
  refine ks_wpAt_super_base (env := X.env) (fd := fd) (ar := ar) (f := f) (cc := cda) ((kk _).trans S.sup) ((kk _).trans S.cls) hm (by rw [hX]) (KX _ _ hf) rfl har (by rw [hX]) (KX _ _ hcode) rfl hvs (by rw [hP]; exact hfile) (by rw [hP]; exact T.top) ?_
  refine PySem.W.ks_loadName_global I.ok.kind ((kk _).trans S.sup) (Calls.loadGlobal_builtin hglob hmg hblt ((hb2 _ (by decide)).trans hboot) ⟨rfl, ?_⟩)
  refine wpAny_loadName_free (c := cc) I.ok.kind ((kk _).trans S.cls) (by rw [hX]; rfl) ⟨_, KX _ _ hcell, rfl⟩ ?_
  rw [e0]
  refine wpAny_loadName_local I.ok.kind ((kk _).trans h0) hn hv ?_
  refine ks_wpAny_isType_cls hD1 hD2 ⟨rfl, ?_⟩
  obtain ⟨hh, gg, dd, tt, os⟩ := s
  refine ks_wpAny_call_super hD1 hD2 J.at_ J.cls (fun c ec => ?_) (PySem.W.looks_mroIn KX M.sub) (fun h' eo kp => ?_)
  · have := J.no
    unfold PySem.W.notCls at this
    rw [ec] at this
    exact Bool.noConfusion this
  have I1 := ClX.pin_new (t' := tt) I kp (Nat.le_refl _) eo (fun v z => by cases z)
  have KX1 : X.K.In h' := I1.kIn
  refine wpAny_bind (wpAny_standAt (wpAny_bind (wpAny_holding ?_)))
  obtain ⟨cd, hcd⟩ : ∃ cd, PySem.W.clsIn X.K C = some cd := by
    cases q : PySem.W.clsIn X.K C with
    | none =>
      have z := M.at_
      unfold PySem.W.ks_superIn at z
      rw [q] at z
      cases z
    | some cd => exact ⟨cd, rfl⟩
  have hal := M.at_
  unfold PySem.W.ks_superIn at hal
  rw [hcd] at hal
  obtain ⟨of, hof, hofc⟩ : ∃ of, h'.get? g = some of ∧ of.cls = .type "function" := by
    have ht' : (X.K.lookup g).map (·.cls) = some (.type "function") := M.ty
    cases z : X.K.lookup g with
    | none => rw [z] at ht'; cases ht'
    | some of => rw [z] at ht'; exact ⟨of, KX1 _ _ z, Option.some.inj ht'⟩
  refine ks_wpAny_getMethod_super (of := of) eo (PySem.W.looks_opaque KX1 T.any) (l₀ := cd.mro) ?_ rfl KX1 hal hof hofc (PySem.W.ks_ne KX J hcd) hm ?_
  · exact fun A Q E s k q => wpAny_bind ((PySem.W.looks_clsIn KX1 hcd) A _ E s k (wpAny_pure q))
  have I2 := ClX.pin_new (t' := tt + 1) I1 (fun b o z => Heap.get?_push_of_some (PySem.W.methodObj (.ref g) (.ref a)) z) (Nat.le_refl _) (Heap.get?_push_size h' (o := PySem.W.methodObj (.ref g) (.ref a)) rfl) (fun v z => by cases z)
  have hq := ClX.pin_at I2
  have hL : h'.objs.size ≠ X.env.locals := (I2.pin (h'.objs.size, PySem.W.methodObj (.ref g) (.ref a)) (List.mem_append_right _ List.mem_cons_self)).2.2.1
  have hbase : X.base.get? h'.objs.size = none := ClX.base_none I1 (Nat.le_refl _)
  refine PySem.W.callWith_M (K := X.K) (h₀ := X.base) (first := []) (g := g) (self := .ref a) I.ok.mod.kin (news_at hL hbase hq) List.mem_cons_self M.fi ?_ hst hpl
  refine thn (ha.run pos _ _ σ H _ I2 h) fun us s3 ⟨ws, H2, I3, rv, q2⟩ => ⟨⟨ClX.pin_at I3, I3.kIn⟩, ?_⟩
  refine wpAny_call (PySem.W.method_call (ClX.pin_at I3) (codeAny_mono (run_fnR (us := .ref a :: us) (vs := .ref a :: ws) F hr (pass0' (E := E0)) I3 (.cons rfl rv) q2) fun r s4 hq4 => ?_))
  cases r with
  | error er => exact hq4
  | ok fl =>
    cases fl with
    | ret u' =>
      obtain ⟨v', H4, I4, _, q4⟩ := hq4
      exact _root_.PySem.wpAt_of_wpAny (wpAny_execs_nil ⟨σ, H4, ClX.unpin (ClX.unpin I4), q4⟩)
    | next => exact hq4.elim
    | brk => exact hq4.elim
    | cont => exact hq4.elim
/-- a method of the text whose def closes over __class__ alone -/
structure FunS (P : Program) (K : PySem.W.Frag) (x qual : Str) (st : Stmt) (f cda cc D : Addr) (a0 : Str) : Prop where
  ex : ∃ oc od osl kV doc pm an ct, K.lookup f = some ⟨oc, od, .func (PySem.W.ksFn x qual (defArgs st) (defBody st) (defScope st) .none kV doc pm an (.ref cda) ct cc), osl⟩
  cd : PySem.W.codeIn K (.ref cda) qual = true
  txt : SupTxt P K f cda cc D a0
section
variable {P : Program} {w : World} {K : PySem.W.Frag} {mg : Str → Option Value} {base : Heap}
theorem fn_sup {x qual : Str} {st : Stmt} {f cda cc D : Addr} {a0 : Str} {N ps : List Str} {k : Nat} {sp : SpN} (F : FunS P K x qual st f cda cc D a0) (S : SupScope N ps (defScope st))
    (hb : ∀ (kV doc pm : Value) (an : Option Addr) (ct : Value) (us : List Value), us.length = ps.length → bindArgs (PySem.W.ksFn x qual (defArgs st) (defBody st) (defScope st) .none kV doc pm an (.ref cda) ct cc) ⟨us, []⟩ = pure (ps.zip us))
    (len : ∀ vs H Q, sp vs H Q → vs.length = ps.length)
    (hbody : ∀ (A : Around) (outer : List Env) (s : Shared) (H : Hp) (vs : List V) (Q : VK), Room k (A.deeper (envS qual (defScope st) s.heap.objs.size f cda cc)) → sp vs H Q →
      ∃ t, PSA (cxS P w K mg base N qual (defScope st) f cda cc A outer s H) (.func (defBody st) (envS qual (defScope st) s.heap.objs.size f cda cc)) (defBody st) t ∧ t { nx := fun _ H' => Q .non H', rt := Q } (L2.start N vs) H) : FnN P w K mg base (k + 1) f sp := by
  intro A outer s H us vs Q E hr e0 r hs
  obtain ⟨oc, od, osl, kV, doc, pm, an, ct, lk⟩ := F.ex
  obtain ⟨cl, cld, csl, hcell⟩ := F.txt.cell
  have hl : us.length = ps.length := by rw [← r.length]; exact len _ _ _ hs
  have KX : K.In s.heap := e0.mod.kin.keeps fun b o e => (e0.bs b o e).1
  have lim : s.heap.NoLimit := e0.mod.nolimit.keeps fun b o e => (e0.bs b o e).1
  refine ks_codeAny_call_defAt (fd := PySem.W.ksFn x qual (defArgs st) (defBody st) (defScope st) .none kV doc pm an (.ref cda) ct cc) (body := defBody st) (binds := ps.zip us) hr.depth (KX _ _ lk) rfl lim (PySem.W.codeRec_of KX F.cd) rfl
    (.of_eq (hb kV doc pm an ct us hl)) S.nocell (fun y hy => S.par y.1 (List.of_mem_zip hy).1) (fun h0 hns hk => ?_) S.co S.gen S.kind
  obtain ⟨t, ht, hq⟩ := hbody A outer s H vs Q (hr.deeper _) hs
  have I : Inv (cxS P w K mg base N qual (defScope st) f cda cc A outer s H) [] (L2.start N vs) H { s with heap := h0, toks := s.toks + (ps.zip us).length } := inv_startS S hr.hd e0 (len _ _ _ hs) r hcell hns hk
  refine ks_wpAt_mono (ht.run [] _ _ H _ I hq) (fun fl s' hs => ?_) fun e s' hs => hs.elim
  have fin : ∀ {σ' : L2.St} {H' : Hp} {v : V} {u : Value}, Inv (cxS P w K mg base N qual (defScope st) f cda cc A outer s H) [] σ' H' s' → RelV v u → Q v H' → CE outer P w H s Q u s' :=
    fun {σ' H' v u} J rv q => ⟨v, H', J.os, J.bare, J.base, J.hok, rv, q⟩
  cases fl with
  | ret u =>
    obtain ⟨v, σ', H', J, rv, q⟩ := hs
    exact fin J rv q
  | next =>
    obtain ⟨σ', H', J, q⟩ := hs
    exact fin (v := V.non) (u := Value.none) J rfl q
  | brk =>
    obtain ⟨_, _, _, q⟩ := hs
    exact False.elim q
  | cont =>
    obtain ⟨_, _, _, q⟩ := hs
    exact False.elim q
end
end Fb
set_option maxHeartbeats 4000000
/-! Forkbeats: a dict display that begins with another dict, one key behind it. -/
namespace Fb
open PySem PySem.Spec PyProof.Rows L2
section
variable {prog : Program} {w : World} {A : Around} {E : Value → Shared → Prop} {s : Shared}
theorem dictPut_pairs {K : Type} [DecidableEq K] {knd : KeyKind prog w K} {d : Addr} {kvs : List (K × Value)} {k : K} {key v : Value} {Q : Unit → Shared → Prop} (hkey : knd.is k key = true) (hm : s.heap.DictOf knd d kvs)
    (hQ : ∀ h', h'.DictOf knd d (stored kvs k v) → Heap.SameBut d s.heap h' → Q () { s with heap := h' }) (hsz : kvs.length ≤ sizeLine) : wpAny (model prog w) A (dictPut d (knd.hash k) key v) Q E s := by
  obtain ⟨o, es, ep, ho, hc, hd, hk, hp, hn⟩ := hm
  have hes : es.size ≤ sizeLine := by
    have e1 := hp.length
    have e2 : es.toList.length = es.size := by simp
    omega
  unfold dictPut
  refine wpAny_bind (wpAny_dictFind_of hkey ho hd hk ?_)
  have hidx : (es.findIdx? fun e => knd.is k e.key) = kvs.findIdx? fun kv => decide (kv.1 = k) := by
    rw [← hp.findIdx k]; obtain ⟨l⟩ := es; simp
  cases hi : es.findIdx? fun e => knd.is k e.key with
  | some i =>
    refine wpAny_updateDict ho hd (hQ _ ⟨_, _, ep, Heap.get?_update_self _ ho (Obj.isFreed_of_dict (Obj.data_mapDict hd _)),
      hc.mapDict _, Obj.data_mapDict hd _, hk.modify _ _, ?_, ?_⟩ (Heap.SameBut.update ..))
    · rw [stored, if_pos (any_of_findIdx_some (hidx ▸ hi))]
      have hl : (es.toList.findIdx? fun e => knd.is k e.key) = some i := by rw [← hi]; obtain ⟨l⟩ := es; simp
      have := hp.modify hn hl v
      obtain ⟨l⟩ := es
      simpa using this
    · rw [stored, if_pos (any_of_findIdx_some (hidx ▸ hi)), keys_map_store]; exact hn
  | none =>
    have hnot : k ∉ kvs.map (·.1) := not_mem_of_findIdx_none (hidx ▸ hi)
    have hany : ¬ (kvs.any fun kv => decide (kv.1 = k)) = true := by
      rw [List.any_eq_true]; rintro ⟨kv, hkv, he⟩
      exact hnot (List.mem_map.mpr ⟨kv, hkv, of_decide_eq_true he⟩)
    refine wpAny_updateDictKeys (hz := hes) ho hd (hQ _ ⟨_, _, ep + 1, Heap.get?_update_self _ ho (Obj.isFreed_of_dict (Obj.data_mapDictKeys hd _)),
      hc.mapDictKeys _, Obj.data_mapDictKeys hd _, hk.push hkey _, ?_, ?_⟩ (Heap.SameBut.update ..))
    · rw [stored, if_neg hany]
      have := hp.append hkey (knd.hash k) v
      obtain ⟨l⟩ := es
      simpa using this
    · rw [stored, if_neg hany, List.map_append, List.nodup_append]
      refine ⟨hn, by simp, ?_⟩
      intro a ha b hb
      simp only [List.map_cons, List.map_nil, List.mem_singleton] at hb
      subst hb
      exact fun e => hnot (e ▸ ha)
theorem mergeMap {d o : Addr} {kvs more : List (Key × Value)} {Q : Unit → Shared → Prop} (hdo : d ≠ o) (hoS : (o == sysModules) = false) (hd : s.heap.DictOf (mixKind prog w) d kvs) (ho : s.heap.DictOf (mixKind prog w) o more)
    (hQ : ∀ h', h'.DictOf (mixKind prog w) d (merged kvs more) → Heap.SameBut d s.heap h' → Q () { s with heap := h' }) (hsz : kvs.length + more.length ≤ sizeLine) : wpAny (model prog w) A (mergeMapping d (.ref o) false) Q E s := by
  obtain ⟨od, esd, epd, hod, hcd, hdd, hkd, hpd, hnd⟩ := id hd
  obtain ⟨oo, eso, epo, hoo, hco, hdo', hko, hpo, hno⟩ := id ho
  have hlen : more.length = eso.size := by rw [← hpo.length]; simp
  have loop : ∀ (f : Nat → PUnit → Sem (ForInStep PUnit)), (∀ i (h' : Heap), h'.get? o = some oo → i < eso.size → ∀ (Q' : ForInStep PUnit → Shared → Prop), (∀ h'', h''.DictOf (mixKind prog w) d (merged kvs (more.take (i + 1))) → Heap.SameBut d s.heap h'' → h''.get? o = some oo → Q' (.yield PUnit.unit) { s with heap := h'' }) →
      h'.DictOf (mixKind prog w) d (merged kvs (more.take i)) → Heap.SameBut d s.heap h' → wpAny (model prog w) A (f i PUnit.unit) Q' E { s with heap := h' }) →
      wpAny (model prog w) A (forIn (List.range eso.size) PUnit.unit f >>= fun _ => pure ()) Q E s := by
    intro f hf
    refine wpAny_bind ?_
    rw [List.range_eq_range']
    refine wpAny_forIn_list _
      (fun rest _ s' => ∃ h' i, s' = { s with heap := h' } ∧ rest = List.range' i (eso.size - i) ∧ i ≤ eso.size ∧ h'.DictOf (mixKind prog w) d (merged kvs (more.take i)) ∧ h'.get? o = some oo ∧ Heap.SameBut d s.heap h')
      _ ?_ ?_ _ _ ⟨s.heap, 0, rfl, by simp, Nat.zero_le _, by simpa [merged] using hd, hoo, Heap.SameBut.refl _ _⟩
    · rintro x rest b s' ⟨h', i, rfl, hr, hi, hd', hoo', hs'⟩
      have hlt : i < eso.size := by
        rcases Nat.lt_or_ge i eso.size with h | h
        · exact h
        · rw [Nat.sub_eq_zero_of_le h] at hr; simp at hr
      obtain ⟨rfl, hrest⟩ : x = i ∧ rest = List.range' (i + 1) (eso.size - (i + 1)) := by
        have e : eso.size - i = (eso.size - (i + 1)) + 1 := by omega
        rw [e, List.range'_succ] at hr
        injection hr with h1 h2
        exact ⟨h1, h2⟩
      refine hf x h' hoo' hlt _ (fun h'' hd'' hs'' hoo'' => ?_) hd' hs'
      exact ⟨h'', x + 1, rfl, hrest, hlt, hd'', hoo'', hs''⟩
    · rintro b s' ⟨h', i, rfl, hr, hi, hd', hoo', hs'⟩
      have hin : i = eso.size := by
        rcases Nat.lt_or_ge i eso.size with h | h
        · have e : eso.size - i = (eso.size - (i + 1)) + 1 := by omega
          rw [e, List.range'_succ] at hr; exact nomatch hr
        · exact Nat.le_antisymm hi h
      refine wpAny_pure (hQ h' ?_ hs')
      rw [hin, ← hlen, List.take_length] at hd'
      exact hd'
  unfold mergeMapping
  refine wpAny_bind (wpAny_isInstance ho.typeIs isSubtype_dict_dict ?_)
  rw [if_pos rfl]
  refine wpAny_bind (wpAny_specialOf ho.typeIs PySem.F.slot_dict_iter.lookup (wpAny_bind (wpAny_pure ?_)))
  simp only [beq_self_eq_true, hoS, Bool.false_eq_true, if_false]
  refine wpAny_bind (wpAny_dictEntries hod hdd ?_)
  have noref : ∀ e ∈ eso.toList, ∀ a, e.key ≠ .ref a := fun e he a q => by
    obtain ⟨k, hk, _⟩ := hko e (by simpa using he)
    rcases keyIs_shape (show keyIs k e.key = true from hk) with ⟨_, _, _, z⟩ | ⟨_, _, _, z⟩ <;> (rw [q] at z; cases z)
  have main : wpAny (model prog w) A (do
                    let __do_lift ← dictEntries o
                    have size : Nat := __do_lift.size
                    let epoch ← dictEpoch o
                    forIn (List.range size) PUnit.unit fun i __s => do
                        let __do_lift ← dictEntries o
                        match __do_lift[i]? with
                          | some e => do
                            holding [e.key, e.val] (dictPut d e.hash e.key e.val)
                            let __do_lift ← dictEpoch o
                            if (__do_lift != epoch) = true then do
                                unsupported "dict.changed-during-merge"
                                pure (ForInStep.yield PUnit.unit)
                              else pure (ForInStep.yield PUnit.unit)
                          | x => do
                            unsupported "dict.changed-during-merge"
                            pure (ForInStep.yield PUnit.unit)
                    pure ()) Q E s := by
    refine wpAny_bind (wpAny_dictEntries hoo hdo' ?_)
    refine wpAny_bind (wpAny_dictEpoch hoo hdo' ?_)
    refine loop _ fun i h' hoo' hlt Q' hQ' hd' hs' => ?_
    refine wpAny_bind (wpAny_dictEntries (s := { s with heap := h' }) hoo' hdo' ?_)
    rw [Array.getElem?_eq_getElem hlt]
    obtain ⟨⟨k, v⟩, hkv⟩ : ∃ kv, more[i]? = some kv := ⟨more[i]'(by rw [hlen]; exact hlt), List.getElem?_eq_getElem _⟩
    obtain ⟨hkey, hval⟩ := hpo.get? (e := eso[i]) (by simp [hlt]) hkv
    obtain ⟨k', hkey', hhash⟩ := hko eso[i] (Array.getElem_mem hlt)
    obtain rfl : k' = k := (mixKind prog w).inj _ _ _ hkey' hkey
    show wpAny _ _ (holding [eso[i].key, eso[i].val] (dictPut d eso[i].hash eso[i].key eso[i].val) >>= _) _ _ _
    rw [hhash, hval]
    have hmx : (merged kvs (more.take i)).length ≤ sizeLine := by
      have e1 := merged_length_le kvs (more.take i)
      have e2 : (more.take i).length ≤ more.length := by rw [List.length_take]; omega
      omega
    refine wpAny_bind (wpAny_holding (dictPut_pairs (hsz := hmx) hkey hd' fun h'' hd'' hs'' => ?_))
    have hoo'' : h''.get? o = some oo := (hs''.2 o (Ne.symm hdo)).trans hoo'
    refine wpAny_bind (wpAny_dictEpoch (s := { s with heap := h'' }) hoo'' hdo' ?_)
    rw [if_neg (by simp)]
    exact wpAny_pure (hQ' h'' (by rw [merged_take_succ kvs more i (k', v) hkv]; exact hd'') (hs'.trans hs'') hoo'')
  by_cases hE : esd.isEmpty = true
  · rw [if_pos hE]
    refine wpAny_bind (wpAny_dictEntries hoo hdo' ?_)
    refine wpAny_bind ?_
    have skip : ∀ (l : List DictEntry) (f : DictEntry → PUnit → Sem (ForInStep PUnit)), (∀ e ∈ l, f e PUnit.unit = pure (.yield PUnit.unit)) → forIn l PUnit.unit f = pure PUnit.unit := by
      intro l f
      induction l with
      | nil => intro _; rfl
      | cons e r ih =>
        intro h
        rw [List.forIn_cons, h e List.mem_cons_self]
        show forIn r PUnit.unit f = _
        exact ih fun e' he => h e' (List.mem_cons_of_mem _ he)
    rw [← Array.forIn_toList, skip]
    · exact wpAny_pure main
    · intro e he
      have := noref e he
      cases q : e.key <;> first | rfl | exact absurd q (this _)
  · rw [if_neg hE]
    exact main
end
/-- {**e, k: v} -/
def tDst (te tk tv : TE) : TE := fun σ H Q => ∀ d, H d = none → te σ (upd H d (.dK [])) fun x H1 => ∃ (a : Addr) (kvs : List (Key × V)), x = .ref a ∧ H1 a = some (.dK kvs) ∧ H1 d = some (.dK []) ∧ a ≠ d ∧ kvs.length ≤ 1000 ∧
  ∀ sub, H1 sub = none → tk σ (upd (upd H1 d (.dK kvs)) sub (.dK [])) fun k H2 => tv σ H2 fun v H3 => ∃ key : Key, k = kV key ∧ H3 = upd (upd H1 d (.dK kvs)) sub (.dK []) ∧
    Q (.ref d) (upd (upd (upd H1 d (.dK kvs)) sub (.dK [(key, v)])) d (.dK (putK kvs key v)))
section
variable {X : Cx} {e ke ve : Expr} {te tk tv : TE} {pos : Pos}
theorem pe_dst (he : PE X e te) (hk : PE X ke tk) (hv : PE X ve tv) : PE X (.Dict [none, some ke] [e, ve] pos) (tDst te tk tv) := by
  refine ⟨fun pins s σ H Q I h => ?_⟩
  show wpAny _ _ (standAt pos >>= fun _ => dictDisplay [(none, eval e X.env >>= fun x => standAt pos >>= fun _ => pure x), (some (eval ke X.env), eval ve X.env >>= fun x => standAt pos >>= fun _ => pure x)]) _ _ _
  refine wpAny_bind (wpAny_standAt ?_)
  unfold dictDisplay
  simp only [List.forIn_cons, List.forIn_nil, List.isEmpty_nil, if_true, pure_bind, bind_assoc]
  refine wpAny_bind (wpAny_alloc ?_)
  have hn := I.hok.fresh (Nat.le_refl s.heap.objs.size)
  have I1 := I.laid (a := s.heap.objs.size) (o := .dK []) (h' := s.heap.push { cls := .type "dict", data := .dict #[] }) (t' := s.toks) (fun _ _ q => Heap.get?_push_of_some _ q) (Nat.le_refl _) (dk_empty s.heap I.big)
  refine wpAny_bind (wpAny_holding (wpAny_bind (thn (he.run pins _ σ _ _ I1 (h _ hn)) fun v s1 ⟨x, H1, I2, rx, a, kvs, ex, ha, hd0, had, hl, hq⟩ => wpAny_bind (wpAny_standAt (wpAny_pure ?_)))))
  subst ex
  obtain rfl : v = Value.ref a := rx
  obtain ⟨z1, hs1, vs, r1, d1⟩ := dk_of I2.hok ha
  obtain ⟨z0, hs0, vs0, r0, d0⟩ := dk_of I2.hok hd0
  cases r0
  have hvl := r1.length
  have nd1 : (vs.map (·.1)).Nodup := by obtain ⟨_, _, _, _, _, _, _, _, nd⟩ := d1; exact nd
  refine wpAny_bind (wpAny_onRaise (wpAny_tryCatch (wpAny_onRaise (wpAny_holding (mergeMap (Ne.symm had) hs1 d0 d1 (fun h2 dd2 hs2 => ?_) (by rw [List.length_nil, Nat.zero_add]; omega))))))
  rw [merged_nil_of_nodup vs nd1] at dd2
  have he2 : ∃ q, h2.get? s.heap.objs.size = some q := let ⟨q, _, _, hq, _⟩ := dd2; ⟨q, hq⟩
  have I3 := d_write (t' := s1.toks) I2 (by rw [hd0]; exact True.intro) hs2 he2 (dk_new (H' := upd H1 s.heap.objs.size (.dK kvs)) z1 hs0 r1 dd2)
  simp only [List.nil_append, List.length_singleton, List.isEmpty_cons, Bool.false_eq_true, if_false]
  rw [if_neg (by decide)]
  refine wpAny_bind (wpAny_pure (wpAny_bind (wpAny_pure ?_)))
  simp only [List.isEmpty_cons, Bool.false_eq_true, if_false]
  refine wpAny_bind (wpAny_bind (wpAny_holding ?_))
  unfold subDict
  refine wpAny_bind (wpAny_alloc ?_)
  have hn3 := I3.hok.fresh (Nat.le_refl h2.objs.size)
  have I4 := I3.laid (a := h2.objs.size) (o := .dK []) (h' := h2.push { cls := .type "dict", data := .dict #[] }) (t' := s1.toks) (fun _ _ q => Heap.get?_push_of_some _ q) (Nat.le_refl _) (dk_empty h2 I3.big)
  have gz : s.heap.objs.size ≠ h2.objs.size := by
    obtain ⟨q, hq2⟩ := he2
    exact Nat.ne_of_lt (Heap.lt_size hq2)
  have hn1 : H1 h2.objs.size = none := by
    have q := hn3
    rw [upd_ne gz.symm] at q
    exact q
  dsimp only
  refine wpAny_bind (wpAny_holding ?_)
  rw [if_pos (by rw [List.length_singleton]; decide)]
  refine wpAny_bind (evalPairs_cons (thn (hk.run pins _ σ _ _ I4 (hq _ hn1)) fun kv s5 ⟨k, H5, I5, rk, hq5⟩ => wpAny_bind (thn (hv.run pins s5 σ H5 _ I5 hq5) fun vv s6 ⟨v2, H6, I6, rv, key, ek, eH, fin⟩ => wpAny_bind (wpAny_standAt (wpAny_pure (evalPairs_nil ?_))))))
  subst ek eH
  refine wpAny_holding ?_
  have hsub : (upd (upd H1 s.heap.objs.size (.dK kvs)) h2.objs.size (.dK [])) h2.objs.size = some (.dK []) := upd_same
  obtain ⟨z5, hs5, vs5, r5, d5⟩ := dk_of I6.hok hsub
  cases r5
  refine wpAny_bind ?_
  rw [List.forIn_cons]
  dsimp only
  refine wpAny_bind (wpAny_bind (wpAny_dictSet_pairs (hsz := z5) (kV_is rk) d5 fun h7 dd7 hs7 => wpAny_pure ?_))
  dsimp only
  rw [List.forIn_nil]
  have he7 : ∃ q, h7.get? h2.objs.size = some q := let ⟨q, _, _, hq, _⟩ := dd7; ⟨q, hq⟩
  have hst : stored ([] : List (Key × Value)) key vv = [(key, vv)] := rfl
  rw [hst] at dd7
  have I7 := d_write (t' := s6.toks + 1) I6 (by rw [hsub]; exact True.intro) hs7 he7 (dk_new (H' := upd (upd (upd H1 s.heap.objs.size (.dK kvs)) h2.objs.size (.dK [])) h2.objs.size (.dK [(key, v2)])) (kvs := [(key, v2)]) (by show 1 ≤ sizeLine; decide) hs5 (.cons ⟨rfl, rv⟩ .nil) dd7)
  rw [upd_upd] at I7
  refine wpAny_pure (wpAny_pure (wpAny_pure ?_))
  have e1 : (upd (upd H1 s.heap.objs.size (.dK kvs)) h2.objs.size (.dK [(key, v2)])) s.heap.objs.size = some (.dK kvs) := by rw [upd_ne gz, upd_same]
  have e2 : (upd (upd H1 s.heap.objs.size (.dK kvs)) h2.objs.size (.dK [(key, v2)])) h2.objs.size = some (.dK [(key, v2)]) := upd_same
  obtain ⟨y1, ys1, ws, q1, f1⟩ := dk_of I7.hok e1
  obtain ⟨y2, ys2, us, q2, f2⟩ := dk_of I7.hok e2
  obtain ⟨u2, rfl, ru2⟩ : ∃ u2, us = [(key, u2)] ∧ RelV v2 u2 := by
    cases q2 with
    | @cons p q _ _ hpq t =>
      cases t
      obtain ⟨qa, qb⟩ := q
      obtain ⟨h1, h2'⟩ := hpq
      cases h1
      exact ⟨qb, rfl, h2'⟩
  have wl := q1.length
  refine wpAny_bind (wpAny_onRaise (wpAny_holding (mergeMap gz ys2 f1 f2 (fun h8 dd8 hs8 => ?_) (by rw [List.length_singleton, ← wl]; exact Nat.le_trans (Nat.succ_le_succ hl) (by decide)))))
  have he8 : ∃ q, h8.get? s.heap.objs.size = some q := let ⟨q, _, _, hq, _⟩ := dd8; ⟨q, hq⟩
  have hmg : merged ws [(key, u2)] = stored ws key u2 := rfl
  rw [hmg] at dd8
  have lp := length_putK kvs key v2
  have I8 := d_write (t' := s6.toks + 1) I7 (by rw [e1]; exact True.intro) hs8 he8 (dk_new (H' := upd (upd (upd H1 s.heap.objs.size (.dK kvs)) h2.objs.size (.dK [(key, v2)])) s.heap.objs.size (.dK (putK kvs key v2))) (Nat.le_trans lp (Nat.le_trans (Nat.succ_le_succ hl) (by decide))) ys1 (q1.put key ru2) dd8)
  refine wpAny_pure ?_
  exact wpAny_pure ⟨.ref s.heap.objs.size, _, I8, rfl, fin⟩
end
end Fb
set_option maxHeartbeats 4000000
/-! Forkbeats: a for over the generator fittings: its runs, and tuning.pitches() by the heap (the generators stand). -/
namespace Fb
open PySem PySem.Spec PyProof.Rows L2
abbrev sPit : Stmt := inC 23 4
theorem scPit : FnScope ["self"] ["self"] (defScope sPit) := ⟨rfl, rfl, rfl, by decide +kernel, rfl, by decide +kernel, by decide +kernel⟩
theorem assign2 {M : Model} {A : Around} {E : Value → Shared → Prop} {s : Shared} {env : Env} {e1 e2 : Expr} {x y : Value} {Q : Unit → Shared → Prop} (hs : (assignEach [e1, e2] env).map (·.2) = [assign e1 env, assign e2 env])
    (h : wpAny M A (assign e1 env x) (fun _ s1 => wpAny M A (assign e2 env y) (fun _ s2 => Q () s2) E s1) E s) : wpAny M A (assignInOrder ((assignEach [e1, e2] env).map (·.2)) [x, y]) Q E s := by
  rw [hs]
  exact wpAny_assignInOrder_more (wpAny_mono h (fun _ s1 h1 => wpAny_assignInOrder_more (wpAny_mono h1 (fun _ s2 h2 => wpAny_assignInOrder_none h2) fun _ _ z => z)) fun _ _ z => z)
/-- the pairs of a tuning as they stand -/
def PairsAt (h : Heap) (ts : List Value) (ps : List Value) : Prop := Paired (fun t p => ∃ a n u, t = Value.ref a ∧ IsTup h a #[.str n u, p]) ts ps
theorem PairsAt.get {h : Heap} : ∀ {ts ps : List Value} {i : Nat} {t : Value}, PairsAt h ts ps → ts[i]? = some t → ∃ p a n u, ps[i]? = some p ∧ t = Value.ref a ∧ IsTup h a #[.str n u, p]
  | _, _, 0, _, .cons ⟨a, n, u, e, q⟩ _, h => by simp at h; subst h; exact ⟨_, a, n, u, rfl, e, q⟩
  | _, _, i + 1, t, .cons _ r, h => by
    obtain ⟨p, a, n, u, e, q⟩ := PairsAt.get (i := i) (t := t) r (by simpa using h)
    exact ⟨p, a, n, u, by simpa using e, q⟩
  | _, _, _, _, .nil, h => by simp at h
section
variable {prog : Program} {w : World} {A : Around} {env : Env} {s : Shared}
/-- [pitch for name, pitch in it], it a tuple of pairs -/
theorem comp_low {iter : Expr} {scope : Scope} {cl : List (Str × Addr)} {T : Addr} {ts ps : List Value} {pa pb pt pe pos : Pos} {x1 : Nat} {Q : Value → Shared → Prop} (hh : A.handled = none)
    (hclos : closureFor scope env = pure cl) (hcell : ∀ y ∈ scope.names, y.2 ≠ .cell) (hkind : scope.kind = .function) (hnames : ∀ y ∈ scope.names, y.2 = .local → scope.names.lookup y.1 = some .local)
    (ha : scope.names.lookup ("name" : Str) = some .local) (hb : scope.names.lookup ("pitch" : Str) = some .local) (hz : ts.length ≤ sizeLine)
    (hi : ∀ {R : Value → Shared → Prop}, (∀ tk, R (.ref T) { s with toks := tk }) → wpAny (model prog w) A (eval iter env) R (fun _ _ => False) s) (hT : IsTup s.heap T ts.toArray) (hp : PairsAt s.heap ts ps)
    (hs : ∀ x, foldedSetIterable iter env x = pure x)
    (h : ∀ D h' tk, s.heap.objs.size ≤ D → h'.PlainList D ps.toArray → (∀ b o, s.heap.get? b = some o → h'.get? b = some o) → Q (.ref D) { s with heap := h', toks := tk }) :
    wpAny (model prog w) A (eval (.ListComp (.Name "pitch" pe) [⟨.Tuple [.Name "name" pa, .Name "pitch" pb] x1 pt, iter, [], 0⟩] scope pos) env) Q (fun _ _ => False) s := by
  have hTl : T < s.heap.objs.size := hT.lt
  have hlen : ts.length = ps.length := Paired.length hp
  refine ListComp_goes hclos hcell hkind hnames (hi fun tk => ?_) hs
  refine wpAny_pyIter_tuple (s := { s with toks := tk }) (show s.heap.IsTuple T ts.toArray from hT) ?_
  refine ⟨s.heap.objs.size, _, _, _, _, _, rfl, Goes.tuple hh s.heap.objs.size T (Nat.ne_of_lt hTl) ts.toArray, (by simpa using hz), ⟨⟨_, Heap.get?_push_size _ rfl, rfl, rfl⟩, ?_⟩, ?_, fun D C s3 hB => ?_⟩
  · exact (show s.heap.IsTuple T ts.toArray from hT).at fun o e => Heap.get?_push_of_some _ e
  · intro b hb
    show b < (s.heap.push _).objs.size
    rw [Heap.size_push]
    rcases List.mem_cons.mp hb with e | hb
    · rw [e]; exact Nat.lt_succ_self _
    · rw [List.mem_singleton.mp hb]; exact Nat.lt_succ_of_lt hTl
  obtain ⟨⟨h3, tk3, rfl⟩, old, nD, nC, hDC, hnm⟩ := hB
  have zz : s.heap.objs.size < (s.heap.push ({ cls := .type "tuple_iterator", data := .fields #[.ref T, .int 0 0] } : Obj)).objs.size := by rw [Heap.size_push]; exact Nat.lt_succ_self _
  have nC' : s.heap.objs.size < C := Nat.lt_of_lt_of_le zz nC
  have nD' : s.heap.objs.size < D := Nat.lt_of_lt_of_le zz nD
  have kinds : ∀ y, scope.names.lookup y = some .local → (compEnvC scope cl C env).kindOf y = some .local := fun y hy => lookup_relabel_local hy
  have hpp : ((compEnvC scope cl C env).scope.kind == .class || ((compEnvC scope cl C env).scope.kind == .module && (compEnvC scope cl C env).locals != (compEnvC scope cl C env).globals)) = false := by
    show (scope.kind == .class || (scope.kind == .module && _)) = false
    rw [hkind]; rfl
  have k3 : ∀ b o, s.heap.get? b = some o → h3.get? b = some o := fun b o e => old b o (Heap.get?_push_of_some _ e)
  refine ⟨fun i vs s1 => ∃ h' tk m, s1 = { s with heap := h', toks := tk } ∧ h'.Ns C m ∧ vs = ps.take i ∧ ∀ b o, s.heap.get? b = some o → h'.get? b = some o, ⟨h3, tk3, _, rfl, hnm, by simp, k3⟩, ?_, ?_, ?_⟩
  · rintro i vs s1 h' tk ⟨h4, tk4, m, rfl, n4, e4, k4⟩ hk' _
    refine ⟨h', tk, m, rfl, n4.at' fun o e => hk' _ o (fun hm => ?_) e, e4, fun b o e => hk' b o (fun hm => ?_) (k4 b o e)⟩
    · rcases List.mem_cons.mp hm with q | q
      · exact hDC q.symm
      · rw [List.mem_singleton.mp q] at nC'; exact Nat.lt_irrefl _ nC'
    · have hb := Heap.lt_size e
      rcases List.mem_cons.mp hm with q | q
      · rw [q] at hb; exact absurd (Nat.lt_trans hb nD') (Nat.lt_irrefl _)
      · rw [List.mem_singleton.mp q] at hb; exact Nat.lt_irrefl _ hb
  · rintro i v vs s1 hi' hy st ⟨h4, tk4, m, rfl, n4, e4, k4⟩ hpl
    have hti : ts[i]? = some v := by simpa using hy
    obtain ⟨p, a, n, u, hpi, rfl, hta⟩ := hp.get hti
    have hta4 : h4.IsTuple a #[.str n u, p] := (show s.heap.IsTuple a #[.str n u, p] from hta).at fun o e => k4 _ o e
    have hCs : C < h4.objs.size := by obtain ⟨o, _, _, ho, _⟩ := n4; exact Heap.lt_size ho
    refine wpAny_assign_Tuple (s := { s with heap := h4, toks := tk4 }) hh hta4 rfl rfl fun h5 hs5 => ?_
    have up5 : ∀ b o, h4.get? b = some o → h5.get? b = some o := fun b o e => hs5 b o (Nat.ne_of_lt (Heap.lt_size e)) e
    refine assign2 rfl (wpAny_assign_Name (wpAny_storeName_local (kinds _ ha) (n4.at' fun o e => up5 _ o e) (fun h6 n6 s6 => ?_) hpp))
    refine wpAny_assign_Name (wpAny_storeName_local (kinds _ hb) n6 (fun h7 n7 s7 => ?_) hpp)
    refine wpAny_tests_nil ?_
    show wpAny _ _ _ _ _ _
    rw [eval_Name _ _ _ (by decide)]
    refine wpAny_bind (wpAny_standAt (wpAny_loadName_local hkind (kinds _ hb) n7 (v := p) (by simp) ?_))
    have up7 : ∀ b o, b ≠ C → h4.get? b = some o → h7.get? b = some o := fun b o hb e => s7.extBut _ _ hb (s6.extBut _ _ hb (up5 b o e))
    refine ⟨⟨h7, _, _, rfl, n7, ?_, fun b o e => up7 b o (Nat.ne_of_lt (Nat.lt_trans (Heap.lt_size e) nC')) (k4 b o e)⟩, ?_, hpl.at fun o e => up7 _ o hDC e⟩
    · rw [e4]
      simp [List.take_add_one, hpi]
    · obtain ⟨⟨o1, q1, q2⟩, ⟨o2, q3, q4⟩⟩ := st
      exact ⟨⟨o1, up7 _ _ (Nat.ne_of_lt nC') q1, q2⟩, ⟨o2, up7 _ _ (Nat.ne_of_lt (Nat.lt_trans hTl nC')) q3, q4⟩⟩
  · rintro vs s1 ⟨h4, tk4, m, rfl, n4, e4, k4⟩ hpl
    have ev : vs = ps := by
      rw [e4]
      show ps.take ts.toArray.size = ps
      rw [List.size_toArray, hlen, List.take_length]
    subst ev
    exact ⟨m, n4, fun h' hs' => h D h' tk4 (Nat.le_of_lt nD') (hpl.extBut hs'.extBut hDC) fun b o e => hs'.extBut b o (Nat.ne_of_lt (Nat.lt_trans (Heap.lt_size e) nC')) (k4 b o e)⟩
end
theorem pairs_of {P : Program} {w : World} {H : Hp} {h : Heap} (ok : HOk P w H h) : ∀ {ts : List Addr} {l : List (Str × Int)} {its : List Value}, Paired (fun t (q : Str × Int) => H t = some (.tup [.str q.1, .int q.2])) ts l → Vals (ts.map V.ref) its →
    ∃ ps, PairsAt h its ps ∧ Vals (l.map fun q => V.int q.2) ps
  | [], _, _, .nil, r => by
    cases r
    exact ⟨[], .nil, .nil⟩
  | t :: ts, q :: l, _, .cons ht hts, r => by
    rw [List.map_cons] at r
    cases r with
    | @cons _ u _ us ru rus =>
      obtain ⟨ps, h1, h2⟩ := pairs_of ok hts rus
      obtain ⟨_, its', r', tt⟩ := (show ObjOk P w H h t (.tup [.str q.1, .int q.2]) from ok t _ ht)
      cases r' with
      | @cons _ v1 _ vs1 rv1 r'' =>
        cases r'' with
        | @cons _ v2 _ vs2 rv2 r3 =>
          cases r3
          obtain ⟨u1, rfl⟩ := rv1
          have eu : u = Value.ref t := ru
          exact ⟨v2 :: ps, .cons ⟨t, q.1, u1, eu, tt⟩ h1, .cons rv2 h2⟩
/-- tuning.pitches(), the generators as they are -/
theorem pit_run {X : Cx} {pins : List (Addr × Obj)} {σ : L2.St} {H : Hp} {s : Shared} {a C dx T f : Addr} {fs : List (Str × V)} {ts : List Addr} {l : List (Str × Int)} {k : Nat} (I : Inv X pins σ H s) (hfs : H a = some (.ins C dx fs)) (c : Cls X.K C) (n : NoAttr X.K C "level")
    (hl : fs.lookup ("level" : Str) = some (.ref T)) (hT : H T = some (.tup (ts.map V.ref))) (hts : Paired (fun t (q : Str × Int) => H t = some (.tup [.str q.1, .int q.2])) ts l) (hz : ts.length ≤ 1000)
    (F : FunP X.K "pitches" "Tuning.pitches" sPit f) (hmt : X.mg "tuple" = none) (hr : Room (k + 1) X.A) :
    wpAny (model X.prog X.w) X.A (call (.ref f) [.ref a]) (fun v s' => ∃ p, v = .ref p ∧ H p = none ∧ Inv X pins σ (upd H p (.tup (l.map fun q => V.int q.2))) s' ∧ s'.gens = s.gens) X.xe s := by
  obtain ⟨fd, F⟩ := F
  have e0 := I.env0
  have hb := FunD.bindsA (ps := ["self"]) F (fun _ _ _ _ _ _ us hl => match us, hl with | [_], _ => rfl) s [.ref a] rfl
  obtain ⟨oc, od, dV, kV, doc, pm, an, cdv, ct, osl, efd, lk, hcd, _, _⟩ := F.ex
  subst efd
  have KX : X.K.In s.heap := I.kIn
  have lim : s.heap.NoLimit := I.nolimit
  have r1 : Vals [V.ref a] [Value.ref a] := .cons rfl .nil
  have hkind : ∀ y ∈ (["self"] : List Str).zip [Value.ref a], (defScope sPit).names.lookup y.1 = some .local ∨ ((defScope sPit).names.lookup y.1 = some .cell ∧ ((cellsFrom (s.heap.objs.size + 1) (defScope sPit).names []).lookup y.1).isSome = true) := fun y hy => by
    rcases scPit.par y.1 (List.of_mem_zip hy).1 with q | q
    · exact .inl q
    · exact .inr ⟨q, PySem.W.cellsFrom_some _ _ _ (.inl q)⟩
  refine wpAny_call (codeAny_call_function hr.depth (KX _ _ lk) rfl scPit.co scPit.gen rfl (PySem.W.codeRec_of KX hcd) (hb _ _ _ _ ?_))
  refine wpAny_newFunctionEnv_cells scPit.kind hkind fun env he s1 x => ?_
  subst he
  refine ⟨lim.keeps x.toInCall.keep, codeAny_func ?_⟩
  have I1 : Inv (cxOf CX0 X.prog X.w X.K X.mg X.base ["self"] "Tuning.pitches" (defScope sPit) f cdv X.A X.stack s H E0) [] (L2.start ["self"] [V.ref a]) H s1 := inv_start scPit hr.hd e0 rfl r1 x
  obtain ⟨h1, tk1, es1, hk1⟩ := x.done
  obtain ⟨m, hn, hloc⟩ := id I1.loc
  obtain ⟨u0, ru0, look⟩ := hloc 0 "self" (.ref a) rfl rfl (.inl rfl)
  cases (show u0 = Value.ref a from ru0)
  have hm : m "self" = some (.ref a) := by
    rcases look with ⟨_, e⟩ | ⟨q, _⟩
    · exact e
    · rcases q with q | q <;> cases (show some NameKind.local = _ from q)
  obtain ⟨mA, O, rA, _, _, _⟩ := ins_get I1.hok hfs
  obtain ⟨uT, huT, rT⟩ := RelO.some_of (v := V.ref T) (o := mA "level") (by rw [← hl]; exact rA "level")
  cases (show uT = Value.ref T from rT)
  obtain ⟨zT, its, rits, tT⟩ := (show ObjOk X.prog X.w H s1.heap T (.tup (ts.map V.ref)) from I1.hok T _ hT)
  obtain ⟨ps, hps, rps⟩ := pairs_of I1.hok hts rits
  have hitl : its.length = ts.length := by rw [← rits.length, List.length_map]
  have hll : (l.map fun q => V.int q.2).length ≤ sizeLine := by
    have e1 := Paired.length hts
    rw [List.length_map, ← e1]
    exact Nat.le_trans hz (by decide)
  have fresh : ∀ b, s1.heap.objs.size ≤ b → H b = none := fun b hb => I1.hok.fresh hb
  refine wpAny_mono (E := fun _ _ => False) (Q := fun fl s' => ∃ (h2 : Heap) (tk : Nat), fl = .ret (.ref h2.objs.size) ∧ s' = { s1 with heap := h2.push { cls := .type "tuple", data := .seq ps.toArray }, toks := tk } ∧ (∀ b o, s1.heap.get? b = some o → h2.get? b = some o)) ?_ (fun fl s' hs => ?_) fun _ _ z => z.elim
  · refine wpAny_execs_cons (wpAny_Return_some (wpAny_Call_Name_kw (ld_blt (E := fun _ _ => False) I1 rfl hmt (by decide +kernel : bootBuiltins "tuple" = some (.type "tuple")) (PyProof.Rows.callWith_type1 (Calls.spliced_cons (comp_low hr.hd (closure_ok (fun y hy e => by exfalso; revert e; revert hy; revert y; decide +kernel)) (by decide +kernel) rfl (by decide +kernel) (by decide +kernel) (by decide +kernel) (by rw [hitl]; exact Nat.le_trans hz (by decide)) (fun {R} hR => ?_) tT hps (fun _ => rfl) (fun D h' tk nD hpl kp => Calls.spliced_nil ?_))) rfl rfl))))
    · refine attr_of rfl (wpAny_Name (wpAny_loadName_local I1.ok.kind rfl hn hm ?_))
      exact get_map I1.kIn O (c.get "level") c.hd n huT (handed_of rT) (hR _)
    · exact call_tuple_list (s := { s1 with heap := h', toks := tk }) hpl.isList (fun h2 kp2 => ⟨h2, tk, rfl, rfl, fun b o e => kp2 b o (kp b o e)⟩) (by rw [List.size_toArray, ← Paired.length hps, hitl]; exact Nat.le_trans hz (by decide))
  · obtain ⟨h2, tk, rfl, rfl, kp⟩ := hs
    subst es1
    have I2 := I.kept (h' := h2) (t' := tk) fun b o e => kp b o (hk1 b o e)
    refine ⟨h2.objs.size, rfl, I2.hok.fresh (Nat.le_refl _), ?_, rfl⟩
    exact I2.laid (t' := tk) (fun b o e => Heap.get?_push_of_some _ e) (Nat.le_refl _) (show ObjOk X.prog X.w _ _ _ (.tup _) from ⟨hll, ps, rps, IsTup.new _ _⟩)
end Fb
set_option maxHeartbeats 4000000
/-! Forkbeats: one wake of a generator, what follows it kept as it is. -/
namespace Fb
open PySem PySem.Spec PyProof.Rows L2
open Sem (wp)
section
variable {M : Model} {A : Around} {Po : End → Shared → Prop} {c : Code} {fs : List Frame} {s : Shared}
/-- from here the code comes to an end of Po -/
def SegP (M : Model) (A : Around) (Po : End → Shared → Prop) (c : Code) (t : Sem PySem.Fin) (fs : List Frame) (s : Shared) : Prop := ∀ Γ p, Γ.code = c → Γ.Woken A → ∃ e s', Runs M Γ p t fs s e s' ∧ Po e s'
theorem SegP.mono {Po' : End → Shared → Prop} {t : Sem PySem.Fin} (h : SegP M A Po c t fs s) (i : ∀ e s', Po e s' → Po' e s') : SegP M A Po' c t fs s := fun Γ p hc hΓ =>
  let ⟨e, s', hr, he⟩ := h Γ p hc hΓ
  ⟨e, s', hr, i e s' he⟩
theorem segP_wrap {α : Type} {m : Sem α} {K : α → Sem PySem.Fin} {J : Value → Sem PySem.Fin} {gd lv}
    (h : wpAny M (A.over c fs) m (fun a s' => SegP M A Po c (K a) fs s') (fun x s' => SegP M A Po c (J x) fs s') s) : SegP M A Po c (m.wrap K J gd lv) fs s := by
  rintro Γ p rfl hΓ
  exact runs_wrap_of_wp K J gd lv m (h (Γ.over fs) p (hΓ.over fs)) (fun a p' s' h' => h' Γ p' rfl hΓ) (fun x p' s' h' => h' Γ p' rfl hΓ)
theorem segP_bind {α : Type} {m : Sem α} {K : α → Sem PySem.Fin} (h : wpAny M (A.over c fs) m (fun a s' => SegP M A Po c (K a) fs s') (fun x s' => SegP M A Po c (.raise x) fs s') s) : SegP M A Po c (m >>= K) fs s := by
  rw [Sem.bind_eq_wrap']; exact segP_wrap h
theorem segP_bindw {α β : Type} {m : Sem α} {f : α → Sem β} {K : β → Sem PySem.Fin} {J : Value → Sem PySem.Fin} {gd lv}
    (h : wpAny M (A.over c fs) m (fun a s' => SegP M A Po c ((f a).wrap K J gd lv) fs s') (fun x s' => SegP M A Po c (J x) fs s') s) : SegP M A Po c ((m >>= f).wrap K J gd lv) fs s := by
  rw [Sem.bind_eq_wrap', Sem.wrap_wrap]; exact segP_wrap h
theorem segP_bind2 {α β γ : Type} {m : Sem α} {f : α → Sem β} {f2 : β → Sem γ} {K : γ → Sem PySem.Fin} {J : Value → Sem PySem.Fin} {gd lv}
    (h : wpAny M (A.over c fs) m (fun a s' => SegP M A Po c ((f a).wrap (fun b => (f2 b).wrap K J gd lv) J gd lv) fs s') (fun x s' => SegP M A Po c (J x) fs s') s) : SegP M A Po c (((m >>= f) >>= f2).wrap K J gd lv) fs s := by
  rw [Sem.bind_eq_wrap' (m >>= f) f2, Sem.wrap_wrap]; exact segP_bindw h
theorem segP_at {p' : Pos} {k : Unit → Sem PySem.Fin} (h : SegP M A Po c (k ()) fs s) : SegP M A Po c (.at p' k) fs s :=
  segP_wrap (m := standAt p') (K := k) (J := .raise) (gd := id) (lv := id) (wpAny_standAt h)
theorem segP_point {l : List Value} {k : Unit → Sem PySem.Fin} (h : SegP M A Po c (k ()) fs s) : SegP M A Po c (.point l k) fs s :=
  segP_wrap (m := point) (K := k) (J := .raise) (gd := id) (lv := fun _ => l) (wpAny_point h)
theorem segP_call {c' : Code} {h g l} {k : Result → Sem PySem.Fin} (hc : ∀ p, SegP M A Po c' (M.den c') (.ret k h g l c p [] :: fs) s) : SegP M A Po c (.call c' h g l k) fs s := by
  rintro Γ p rfl hΓ
  obtain ⟨e, s', hr, he⟩ := hc p (Γ.goto c') p rfl (hΓ.goto c')
  exact ⟨e, s', runs_call_seg hr, he⟩
theorem segP_leaf {k h g l c₁ p₁ kp} (r : Result) (hk : SegP M A Po c₁ (k r) fs s) : SegP M A Po c (leafOf r) (.ret k h g l c₁ p₁ kp :: fs) s := by
  rintro Γ p rfl hΓ
  obtain ⟨e, s', hr, he⟩ := hk (Γ.goto c₁) p₁ rfl (hΓ.goto c₁)
  exact ⟨e, s', Runs.pop r hr, he⟩
theorem segP_again {c' : Code} (hq : c'.quiet = true) (hc : SegP M A Po c' (M.den c') fs s) : SegP M A Po c (.pure (.again c')) fs s := by
  rintro Γ p rfl hΓ
  obtain ⟨e, s', hr, he⟩ := hc (Γ.goto c') p rfl (hΓ.goto c')
  exact ⟨e, s', Runs.head (c₁ := c') (fun _ _ x => .again hq x) hr, he⟩
theorem segP_end (r : Result) (h : Po (.ret r) s) : SegP M A Po c (leafOf r) [] s := by
  rintro Γ p rfl _
  exact ⟨.ret r, s, Runs.leaf r, h⟩
theorem segP_yield {v l} {k : Resume → Sem PySem.Fin} (hfs : splitAtGen fs = none) (h : ∀ p, Po (.susp v false l k c p fs) s) : SegP M A Po c (.yield v false l k) fs s := by
  rintro Γ p rfl _
  exact ⟨_, s, Runs.yield' fs hfs, h p⟩
/-- what stands at a generator's number goes on to Po -/
def WakeP (M : Model) (A : Around) (Po : End → Shared → Prop) (gs : GenState) (s : Shared) : Prop :=
  (∃ c, gs = .fresh c ∧ SegP M A Po c (M.den c) [] s) ∨ ∃ k l c p fs cl, gs = .suspended k l c p fs cl ∧ SegP M A Po c (k (.send .none)) fs s
theorem wpAny_resumeP {E : Value → Shared → Prop} {g : Nat} {gs : GenState} {l : List Value} {α : Type} {k : GenResult → Sem α} {Q : α → Shared → Prop} (hg : s.gens[g]? = some gs) (hgo : WakeP M A Po gs (s.setGen g .running))
    (hq : ∀ e s₁, Po e s₁ → e.quiet = true ∧ wpAny M A (k e.result) Q E (s₁.setGen g e.genState)) : wpAny M A (.resume g (.send .none) l k) Q E s := by
  intro Γ p hΓ
  rw [Sem.wp_resume]
  have hB : ∀ c, (Γ.wake c p).Woken A := fun c => hΓ.wake c p
  rcases hgo with ⟨c, rfl, hs⟩ | ⟨k₀, l₀, c₀, p₀, fs₀, cl, rfl, hs⟩
  · obtain ⟨e₁, s₁, hr, he⟩ := hs (Γ.wake c p) p rfl (hB c)
    obtain ⟨q1, q2⟩ := hq e₁ s₁ he
    exact ⟨_, _, by unfold Wakes; rw [hg]; exact ⟨e₁, s₁, hr, q1, rfl, rfl⟩, q2 Γ p hΓ⟩
  · obtain ⟨e₁, s₁, hr, he⟩ := hs (Γ.wake c₀ p) p₀ rfl (hB c₀)
    obtain ⟨q1, q2⟩ := hq e₁ s₁ he
    exact ⟨_, _, by unfold Wakes; rw [hg]; exact ⟨e₁, s₁, hr, q1, rfl, rfl⟩, q2 Γ p hΓ⟩
end
section
variable {P : Program} {w : World} {A : Around} {E : Value → Shared → Prop} {s : Shared}
/-- next(g) in a for: a turn or the end; no exception -/
theorem next_P {a : Addr} {g : Nat} {gs : GenState} {Po : End → Shared → Prop} {Q : Option Value → Shared → Prop} (hh : A.handled = none)
    (hl : s.heap.NoLimit) (hroom : A.depth < recursionLimit) (hg : s.heap.IsGen a g) (hgs : s.gens[g]? = some gs)
    (hgo : WakeP (model P w) A.in1 Po gs (s.setGen g .running))
    (hq : ∀ e s₁, Po e s₁ → (∃ v l k c p fs, e = .susp v false l k c p fs ∧ fs.any Frame.guarded = false ∧ Q (some v) (s₁.setGen g (.suspended k l c p fs false))) ∨
      (e = .ret (.ok (.ret .none)) ∧ ∀ h', (∀ b o, s₁.heap.get? b = some o → h'.get? b = some o) → Q none { s₁.setGen g .finished with heap := h' })) :
    wpAny (model P w) A (pyNext (.ref a)) Q E s := by
  unfold pyNext
  refine wpAny_bind (wpAny_attempt (wpAny_callSpecial?_slot (name := Str.ofString "__next__") hg.typeIs slot_gen_next
    (wpAny_call_entry slot_gen_next hg.typeIs entry_gen_next ?_ (args_gen_next _))))
  show wpAny _ A.in1 (Builtin.Generator.genWake (.ref a) (.send .none)) _ _ s
  unfold Builtin.Generator.genWake
  refine wpAny_bind (wpAny_holding (wpAny_genNumber hg (wpAny_bind (wpAny_genState hgs ?_))))
  have main : ∀ {k : GenResult → Sem PySem.Fin} {R : PySem.Fin → Shared → Prop} {E' : Value → Shared → Prop} {l : List Value},
      (∀ (v : Value) (s₁ : Shared) (gs' : GenState), Q (some v) (s₁.setGen g gs') → wpAny (model P w) A.in1 (k (.yielded v)) R E' (s₁.setGen g gs')) →
      (∀ (s₁ : Shared), (∀ h' : Heap, (∀ b o, s₁.heap.get? b = some o → h'.get? b = some o) → Q none { s₁.setGen g .finished with heap := h' }) → wpAny (model P w) A.in1 (k (.returned .none)) R E' (s₁.setGen g .finished)) →
      wpAny (model P w) A.in1 (.resume g (.send .none) l k) R E' s := fun {k R E' l} h1 h2 => by
    refine wpAny_resumeP hgs hgo fun e s₁ he => ?_
    rcases hq e s₁ he with ⟨v, l', k', c, p, fs, rfl, hf, q⟩ | ⟨rfl, q⟩
    · refine ⟨by simp [End.quiet, hf], ?_⟩
      have e2 : (End.susp v false l' k' c p fs).genState = .suspended k' l' c p fs false := by simp [End.genState, hf]
      rw [e2]
      exact h1 v s₁ _ q
    · exact ⟨rfl, h2 s₁ q⟩
  cases gs with
  | running => rcases hgo with ⟨c, e, _⟩ | ⟨_, _, _, _, _, _, e, _⟩ <;> cases e
  | finished => rcases hgo with ⟨c, e, _⟩ | ⟨_, _, _, _, _, _, e, _⟩ <;> cases e
  | _ =>
    refine wpAny_bind (wpAny_roomToWake hl hroom ?_)
    show wpAny _ A.in1 (.resume g (.send .none) [] _) _ _ s
    refine main (fun v s₁ gs' hv => ?_) (fun s₁ hp => ?_)
    · exact wpAny_pure ⟨v, rfl, wpAny_pure hv⟩
    · show wpAny _ A.in1 (newExc (.type "StopIteration") [] >>= _) _ _ _
      refine wpAny_bind ?_
      simp only [newExc, newTuple]
      refine wpAny_bind (wpAny_newObj_type ?_ (by size_fits))
      refine wpAny_bind (m := firstArgMember _ _) (wpAny_of_eq (a := Value.none) (by first | rfl | (simp only [firstArgMember]; rfl)) ?_)
      refine wpAny_newObj_type ?_ (by size_fits)
      simp only [raiseNew]
      refine wpAny_bind (wpAny_bind (wpAny_handled ?_))
      first | rw [show A.in1.handled = none from hh] | rw [hh]
      refine wpAny_throw ?_
      refine wpAny_bind (wpAny_isInstance (T := "StopIteration") (b := true) ⟨_, Heap.get?_push_size _ rfl, rfl⟩ isSubtype_stop ?_)
      exact wpAny_pure (hp _ fun b o hb => Heap.get?_push_of_some _ (Heap.get?_push_of_some _ hb))
/-! ### the list's iterator -/
theorem special_list_item {it l : Addr} {i : Nat} {items : Array Value} {x : Value} {Q : Option Value → Shared → Prop} (hit : s.heap.IsListIter it l i) (hl : s.heap.IsList l items) (hx : items[i]? = some x)
    (hQ : ∀ h', h'.IsListIter it l (i + 1) → Heap.SameBut it s.heap h' → Q (some x) { s with heap := h' }) : wpAny (model P w) A (callSpecial? (.ref it) "__next__") Q E s := by
  obtain ⟨o, ho, hc, hd⟩ := id hit
  obtain ⟨ol, hol, _, nl, hdl⟩ := hl
  refine wpAny_callSpecial?_slot (name := Str.ofString "__next__") hit.typeIs slot_listiter_next (wpAny_call_entry slot_listiter_next hit.typeIs entry_listiter_next ?_ (args_listiter_next _))
  show wpAny _ _ (field (.ref it) 0 >>= _) _ _ s
  refine wpAny_bind (wpAny_field ho hd (x := .ref l) rfl ?_)
  show wpAny _ _ (if (Value.ref l == Value.none) = true then _ else _) _ _ s
  rw [if_neg (show ¬ ((Value.ref l == Value.none) = true) from Bool.false_ne_true)]
  show wpAny _ _ (field (.ref it) 1 >>= _) _ _ s
  refine wpAny_bind (wpAny_field ho hd (x := .int i 0) rfl ?_)
  show wpAny _ _ (seqItems? (.ref l) >>= _) _ _ s
  refine wpAny_bind (wpAny_seqItems hol hdl ?_)
  simp only [Int.toNat_natCast, hx]
  refine wpAny_bind (wpAny_setField ho hd (by simp) (wpAny_pure ⟨x, rfl, hQ _ ?_ (Heap.SameBut.update ..)⟩))
  exact ⟨_, Heap.get?_update_self _ ho (Obj.isFreed_of_fields (Obj.data_mapFields hd _)), (Obj.cls_mapFields ..).trans hc, by
    rw [Obj.data_mapFields hd]; simp [rawInt]⟩
theorem special_list_end {it l : Addr} {i : Nat} {items : Array Value} {Q : Option Value → Shared → Prop} (hh : A.handled = none) (hit : s.heap.IsListIter it l i) (hl : s.heap.IsList l items) (hx : items[i]? = none)
    (hE : ∀ e h', StopX e h' → Heap.ExtBut it s.heap h' → E e { s with heap := h' }) : wpAny (model P w) A (callSpecial? (.ref it) "__next__") Q E s := by
  obtain ⟨o, ho, hc, hd⟩ := id hit
  obtain ⟨ol, hol, _, nl, hdl⟩ := hl
  refine wpAny_callSpecial?_slot (name := Str.ofString "__next__") hit.typeIs slot_listiter_next (wpAny_call_entry slot_listiter_next hit.typeIs entry_listiter_next ?_ (args_listiter_next _))
  show wpAny _ _ (field (.ref it) 0 >>= _) _ _ s
  refine wpAny_bind (wpAny_field ho hd (x := .ref l) rfl ?_)
  show wpAny _ _ (if (Value.ref l == Value.none) = true then _ else _) _ _ s
  rw [if_neg (show ¬ ((Value.ref l == Value.none) = true) from Bool.false_ne_true)]
  show wpAny _ _ (field (.ref it) 1 >>= _) _ _ s
  refine wpAny_bind (wpAny_field ho hd (x := .int i 0) rfl ?_)
  show wpAny _ _ (seqItems? (.ref l) >>= _) _ _ s
  refine wpAny_bind (wpAny_seqItems hol hdl ?_)
  simp only [Int.toNat_natCast, hx]
  refine wpAny_bind (wpAny_rule (wpAny_bind (wpAny_setField ho hd (by simp) ?_)))
  show wpAny _ _ (newExc (.type "StopIteration") [] >>= _) _ _ _
  refine wpAny_bind ?_
  simp only [newExc, newTuple]
  refine wpAny_bind (wpAny_newObj_type ?_ (by size_fits))
  refine wpAny_bind (m := firstArgMember _ _) (wpAny_of_eq (a := Value.none) (by first | rfl | (simp only [firstArgMember]; rfl)) ?_)
  refine wpAny_newObj_type ?_ (by size_fits)
  simp only [raiseNew]
  refine wpAny_bind (wpAny_handled ?_)
  first | rw [show A.in1.handled = none from hh] | rw [hh]
  refine wpAny_bind (wpAny_pure (wpAny_throw ?_))
  refine hE _ _ ⟨_, _, _, rfl, Heap.get?_push_size _ rfl, rfl, rfl, ?_⟩ (((Heap.SameBut.update ..).extBut.push _).push _)
  first
    | rfl
    | (rw [Array.getElem?_append_left (by decide)]; rfl)
    | kernel_rfl
theorem close_listiter : typeLookup (.type "list_iterator") "close" = pure none := by rw [typeLookup_type, builtinLookup_eq_fast]; kernel_rfl
/-- the iterator it over the list l, at j -/
def IterAt (h : Heap) (it l : Addr) (j : Nat) (its : Array Value) : Prop := h.IsListIter it l j ∧ h.IsList l its
/-- only it has turned -/
def OnlyIt (it : Addr) (s s' : Shared) : Prop := ∃ h' tk, s' = { s with heap := h', toks := tk } ∧ ∀ b o, b ≠ it → s.heap.get? b = some o → h'.get? b = some o
abbrev yfC (it : Addr) : Code := .builtin "proto.yield_from" ⟨[.ref it, .bool false, .none], []⟩
/-- r items are left -/
def Go (P : Program) (w : World) (A : Around) (it l : Addr) (its : Array Value) (fs : List Frame) : Nat → Nat → Shared → End → Shared → Prop
  | 0, _, s, e, s' => e = .ret (.ok (.ret .none)) ∧ OnlyIt it s s'
  | r + 1, j, s, e, s' => ∃ v lv k p, its[j]? = some v ∧ e = .susp v false lv k (yfC it) p fs ∧ OnlyIt it s s' ∧ IterAt s'.heap it l (j + 1) its ∧
    ∀ s'', IterAt s''.heap it l (j + 1) its → SegP (model P w) A (Go P w A it l its fs r (j + 1) s'') (yfC it) (k (.send .none)) fs s''
theorem den_yf' {it : Addr} : (model P w).den (yfC it) = Builtin.«proto.yield_from» ⟨[.ref it, .bool false, .none], []⟩ := by
  show (match entryFor table "proto.yield_from" with | some b => b ⟨[.ref it, .bool false, .none], []⟩ | none => unsupported ((withoutEnding? "proto.yield_from" "#data").getD "proto.yield_from")) = _
  rw [entry_yf]
theorem segP_yf {it l : Addr} {its : Array Value} {fs : List Frame} (hne : l ≠ it) (ho : (A.over (yfC it) fs).handled = none) (hsp : splitAtGen fs = none)
    (hend : ∀ s s', OnlyIt it s s' → SegP (model P w) A (fun e s'' => e = .ret (.ok (.ret .none)) ∧ OnlyIt it s s'') (yfC it) (.pure (.done (.ret .none))) fs s') :
    ∀ (r j : Nat) (s : Shared), j + r = its.size → IterAt s.heap it l j its → SegP (model P w) A (Go P w A it l its fs r j s) (yfC it) ((model P w).den (yfC it)) fs s := by
  intro r
  induction r with
  | zero =>
    intro j s hj hst
    obtain ⟨q1, q2⟩ := hst
    rw [den_yf']
    unfold Builtin.«proto.yield_from»
    try dsimp only
    refine segP_bind (wpAny_pure ?_)
    try dsimp only
    refine segP_bind (wpAny_attempt (wpAny_holding ?_))
    rw [if_neg Bool.false_ne_true, if_pos (show (Value.none == Value.none) = true from rfl)]
    refine wpAny_bind (wpAny_rule (wpAny_bind ?_))
    have hnone : its[j]? = none := by
      rw [Array.getElem?_eq_none]
      omega
    refine special_list_end ho q1 q2 hnone fun e h' hS hk => ?_
    obtain ⟨a, o, vs, rfl, hoa, hcls, hdat, h5⟩ := hS
    try dsimp only
    refine segP_bind (wpAny_endsTurn hoa hcls ?_)
    try dsimp only
    rw [if_pos rfl]
    first
      | refine segP_bind (wpAny_rule ?_)
      | (rw [if_neg Bool.false_ne_true]; refine segP_bind (wpAny_rule ?_))
      | (rw [if_neg Bool.false_ne_true]; refine segP_bind (wpAny_pure ?_); refine segP_bind (wpAny_rule ?_))
    refine segP_bind (wpAny_field hoa hdat h5 ?_)
    exact hend s _ ⟨h', s.toks, rfl, fun b o hb e => hk b o hb e⟩
  | succ r ih =>
    intro j s hj hst
    obtain ⟨q1, q2⟩ := id hst
    have hjl : j < its.size := by omega
    have hx : its[j]? = some its[j] := Array.getElem?_eq_getElem hjl
    rw [den_yf']
    unfold Builtin.«proto.yield_from»
    try dsimp only
    refine segP_bind (wpAny_pure ?_)
    try dsimp only
    refine segP_bind (wpAny_attempt (wpAny_holding ?_))
    rw [if_neg Bool.false_ne_true, if_pos (show (Value.none == Value.none) = true from rfl)]
    refine wpAny_bind (wpAny_rule (wpAny_bind ?_))
    refine special_list_item q1 q2 hx fun h' q1' hs => ?_
    obtain ⟨oi, hoi, hoc, hod⟩ := id q1'
    refine wpAny_pure ?_
    try dsimp only
    refine segP_bind (wpAny_typeOf (T := "list_iterator") ⟨oi, hoi, hoc⟩ ?_)
    try dsimp only
    first
      | (refine segP_bind (wpAny_of_eq close_listiter ?_); refine segP_bind (wpAny_pure ?_))
      | refine segP_bind (wpAny_bind (wpAny_of_eq close_listiter (wpAny_pure ?_)))
      | refine segP_bind (wpAny_of_eq close_listiter ?_)
    try dsimp only
    refine segP_bind (wpAny_sleptOver hoi hoc (by decide) ?_)
    refine segP_yield hsp fun p => ?_
    refine ⟨_, _, _, _, hx, rfl, ⟨h', s.toks, rfl, fun b o hb e => hs.extBut b o hb e⟩, ⟨q1', q2.extBut hs.extBut hne⟩, fun s'' z => ?_⟩
    obtain ⟨oj, hoj, hojc, _⟩ := id z.1
    show SegP _ _ _ _ (Builtin.Generator.sleptOver (.ref it) false >>= fun _ => _) fs s''
    refine segP_bind (wpAny_sleptOver hoj hojc (by decide) ?_)
    try dsimp only
    refine segP_bind (wpAny_pure ?_)
    exact segP_again (plainId_quiet plain_yf _) (ih (j + 1) s'' (by omega) z)
end
end Fb
set_option maxHeartbeats 4000000
/-! Forkbeats: for one in fittings(bench): found.append(one.pitches()). -/
namespace Fb
open PySem PySem.Spec PyProof.Rows L2
section
variable {X : Cx} {pins : List (Addr × Obj)} {σ : L2.St} {H : Hp} {s : Shared}
theorem Inv.regen (I : Inv X pins σ H s) {g : Array GenState} (hg : AllBare g) : Inv X pins σ H { s with gens := g } :=
  I.call' (s' := { s with gens := g }) (ch := []) rfl Un.refl I.hok hg fun b hb => by simp at hb
theorem ld_loc {A : Around} {E : Value → Shared → Prop} {i : Nat} {x : Str} {v : V} {p : Pos} {Q : Value → Shared → Prop} (I : Inv X pins σ H s) (hN : X.N[i]? = some x) (hk : X.env.scope.names.lookup x = some .local) (e : σ[i]? = some (some v))
    (hq : ∀ u, RelV v u → Q u s) (hd : (x == ("__debug__" : Str)) = false := by decide) : wpAny (model X.prog X.w) A (eval (.Name x p) X.env) Q E s := by
  obtain ⟨m, hn, hl⟩ := id I.loc
  obtain ⟨u, r, l⟩ := hl i x v hN e (.inl hk)
  rcases l with ⟨_, hm⟩ | ⟨hk', _⟩
  · exact wpAny_Name (wpAny_loadName_local I.ok.kind hk hn hm (hq u r)) hd
  · have hk2 : X.env.kindOf x = some .local := hk
    rw [hk2] at hk'
    rcases hk' with z | z <;> cases z
/-- a local stored, the generators as they are -/
theorem st_loc {A : Around} {E : Value → Shared → Prop} {i : Nat} {x : Str} {v : V} {u : Value} {p : Pos} {Q : Unit → Shared → Prop} (I : Inv X pins σ H s) (hNd : X.N.Nodup) (hN : X.N[i]? = some x) (hk : X.env.scope.names.lookup x = some .local) (r : RelV v u)
    (hq : ∀ h' tk, Inv X pins (σ.set i (some v)) H { s with heap := h', toks := tk } → Q () { s with heap := h', toks := tk }) : wpAny (model X.prog X.w) A (assign (.Name x p) X.env u) Q E s := by
  have hcls : (X.env.scope.kind == .class || (X.env.scope.kind == .module && X.env.locals != X.env.globals)) = false := by rw [I.ok.kind]; rfl
  obtain ⟨m, hn, hl⟩ := id I.loc
  have hiσ : i < σ.length := by rw [I.len]; exact (List.getElem?_eq_some_iff.mp hN).1
  have cne := I.cne
  refine wpAny_assign_Name (wpAny_storeName_local hk hn (fun h' hn' hs => ?_) hcls)
  obtain ⟨oL, _, _, hoL, _⟩ := id hn
  refine hq h' _ ⟨I.ok, I.os, I.bare, ⟨fun b o e n hb hx => ?_, fun b o e n hb hx => ?_, I.base.free, fun b o e hx => ?_, I.base.tups, I.base.frzs, I.base.tbls⟩, ⟨_, hn', fun j y v' e1 e2 e3 => ?_⟩, fun y c e => ?_, I.free, I.freeC, fun p hp => ?_, ?_, by simpa using I.len⟩
  · exact (hs.2 b (Nat.ne_of_lt (Nat.lt_of_lt_of_le (Heap.lt_size e) I.ok.above))).trans (I.base.keep b o e n hb hx)
  · obtain ⟨sl, e1⟩ := I.base.slot b o e n hb hx
    exact ⟨sl, (hs.2 b (Nat.ne_of_lt (Nat.lt_of_lt_of_le (Heap.lt_size e) I.ok.above))).trans e1⟩
  · obtain ⟨o', e1⟩ := I.base.there b o e hx
    exact ⟨o', (hs.2 b (Nat.ne_of_lt (Nat.lt_of_lt_of_le (Heap.lt_size e) I.ok.above))).trans e1⟩
  · by_cases hj : j = i
    · subst hj
      rw [hN] at e1; cases e1
      rw [List.getElem?_set_self hiσ] at e2
      cases e2
      exact ⟨u, r, .inl ⟨hk, by simp⟩⟩
    · rw [List.getElem?_set_ne (Ne.symm hj)] at e2
      obtain ⟨u', r', q⟩ := hl j y v' e1 e2 e3
      refine ⟨u', r', ?_⟩
      rcases q with ⟨k, e⟩ | ⟨k, c, e, z⟩
      · refine .inl ⟨k, ?_⟩
        have : y ≠ x := fun e => hj (nodup_ix hNd e1 (e ▸ hN))
        simp [this, e]
      · exact .inr ⟨k, c, e, z.sameBut hs (cne y c e)⟩
  · obtain ⟨w', z⟩ := I.cell y c e
    exact ⟨w', z.sameBut hs (cne y c e)⟩
  · obtain ⟨e, n, ne, nf, d⟩ := I.pin p hp
    exact ⟨(hs.2 p.1 ne).trans e, n, ne, nf, d⟩
  · intro b ob e
    refine (I.hok b ob e).stay (fun c w' hc q => (hs.2 c ?_).trans q) (fun _ q => q) fun _ _ q => q
    rintro rfl
    rcases hc with rfl | hc
    · rw [I.free] at e; cases e
    · rw [I.free] at hc; cases hc
/-- what a tuning's pitches are -/
def TunP (H : Hp) (t : Addr) (C : Addr) (l : List (Str × Int)) : Prop :=
  ∃ dx T fs ts, H t = some (.ins C dx fs) ∧ fs.lookup ("level" : Str) = some (.ref T) ∧ fs.lookup ("pitches" : Str) = none ∧ H T = some (.tup (ts.map V.ref)) ∧ Paired (fun t (q : Str × Int) => H t = some (.tup [.str q.1, .int q.2])) ts l ∧ ts.length ≤ 1000
/-- found.append(one.pitches()) -/
theorem app_run {C t l0 f : Addr} {l : List (Str × Int)} {xs : List V} {k : Nat} {p5 p6 p7 p8 p9 p10 p11 : Pos} (I : Inv X pins σ H s) (h1N : X.N[1]? = some ("_law_found" : Str)) (h2N : X.N[2]? = some ("_law_one" : Str))
    (h1k : X.env.scope.names.lookup ("_law_found" : Str) = some .local) (h2k : X.env.scope.names.lookup ("_law_one" : Str) = some .local) (e1 : σ[1]? = some (some (.ref l0))) (e2 : σ[2]? = some (some (.ref t)))
    (hl0 : H l0 = some (.lst xs)) (hx : xs.length < sizeLine) (c : Cls X.K C) (n : NoAttr X.K C "level") (mm : Meth X.K C "pitches" f) (ht : TunP H t C l)
    (F : FunP X.K "pitches" "Tuning.pitches" sPit f) (hmt : X.mg "tuple" = none) (hr : Room (k + 1) X.A) (hline : (p6.endLine == p10.line) = true)
    (hb1 : attributeBase (.Name "_law_found" p5) "append" X.env (eval (.Name "_law_found" p5) X.env) = eval (.Name "_law_found" p5) X.env)
    (hsw : swapsWith (.Call (.Attribute (.Name "_law_found" p5) "append" p6) [.Call (.Attribute (.Name "_law_one" p7) "pitches" p8) [] [] p9] [] p10) none p11.line X.env = pure false)
    {pl : Sem Bool} (htm : eval (.Call (.Attribute (.Name "_law_one" p7) "pitches" p8) [] [] p9) X.env = (do
      let ov ← eval (.Name "_law_one" p7) X.env
      standAt p8.atName
      let (f, first) ← holding [ov] (getMethod ov "pitches" pl)
      callWith p9 f first (backTo p9 (starEach [] X.env)) (backToKw p9 (keywordEach [] X.env))))
    {Q : Flow → Shared → Prop} {E : Value → Shared → Prop}
    (hq : ∀ s' p, H p = none → Inv X pins σ (upd (upd H p (.tup (l.map fun q => V.int q.2))) l0 (.lst (xs ++ [.ref p]))) s' → s'.gens = s.gens → Q .next s') :
    wpAny (model X.prog X.w) X.A (execs [.Expr (.Call (.Attribute (.Name "_law_found" p5) "append" p6) [.Call (.Attribute (.Name "_law_one" p7) "pitches" p8) [] [] p9] [] p10) p11] X.env) Q E s := by
  refine wpAny_execs_cons (wpAny_Expr_any ?_ I.quiet hsw)
  obtain ⟨dx, T, fs, ts, hfs, hlv, hno, hT, hts, hz⟩ := ht
  refine wpAny_Call_method_late hb1 (by rfl) hline rfl (ld_loc I h1N h1k e1 fun u ru => ?_)
  obtain rfl : u = Value.ref l0 := ru
  obtain ⟨zl, its0, nn, rr, hlen, hobj⟩ := I.lstM hl0
  refine ⟨"list", "list.append", PySem.F.plainAttrs_list, PySem.F.slot_list_append, PySem.F.type_list_append, ⟨_, hobj, rfl⟩, fun a ea => ?_, ?_⟩
  · cases ea; exact ⟨_, hobj, rfl⟩
  refine Calls.callWith_builtin rfl (Calls.evalArgs_plain ?_)
  refine Calls.spliced_cons ?_
  refine PySem.W.methodCall_KW (pl := pl) (ld_loc I h2N h2k e2 fun u ru => ?_) htm
  obtain rfl : u = Value.ref t := ru
  refine getmeth_ok I hfs c mm hno ?_
  refine PySem.W.callWith_K0 (first := [.ref t]) I.kIn mm.kp ?_
  have I' : Inv { X with xe := fun _ _ => False } pins σ H s := ⟨⟨I.ok.mod, I.ok.kind, I.ok.glob, I.ok.blt, I.ok.above, I.ok.inj, I.ok.has, I.ok.cab, I.ok.hd, I.ok.frames, I.ok.stk, I.ok.exf, I.ok.bs, I.ok.bsz, I.ok.noex, I.ok.exfs, I.ok.funs, I.ok.frf⟩, I.os, I.bare, I.base, I.loc, I.cell, I.free, I.freeC, I.pin, I.hok, I.len⟩
  have q := pit_run (k := k) I' hfs c n hlv hT hts hz F hmt hr
  refine wpAny_mono q (fun v s2 hv => ?_) fun _ _ z => z.elim
  obtain ⟨p, rfl, hp, I2', hg2⟩ := hv
  have I2 : Inv X pins σ (upd H p (.tup (l.map fun q => V.int q.2))) s2 := ⟨I.ok, I2'.os, I2'.bare, I2'.base, I2'.loc, I2'.cell, I2'.free, I2'.freeC, I2'.pin, I2'.hok, I2'.len⟩
  refine Calls.spliced_nil ?_
  have hne : l0 ≠ p := fun z => by rw [z, hp] at hl0; cases hl0
  have hl2 : upd H p (.tup (l.map fun q => V.int q.2)) l0 = some (.lst xs) := by rw [upd_ne hne]; exact hl0
  obtain ⟨z, its, n2, r2, hl, e⟩ := I2.lstM hl2
  refine call_meets PySem.F.slot_list_append ⟨_, e, rfl⟩ PySem.F.entry_list_append (PySem.F.args_list_append_2 _ _) (PySem.list_append l0 its.toArray n2 (.ref p) (by rw [List.size_toArray]; omega)) ⟨e, ?_⟩
  refine wpAny_execs_nil (hq _ p hp (I2.lset (its' := its ++ [Value.ref p]) hl2 e (by simp) (r2.append (.cons (show RelV (.ref p) (Value.ref p) from rfl) .nil)) ?_) hg2)
  rw [List.length_append, List.length_singleton]
  omega
end
end Fb
set_option maxHeartbeats 4000000
/-! Forkbeats: fittings(bench) called: a generator; its first wake. -/
namespace Fb
open PySem PySem.Spec PyProof.Rows L2
abbrev sFit : Stmt := top 52
theorem scFit : GScope ["bench"] ["bench"] (defScope sFit) := ⟨rfl, rfl, rfl, by decide +kernel, rfl, by decide +kernel, by decide +kernel⟩
theorem over_func' {A : Around} {body : List Stmt} {env : Env} : A.over (.func body env) [] = A.deeper env := GenW.over_func
/-- a generator at a, number gn, that sleeps before item j of its list -/
def Sleeps (P : Program) (w : World) (A : Around) (it l : Addr) (its : Array Value) (r j : Nat) (gs : GenState) : Prop :=
  ∃ k lv c p fs, gs = .suspended k lv c p fs false ∧ fs.any Frame.guarded = false ∧ ∀ s, IterAt s.heap it l j its → SegP (model P w) A (Go P w A it l its fs r j s) c (k (.send .none)) fs s
/-- the first wake: the list is made; an item is out, or there is none -/
def First (X : Cx) (A : Around) (pins : List (Addr × Obj)) (σ : L2.St) (a : Addr) (go : Obj) (R : Addr → List V → Hp → Prop) (e : End) (s3 : Shared) : Prop :=
  ∃ H1 l xs its it, Inv X pins σ H1 s3 ∧ H1 l = some (.lst xs) ∧ s3.heap.IsList l its.toArray ∧ Vals xs its ∧ R l xs H1 ∧ FpOk X pins H1 it ∧ FpOk X pins H1 a ∧ it ≠ a ∧ it ≠ l ∧ s3.heap.get? a = some go ∧
    ((xs = [] ∧ e = .ret (.ok (.ret .none))) ∨
      ∃ v lv k c p fs, its[0]? = some v ∧ e = .susp v false lv k c p fs ∧ fs.any Frame.guarded = false ∧ IterAt s3.heap it l 1 its.toArray ∧
        Sleeps X.prog X.w A it l its.toArray (its.length - 1) 1 (.suspended k lv c p fs false))
section
variable {X : Cx} {pins : List (Addr × Obj)} {σ : L2.St} {H : Hp} {s : Shared}
theorem fit_call {f g : Addr} {k : Nat} {sp : SpN} {x : V} {u : Value} {R : Addr → List V → Hp → Prop} {E : Value → Shared → Prop} (I : Inv X pins σ H s) (F : FunP X.K "fittings" "fittings" sFit f) (hm : X.mg "found_fittings" = some (.ref g)) (hk : PySem.W.keepIn X.K (.ref g) = true)
    (G : FnN X.prog X.w X.K X.mg X.base k g sp) (hr : Room (k + 2) X.A) (rx : RelV x u)
    (hsp : sp [x] H fun v H1 => ∃ l xs, v = .ref l ∧ H1 l = some (.lst xs) ∧ R l xs H1)
    {Q : Value → Shared → Prop}
    (hq : ∀ s' a gn go c, s.heap.objs.size ≤ a → Inv X pins σ H s' → (∀ h : Heap, h.get? a = some go → h.IsGen a gn) → (∀ v, go.data ≠ .cell v) → s'.heap.get? a = some go → H a = none → s'.gens[gn]? = some (.fresh c) →
      (∀ s2 : Shared, (∀ b o, s'.heap.get? b = some o → s2.heap.get? b = some o) → s2.os = s'.os → AllBare s2.gens → SegP (model X.prog X.w) X.A.in1 (First X X.A.in1 pins σ a go R) c ((model X.prog X.w).den c) [] s2) → Q (.ref a) s') :
    wpAny (model X.prog X.w) X.A (call (.ref f) [u]) Q E s := by
  obtain ⟨fd, F⟩ := F
  have e0 := I.env0
  have hb := FunD.bindsA (ps := ["bench"]) F (fun _ _ _ _ _ _ us hl => match us, hl with | [_], _ => rfl) s [u] rfl
  obtain ⟨oc, od, dV, kV, doc, pm, an, cdv, ct, osl, efd, lk, hcd, _, _⟩ := F.ex
  subst efd
  have KX : X.K.In s.heap := I.kIn
  have lim : s.heap.NoLimit := I.nolimit
  have r1 : Vals [x] [u] := .cons rx .nil
  have hkind : ∀ y ∈ (["bench"] : List Str).zip [u], (defScope sFit).names.lookup y.1 = some .local ∨ ((defScope sFit).names.lookup y.1 = some .cell ∧ ((cellsFrom (s.heap.objs.size + 1) (defScope sFit).names []).lookup y.1).isSome = true) := fun y hy => by
    rcases scFit.par y.1 (List.of_mem_zip hy).1 with q | q
    · exact .inl q
    · exact .inr ⟨q, PySem.W.cellsFrom_some _ _ _ (.inl q)⟩
  refine wpAny_call (codeAny_call_generator hr.depth (KX _ _ lk) rfl scFit.co scFit.gen rfl (PySem.W.codeRec_of KX hcd) (hb _ _ _ _ ?_))
  refine wpAny_newFunctionEnv_cells scFit.kind hkind fun env he s1 x1 => ?_
  subst he
  have lim1 : s1.heap.NoLimit := lim.keeps x1.toInCall.keep
  refine ⟨lim1, ?_⟩
  obtain ⟨h1, tk, es1, hk1⟩ := x1.done
  have os1 : s1.os = s.os := by rw [es1]
  have gen1 : s1.gens = s.gens := by rw [es1]
  have lt1 : s.heap.objs.size < s1.heap.objs.size := x1.toInCall.ns.lt
  have sz1 : s.heap.objs.size ≤ s1.heap.objs.size := Nat.le_of_lt lt1
  have kp1 : ∀ b o, s.heap.get? b = some o → s1.heap.get? b = some o := x1.toInCall.keep
  have main : ∀ (go : Obj) (nm qn : Value) (tk2 : Nat), go.cls = .type "generator" → go.data = .fields #[.int s1.gens.size 0, nm, qn] → go.slots = #[] → (∀ h : Heap, (h.push go).get? h.objs.size = some go) →
      Q (.ref s1.heap.objs.size) { s1 with gens := s1.gens.push (.fresh (.func (defBody sFit) (envOfC "fittings" (defScope sFit) s.heap.objs.size f cdv))), toks := tk2, heap := s1.heap.push go } := by
    intro go nm qn tk2 hgc hgd0 hgs hgp
    have hgen : ∀ h : Heap, h.get? s1.heap.objs.size = some go → h.IsGen s1.heap.objs.size s1.gens.size := fun h e => ⟨go, nm, qn, e, hgc, hgd0, hgs⟩
    have hpushed : (s1.heap.push go).get? s1.heap.objs.size = some go := hgp _
    have kq : ∀ b o, s.heap.get? b = some o → (s1.heap.push go).get? b = some o := fun b o e => Heap.get?_push_of_some _ (kp1 b o e)
    have bq : AllBare (s1.gens.push (.fresh (.func (defBody sFit) (envOfC "fittings" (defScope sFit) s.heap.objs.size f cdv)))) := AllBare.push (by rw [gen1]; exact e0.bare) rfl
    have Iq : Inv X pins σ H { s1 with gens := s1.gens.push (.fresh (.func (defBody sFit) (envOfC "fittings" (defScope sFit) s.heap.objs.size f cdv))), toks := tk2, heap := s1.heap.push go } :=
      I.call' (ch := []) os1 (Un.kept kq) (I.hok.kept kq) bq fun b z => by simp at z
    have hgd : ∀ v, go.data ≠ .cell v := fun v q => by rw [hgd0] at q; cases q
    refine hq _ s1.heap.objs.size s1.gens.size go _ sz1 Iq hgen hgd hpushed (I.hok.fresh sz1) (Array.getElem?_push_size ..) fun s2 hk2 hos hba => ?_
    have hr1 : Room (k + 1) X.A.in1 := hr.in1
    have e0w : Env0 X.prog X.w X.K X.mg X.base X.A.in1 X.stack s H := ⟨e0.frames, e0.mod, e0.bs, e0.bsz, e0.funs, e0.frf, e0.hok, e0.bare⟩
    have I1 : Inv (gcxOf X.prog X.w X.K X.mg X.base ["bench"] "fittings" (defScope sFit) f cdv X.A.in1 X.stack s H E0 []) [] (L2.start ["bench"] [x]) H s1 := inv_startG scFit hr1.hd e0w rfl r1 x1
    have kp2 : ∀ b o, s1.heap.get? b = some o → s2.heap.get? b = some o := fun b o e => hk2 b o (Heap.get?_push_of_some _ e)
    have I2 : Inv (gcxOf X.prog X.w X.K X.mg X.base ["bench"] "fittings" (defScope sFit) f cdv X.A.in1 X.stack s H E0 []) [] (L2.start ["bench"] [x]) H s2 :=
      I1.call' (ch := []) (show s2.os = s1.os from hos) (Un.kept kp2) (I1.hok.kept kp2) hba fun b z => by simp at z
    have hea : s2.heap.get? s1.heap.objs.size = some go := hk2 s1.heap.objs.size go hpushed
    have I3 : Inv (gcxOf X.prog X.w X.K X.mg X.base ["bench"] "fittings" (defScope sFit) f cdv X.A.in1 X.stack s H E0 [(s1.heap.objs.size, go)]) [] (L2.start ["bench"] [x]) H s2 := by
      refine Inv.pinnedG I2 fun p hp => ?_
      rw [List.append_nil] at hp
      rw [List.mem_singleton.mp hp]
      exact ⟨hea, I1.hok.fresh (Nat.le_refl _), Nat.ne_of_gt lt1, I1.nofs (Nat.le_refl _), hgd⟩
    show SegP _ _ _ _ (.point [] fun _ => ((execs (defBody sFit) _).onRaise (leaving _)) >>= _) [] s2
    refine segP_point ?_
    rw [Sem.onRaise_eq_wrap, Sem.bind_eq_wrap', Sem.wrap_wrap]
    rw [Sem.wrap_congr (execs (defBody sFit) _) _ _ (K' := fun f => .pure (.done (.ret (match f with | .ret v => v | _ => .none))))
      (H' := fun e => (leaving (envOfC "fittings" (defScope sFit) s.heap.objs.size f cdv) e).wrap (fun _ => .raise e) .raise id id) (fun f => by cases f <;> rfl)
      (fun e => by rw [Sem.bind_eq_wrap, Sem.wrap_wrap]; rfl)]
    have hov : X.A.in1.over (.func (defBody sFit) (envOfC "fittings" (defScope sFit) s.heap.objs.size f cdv)) [] = X.A.in1.deeper (envOfC "fittings" (defScope sFit) s.heap.objs.size f cdv) := GenW.over_func
    have he := pe_cal (X := gcxOf X.prog X.w X.K X.mg X.base ["bench"] "fittings" (defScope sFit) f cdv X.A.in1 X.stack s H E0 [(s1.heap.objs.size, go)]) (x := "found_fittings") (p := ⟨584, 15, 584, 29⟩) (pos := ⟨584, 15, 584, 36⟩) (by rfl) (pa_cons (pv (pos := ⟨584, 30, 584, 35⟩) 0) pa_nil)
    have hev := he.run [] s2 (L2.start ["bench"] [x]) H _ I3 ⟨sp, ⟨g, k, hm, hk, G, hr1.deeper _⟩, x, rfl, hsp⟩
    show SegP _ _ _ _ ((execs [.Expr (.YieldFrom _ ⟨584, 4, 584, 36⟩) ⟨584, 4, 584, 36⟩] _).wrap _ _ _ _) [] s2
    rw [execs_cons_wrap, exec_Expr _ _ _ (by rfl) (by rfl)]
    refine segP_at ?_
    show SegP _ _ _ _ (Sem.wrap _ _ _ _ ((eval _ _ >>= fun v => (standAt ⟨584, 4, 584, 36⟩ >>= fun _ => yieldFrom (envOfC "fittings" (defScope sFit) s.heap.objs.size f cdv) v)) >>= fun x => dropValue _ _ x)) [] s2
    refine segP_bind2 ?_
    rw [hov]
    refine wpAny_mono hev (fun v s3 hv => ?_) fun er s3 z => ?_
    rotate_left
    · refine segP_wrap ?_
      rw [hov]
      refine wpAny_mono (show wpAny (model X.prog X.w) (X.A.in1.deeper (envOfC "fittings" (defScope sFit) s.heap.objs.size f cdv)) (leaving (envOfC "fittings" (defScope sFit) s.heap.objs.size f cdv) er) (fun _ s'' => CX X.prog X.w X.stack H s E0 er s'' ∧ ∀ p ∈ [(s1.heap.objs.size, go)], s''.heap.get? p.1 = some p.2) (fun _ _ => False) s3 from z) (fun _ s'' q => ?_) fun _ s'' q => q.elim
      obtain ⟨⟨_, _, _, _, _, _, _, _, _, _, _, _, q⟩, _⟩ := q
      exact q.elim
    obtain ⟨y, H1, I4, ry, l, xs, ey, hl, hR⟩ := hv
    subst ey
    obtain rfl : v = Value.ref l := ry
    obtain ⟨zl, its, nn, rits, hlen, hobj⟩ := I4.lstM hl
    have hlist : s3.heap.IsList l its.toArray := ⟨_, hobj, rfl, nn, rfl⟩
    refine segP_at ?_
    show SegP _ _ _ _ ((yieldFrom (envOfC "fittings" (defScope sFit) s.heap.objs.size f cdv) (.ref l)).wrap _ _ _ _) [] s3
    unfold yieldFrom
    refine segP_bindw (wpAny_typeOf (T := "list") ⟨_, hobj, rfl⟩ ?_)
    rw [if_neg (show ¬ ((Value.type "list" == Value.type "coroutine") = true) from by decide)]
    refine segP_bindw (wpAny_holding ?_)
    refine wpAny_pyIter_list hlist ?_
    have hne : l ≠ s3.heap.objs.size := Nat.ne_of_lt (Heap.lt_size hobj)
    refine segP_call fun p => ?_
    refine (segP_yf (P := X.prog) (w := X.w) (l := l) (its := its.toArray) hne ?_ rfl (fun s5 s6 h56 => ?_) its.toArray.size 0 _ (Nat.zero_add _) ⟨⟨_, Heap.get?_push_size _ rfl, rfl, rfl⟩, hlist.push _⟩).mono fun e s7 hgo => ?_
    · show (X.A.in1.over (.func (defBody sFit) (envOfC "fittings" (defScope sFit) s.heap.objs.size f cdv)) []).handled = none
      rw [hov]
      exact hr1.hd
    · exact segP_leaf (.ok (.ret .none)) (segP_end (.ok (.ret .none)) ⟨rfl, h56⟩)
    · have kp3 : ∀ b o, s3.heap.get? b = some o → (s3.heap.push ({ cls := .type "list_iterator", data := .fields #[.ref l, .int 0 0] } : Obj)).get? b = some o := fun b o e => Heap.get?_push_of_some _ e
      have I5 := I4.kept (t' := s3.toks) kp3
      have hit0 : H1 s3.heap.objs.size = none := I4.hok.fresh (Nat.le_refl _)
      have hag : s3.heap.get? s1.heap.objs.size = some go := (I4.pin (s1.heap.objs.size, go) (List.mem_append_left _ (List.mem_singleton.mpr rfl))).1
      have hHa : H1 s1.heap.objs.size = none := (I4.pin (s1.heap.objs.size, go) (List.mem_append_left _ (List.mem_singleton.mpr rfl))).2.1
      have hia : s3.heap.objs.size ≠ s1.heap.objs.size := Nat.ne_of_gt (Heap.lt_size hag)
      have sz3 : s.heap.objs.size ≤ s3.heap.objs.size := I4.sz
      have back : OnlyIt s3.heap.objs.size { s3 with heap := s3.heap.push { cls := .type "list_iterator", data := .fields #[.ref l, .int 0 0] } } s7 → Inv X pins σ H1 s7 ∧ s7.heap.IsList l its.toArray ∧ s7.heap.get? s1.heap.objs.size = some go := fun ⟨h', tk, e7, k7⟩ => by
        subst e7
        have I6 := I5.turned (t' := tk) (it := s3.heap.objs.size) k7 hit0 (Nat.ne_of_gt I4.lt) (.inr I4.sz) (fun y c hy => by
          obtain ⟨v, o, ho, _⟩ := I4.cell y c hy
          exact Nat.ne_of_lt (Heap.lt_size ho)) (fun p hp => Nat.ne_of_lt (Heap.lt_size (I4.pin p hp).1))
        exact ⟨I.call' (ch := []) I6.os I6.base I6.hok I6.bare fun b z => by simp at z, (hlist.push _).at fun o e => k7 l o hne e, k7 _ _ hia.symm (kp3 _ _ hag)⟩
      have fI : FpOk X pins H1 s3.heap.objs.size := I.fpOk sz3 hit0
      have fa : FpOk X pins H1 s1.heap.objs.size := I.fpOk sz1 hHa
      cases hits : its with
      | nil =>
        subst hits
        obtain ⟨q1, q2⟩ := hgo
        obtain ⟨J1, J2, J3⟩ := back q2
        cases rits
        exact ⟨H1, l, [], [], s3.heap.objs.size, J1, hl, J2, .nil, hR, fI, fa, hia, hne.symm, J3, .inl ⟨rfl, q1⟩⟩
      | cons v0 vs =>
        subst hits
        obtain ⟨v, lv, kk, pp, hv, ee, q2, q3, q4⟩ := hgo
        obtain ⟨J1, J2, J3⟩ := back q2
        refine ⟨H1, l, xs, _, s3.heap.objs.size, J1, hl, J2, rits, hR, fI, fa, hia, hne.symm, J3, .inr ⟨v, lv, kk, _, pp, _, by simpa using hv, ee, rfl, q3, kk, lv, _, pp, _, rfl, rfl, q4⟩⟩
  exact main _ _ _ _ rfl rfl rfl fun h => Heap.get?_push_size _ rfl
end
end Fb
set_option maxHeartbeats 4000000
/-! Forkbeats: the for over the generator. -/
namespace Fb
open PySem PySem.Spec PyProof.Rows L2
theorem vals_ref : ∀ {ts : List Addr} {its : List Value}, Vals (ts.map V.ref) its → its = ts.map Value.ref
  | [], _, r => by cases r; rfl
  | t :: ts, _, r => by
    rw [List.map_cons] at r
    cases r with
    | cons r rr =>
      rw [vals_ref rr, List.map_cons]
      exact congrArg (· :: _) r
abbrev Rows1 := List (List (Str × Int))
abbrev RowP (H : Hp) (p : Addr) (row : List (Str × Int)) : Prop := H p = some (.tup (row.map fun q => V.int q.2))
structure PitTxt (X : Cx) (C : Addr) (sp : SpN) (f g fp : Addr) (k : Nat) : Prop where
  mgF : X.mg "fittings" = some (.ref f)
  kF : PySem.W.keepIn X.K (.ref f) = true
  F : FunP X.K "fittings" "fittings" sFit f
  mgG : X.mg "found_fittings" = some (.ref g)
  kG : PySem.W.keepIn X.K (.ref g) = true
  G : FnN X.prog X.w X.K X.mg X.base k g sp
  hr : Room (k + 2) X.A
  cl : Cls X.K C
  na : NoAttr X.K C "level"
  me : Meth X.K C "pitches" fp
  P : FunP X.K "pitches" "Tuning.pitches" sPit fp
  tup : X.mg "tuple" = none
def tPit (X : Cx) : TS := fun D σ H => ∃ b l0 C sp f g fp k, PitTxt X C sp f g fp k ∧ 1 ≤ k ∧ σ[0]? = some (some (V.ref b)) ∧ σ[1]? = some (some (V.ref l0)) ∧ sp [.ref b] H fun v H1 => ∃ l xs, v = .ref l ∧ H1 l = some (.lst xs) ∧ ∃ ts rows, xs = ts.map V.ref ∧
  H1 l0 = some (.lst []) ∧ l ≠ l0 ∧ Paired (fun t row => TunP H1 t C row) ts rows ∧ ts.length ≤ 1000 ∧
  ∀ σ' H2 ps, (∀ x u, x ≠ l0 → H1 x = some u → H2 x = some u) → H2 l0 = some (.lst (ps.map V.ref)) → Paired (RowP H2) ps rows → σ'[0]? = some (some (V.ref b)) → σ'[1]? = some (some (V.ref l0)) → D.nx σ' H2
theorem paired_get {α β : Type} {R : α → β → Prop} : ∀ {xs : List α} {ys : List β} {i : Nat} {x : α}, Paired R xs ys → xs[i]? = some x → ∃ y, ys[i]? = some y ∧ R x y
  | _, _, 0, _, .cons r _, h => by simp at h; subst h; exact ⟨_, rfl, r⟩
  | _, _, i + 1, x, .cons _ r, h => by
    obtain ⟨y, hy, q⟩ := paired_get (i := i) r (by simpa using h)
    exact ⟨y, by simpa using hy, q⟩
  | _, _, _, _, .nil, h => by simp at h
theorem paired_snoc {α β : Type} {R : α → β → Prop} : ∀ {xs : List α} {ys : List β} {x : α} {y : β}, Paired R xs ys → R x y → Paired R (xs ++ [x]) (ys ++ [y])
  | _, _, _, _, .nil, h => .cons h .nil
  | _, _, _, _, .cons r q, h => .cons r (paired_snoc q h)
theorem paired_imp {α β : Type} {R S : α → β → Prop} (i : ∀ x y, R x y → S x y) : ∀ {xs : List α} {ys : List β}, Paired R xs ys → Paired S xs ys
  | _, _, .nil => .nil
  | _, _, .cons r q => .cons (i _ _ r) (paired_imp i q)
section
variable {X : Cx} {pins : List (Addr × Obj)}
/-- between two wakes: j items are worked off -/
def Mid (X : Cx) (pins : List (Addr × Obj)) (b l0 a : Addr) (gn : Nat) (go : Obj) (it l : Addr) (ts : List Addr) (rows : Rows1) (H1 : Hp) (j : Nat) (s : Shared) : Prop :=
  ∃ σ H ps gs, Inv X (pins ++ [(a, go)]) σ H s ∧ IterAt s.heap it l j (ts.map Value.ref).toArray ∧ FpOk X (pins ++ [(a, go)]) H it ∧ s.gens[gn]? = some gs ∧ Sleeps X.prog X.w X.A.in1 it l (ts.map Value.ref).toArray (ts.length - j) j gs ∧
    σ[0]? = some (some (V.ref b)) ∧ σ[1]? = some (some (V.ref l0)) ∧ (∀ x u, x ≠ l0 → H1 x = some u → H x = some u) ∧ H l0 = some (.lst (ps.map V.ref)) ∧ ps.length = j ∧ Paired (RowP H) ps (rows.take j) ∧ j ≤ ts.length
theorem tunP_at {H1 H : Hp} {t C : Addr} {l0 : Addr} {row : List (Str × Int)} (h : TunP H1 t C row) (k : ∀ x u, x ≠ l0 → H1 x = some u → H x = some u) {xs : List V} (h0 : H1 l0 = some (.lst xs)) : TunP H t C row := by
  obtain ⟨dx, T, fs, ts, q1, q2, q3, q4, q5, q6⟩ := h
  refine ⟨dx, T, fs, ts, k _ _ (fun z => ?_) q1, q2, q3, k _ _ (fun z => ?_) q4, paired_imp (fun x y h => k _ _ (fun z => ?_) h) q5, q6⟩
  · rw [z, h0] at q1; cases q1
  · rw [z, h0] at q4; cases q4
  · rw [z, h0] at h; cases h
/-- one turn: the item is out, the body runs -/
theorem mid_turn {b l0 a gn go it l ts rows H1 j} {s : Shared} {t C fp : Addr} {row : List (Str × Int)} {σ : L2.St} {H : Hp} {ps : List Addr} {gs : GenState} {k : Nat} {p1 p5 p6 p7 p8 p9 p10 p11 : Pos}
    (hNd : X.N.Nodup) (h1N : X.N[1]? = some ("_law_found" : Str)) (h2N : X.N[2]? = some ("_law_one" : Str))
    (h1k : X.env.scope.names.lookup ("_law_found" : Str) = some .local) (h2k : X.env.scope.names.lookup ("_law_one" : Str) = some .local)
    (I : Inv X (pins ++ [(a, go)]) σ H s) (hit : IterAt s.heap it l (j + 1) (ts.map Value.ref).toArray) (fI : FpOk X (pins ++ [(a, go)]) H it) (hg : s.gens[gn]? = some gs) (hs : Sleeps X.prog X.w X.A.in1 it l (ts.map Value.ref).toArray (ts.length - (j + 1)) (j + 1) gs)
    (e0 : σ[0]? = some (some (V.ref b))) (e1 : σ[1]? = some (some (V.ref l0))) (hk : ∀ x u, x ≠ l0 → H1 x = some u → H x = some u) (h0 : H l0 = some (.lst (ps.map V.ref))) (h01 : H1 l0 = some (.lst [])) (hl : H1 l = some (.lst (ts.map V.ref))) (hll : l ≠ l0) (hpl : ps.length = j) (hps : Paired (RowP H) ps (rows.take j)) (hj : j < ts.length)
    (ht : ts[j]? = some t) (hrow : rows[j]? = some row) (htun : TunP H1 t C row) (hz : ts.length ≤ 1000) (hitl : it ≠ l)
    (c : Cls X.K C) (n : NoAttr X.K C "level") (mm : Meth X.K C "pitches" fp) (F : FunP X.K "pitches" "Tuning.pitches" sPit fp) (hmt : X.mg "tuple" = none) (hr : Room (k + 1) X.A) (hline : (p6.endLine == p10.line) = true)
    (hb1 : attributeBase (.Name "_law_found" p5) "append" X.env (eval (.Name "_law_found" p5) X.env) = eval (.Name "_law_found" p5) X.env)
    (hsw : swapsWith (.Call (.Attribute (.Name "_law_found" p5) "append" p6) [.Call (.Attribute (.Name "_law_one" p7) "pitches" p8) [] [] p9] [] p10) none p11.line X.env = pure false)
    {pl : Sem Bool} (htm : eval (.Call (.Attribute (.Name "_law_one" p7) "pitches" p8) [] [] p9) X.env = (do
      let ov ← eval (.Name "_law_one" p7) X.env
      standAt p8.atName
      let (f, first) ← holding [ov] (getMethod ov "pitches" pl)
      callWith p9 f first (backTo p9 (starEach [] X.env)) (backToKw p9 (keywordEach [] X.env))))
    {Q : Flow → Shared → Prop} {E E' : Value → Shared → Prop} (hq : ∀ s', Mid X pins b l0 a gn go it l ts rows H1 (j + 1) s' → Q .next s') :
    wpAny (model X.prog X.w) X.A (assign (.Name "_law_one" p1) X.env (.ref t)) (fun _ s2 => wpAny (model X.prog X.w) X.A (execs [.Expr (.Call (.Attribute (.Name "_law_found" p5) "append" p6) [.Call (.Attribute (.Name "_law_one" p7) "pitches" p8) [] [] p9] [] p10) p11] X.env) Q E s2) E' s := by
  obtain ⟨⟨oit, ho, hoc, hod⟩, hlist⟩ := id hit
  obtain ⟨f1, f2, f3, f4, f5, f6⟩ := id fI
  have Ip : Inv X ((pins ++ [(a, go)]) ++ [(it, oit)]) σ H s := I.pins_of fun p hp => by
    rcases List.mem_append.mp hp with z | z
    · exact I.pin p (List.mem_append_right _ z)
    · rw [List.mem_singleton.mp z]
      exact ⟨ho, f1, f2, f3, fun v q => by rw [hod] at q; cases q⟩
  refine st_loc Ip hNd h2N h2k (show RelV (.ref t) (Value.ref t) from rfl) fun h' tk Ia => ?_
  have hiσ : 2 < σ.length := by rw [I.len]; exact (List.getElem?_eq_some_iff.mp h2N).1
  refine app_run (xs := ps.map V.ref) (l := row) (t := t) (C := C) Ia h1N h2N h1k h2k (by rw [List.getElem?_set_ne (by decide)]; exact e1) (by rw [List.getElem?_set_self hiσ]) h0 ?_ c n mm (tunP_at htun hk h01) F hmt hr hline hb1 hsw htm fun s' p hp I' hg' => ?_
  · rw [List.length_map, hpl]
    exact Nat.lt_of_lt_of_le hj (Nat.le_trans hz (by decide))
  have hpl0 : p ≠ l0 := fun z => by rw [z, h0] at hp; cases hp
  have hxp : ∀ x u, H x = some u → x ≠ p := fun x u e z => by rw [z, hp] at e; cases e
  have hitp : it ≠ l0 := fun z => by rw [z, h0] at f1; cases f1
  have pit := I'.pin (it, oit) (List.mem_append_right _ (List.mem_append_right _ (List.mem_singleton.mpr rfl)))
  have I2 : Inv X (pins ++ [(a, go)]) (σ.set 2 (some (.ref t))) (upd (upd H p (.tup (row.map fun q => V.int q.2))) l0 (.lst (ps.map V.ref ++ [.ref p]))) s' := I'.pins_of fun q hq => I'.pin q (List.mem_append_right _ (List.mem_append_left _ hq))
  have keep : ∀ x u, x ≠ l0 → H x = some u → upd (upd H p (.tup (row.map fun q => V.int q.2))) l0 (.lst (ps.map V.ref ++ [.ref p])) x = some u := fun x u hx e => by
    rw [upd_ne hx, upd_ne (hxp x u e)]; exact e
  have hl2 := keep l _ hll (hk l _ hll hl)
  obtain ⟨zl, its, nn, rits, hlen, hobj⟩ := I2.lstM hl2
  have ei := vals_ref rits
  subst ei
  refine hq s' ⟨σ.set 2 (some (.ref t)), _, ps ++ [p], gs, I2, ⟨⟨oit, pit.1, hoc, hod⟩, ⟨_, hobj, rfl, nn, rfl⟩⟩, ⟨pit.2.1, f2, f3, f4, f5, f6⟩, by rw [hg']; exact hg, hs, ?_, ?_, fun x u hx e => keep x u hx (hk x u hx e), ?_, ?_, ?_, hj⟩
  · rw [List.getElem?_set_ne (by decide)]; exact e0
  · rw [List.getElem?_set_ne (by decide)]; exact e1
  · rw [upd_same, List.map_append]; rfl
  · rw [List.length_append, hpl]; rfl
  · rw [List.take_add_one, hrow]
    refine paired_snoc (paired_imp (fun x y h => keep x _ (fun z => ?_) h) hps) ?_
    · have h : H x = some (.tup (y.map fun q => V.int q.2)) := h
      rw [z, h0] at h; cases h
    · show upd (upd H p _) l0 _ p = _
      rw [upd_ne hpl0, upd_same]
theorem fpOk_pin {H : Hp} {b a : Addr} {go : Obj} (h : FpOk X pins H b) (ne : a ≠ b) : FpOk X (pins ++ [(a, go)]) H b := by
  obtain ⟨h1, h2, h3, h4, h5, h6⟩ := h
  refine ⟨h1, h2, h3, h4, h5, fun p hp => ?_⟩
  rcases List.mem_append.mp hp with z | z
  · exact h6 p (List.mem_append_left _ z)
  · rcases List.mem_append.mp z with z | z
    · exact h6 p (List.mem_append_right _ z)
    · rw [List.mem_singleton.mp z]; exact ne
/-- for one in fittings(bench): found.append(one.pitches()) -/
theorem ps_pit {p1 p2 p3 p4 p5 p6 p7 p8 p9 p10 p11 p12 : Pos} (hp : PassesOwn (model X.prog X.w) X.A X.env X.xe)
    (hNd : X.N.Nodup) (h0N : X.N[0]? = some ("_law_bench_here" : Str)) (h1N : X.N[1]? = some ("_law_found" : Str)) (h2N : X.N[2]? = some ("_law_one" : Str))
    (h0k : X.env.scope.names.lookup ("_law_bench_here" : Str) = some .local) (h1k : X.env.scope.names.lookup ("_law_found" : Str) = some .local) (h2k : X.env.scope.names.lookup ("_law_one" : Str) = some .local)
    (hgF : Gl X "fittings") (hline : (p6.endLine == p10.line) = true)
    (hb1 : attributeBase (.Name "_law_found" p5) "append" X.env (eval (.Name "_law_found" p5) X.env) = eval (.Name "_law_found" p5) X.env)
    (hsw : swapsWith (.Call (.Attribute (.Name "_law_found" p5) "append" p6) [.Call (.Attribute (.Name "_law_one" p7) "pitches" p8) [] [] p9] [] p10) none p11.line X.env = pure false)
    {pl : Sem Bool} (htm : eval (.Call (.Attribute (.Name "_law_one" p7) "pitches" p8) [] [] p9) X.env = (do
      let ov ← eval (.Name "_law_one" p7) X.env
      standAt p8.atName
      let (f, first) ← holding [ov] (getMethod ov "pitches" pl)
      callWith p9 f first (backTo p9 (starEach [] X.env)) (backToKw p9 (keywordEach [] X.env))))
    (hfs : ∀ x, foldedSetIterable (.Call (.Name "fittings" p2) [.Name "_law_bench_here" p3] [] p4) X.env x = pure x) :
    PS X (.For (.Name "_law_one" p1) (.Call (.Name "fittings" p2) [.Name "_law_bench_here" p3] [] p4) [.Expr (.Call (.Attribute (.Name "_law_found" p5) "append" p6) [.Call (.Attribute (.Name "_law_one" p7) "pitches" p8) [] [] p9] [] p10) p11] [] p12) (tPit X) := by
  refine ⟨fun pins s σ H D I h => ?_⟩
  obtain ⟨b, l0, C, sp, f, g, fp, k, T, hk1, e0, e1, hsp⟩ := h
  have ha : PA X [.Name "_law_bench_here" p3] _ := pa_cons (pe_var (pos := p3) h0N (.inl h0k)) pa_nil
  have hh : X.A.handled = none := T.hr.hd
  refine wpAny_For ?_ hfs
  refine wpAny_Call_Name_kw (ld_glob I hgF T.mgF ?_ (by decide))
  refine PySem.W.callWith_K (h₀ := X.base) I.ok.mod.kin T.kF (thn (ha.run p4 pins s σ H (fun vs H1 => vs = [.ref b] ∧ H1 = H) I ⟨.ref b, e0, rfl, rfl⟩) fun us s1 ⟨vs, H1, I1, r, e2, e3⟩ => ⟨I1.kIn, ?_⟩) (by rfl) (by rfl)
  subst e2 e3
  cases r with
  | @cons _ u _ _ ru rr =>
  cases rr
  refine fit_call (R := fun l xs H1 => ∃ ts rows, xs = ts.map V.ref ∧ H1 l0 = some (.lst []) ∧ l ≠ l0 ∧ Paired (fun t row => TunP H1 t C row) ts rows ∧ ts.length ≤ 1000 ∧
    ∀ σ' H2 ps, (∀ x u, x ≠ l0 → H1 x = some u → H2 x = some u) → H2 l0 = some (.lst (ps.map V.ref)) → Paired (RowP H2) ps rows → σ'[0]? = some (some (V.ref b)) → σ'[1]? = some (some (V.ref l0)) → D.nx σ' H2) I1 T.F T.mgG T.kG T.G T.hr ru ?_ fun s' a gn go c ha1 I' hgen hgd hgo hHa hgs hwake => ?_
  · exact hsp
  · refine wpAny_pyIter_gen (hgen _ hgo) ?_
    have fa : FpOk X pins H1 a := I1.fpOk ha1 hHa
    have Ia : Inv X (pins ++ [(a, go)]) σ H1 s' := I'.pins_of fun p hp => by
      rcases List.mem_append.mp hp with z | z
      · exact I'.pin p (List.mem_append_right _ z)
      · rw [List.mem_singleton.mp z]
        exact ⟨hgo, hHa, fa.2.1, fa.2.2.1, hgd⟩
    refine codeAny_forLoop_any (fun n s2 => (n = 1001 ∧ s2 = s') ∨ ∃ it l ts rows H1 j, n + j = ts.length ∧ H1 l = some (.lst (ts.map V.ref)) ∧ it ≠ l ∧ H1 l0 = some (.lst []) ∧ l ≠ l0 ∧ Paired (fun t row => TunP H1 t C row) ts rows ∧ ts.length ≤ 1000 ∧
      (∀ σ' H2 ps, (∀ x u, x ≠ l0 → H1 x = some u → H2 x = some u) → H2 l0 = some (.lst (ps.map V.ref)) → Paired (RowP H2) ps rows → σ'[0]? = some (some (V.ref b)) → σ'[1]? = some (some (V.ref l0)) → D.nx σ' H2) ∧ Mid X pins b l0 a gn go it l ts rows H1 j s2) ?_ 1001 (.inl ⟨rfl, rfl⟩)
    rintro n s3 (⟨rfl, rfl⟩ | ⟨it, l, ts, rows, H3, j, hn, hl, hitl, h01, hll, htun, hz, hfin, hm⟩)
    · have hgl : gn < s3.gens.size := (Array.getElem?_eq_some_iff.mp hgs).1
      refine GenW.wpAny_gsz (n := gn + 1) hgl (next_P hh I'.nolimit T.hr.depth (hgen _ hgo) hgs (.inl ⟨c, rfl, hwake _ (fun _ _ e => e) rfl (allBare_setGen I'.bare rfl)⟩) fun e s4 hf => ?_)
      obtain ⟨H4, l, xs, its, it, I4, hl, hlist, rits, ⟨ts, rows, exs, h01, hll, htun, hz, hfin⟩, fI, fA, hia, hil, hag, hcase⟩ := hf
      subst exs
      have ei := vals_ref rits
      subst ei
      rcases hcase with ⟨ex, rfl⟩ | ⟨v, lv, kk, c', p', fs, hv, rfl, hgq, hiter, hsl⟩
      · right
        refine ⟨rfl, fun h' hk' _ => ?_⟩
        have ets : ts = [] := by simpa using ex
        subst ets
        cases htun
        refine wpAny_execs_nil ⟨σ, H4, Inv.regen (I4.kept (t' := s4.toks) hk') (allBare_setGen I4.bare rfl), hfin σ H4 [] (fun _ _ _ e => e) h01 .nil e0 e1⟩
      · left
        refine ⟨v, lv, kk, c', p', fs, rfl, hgq, fun hsz => ?_⟩
        have hsz1 : gn < s4.gens.size := by
          have q : (s4.setGen gn (.suspended kk lv c' p' fs false)).gens.size = s4.gens.size := GenW.setGen_size _ _ _
          have hsz' : gn + 1 ≤ (s4.setGen gn (.suspended kk lv c' p' fs false)).gens.size := hsz
          omega
        refine wpAny_pure ?_
        obtain ⟨t, ht, ev⟩ : ∃ t, ts[0]? = some t ∧ v = .ref t := by
          rw [List.getElem?_map] at hv
          cases e : ts[0]? with
          | none => rw [e] at hv; cases hv
          | some t => rw [e] at hv; cases hv; exact ⟨t, rfl, rfl⟩
        subst ev
        obtain ⟨row, hrow, htr⟩ := paired_get htun ht
        have I5 : Inv X (pins ++ [(a, go)]) σ H4 (s4.setGen gn (.suspended kk lv c' p' fs false)) := Inv.regen (I4.pins_of fun p hp => by
          rcases List.mem_append.mp hp with z | z
          · exact I4.pin p (List.mem_append_right _ z)
          · rw [List.mem_singleton.mp z]
            exact ⟨hag, fA.1, fA.2.1, fA.2.2.1, hgd⟩) (allBare_setGen I4.bare rfl)
        have hlt : 0 < ts.length := (List.getElem?_eq_some_iff.mp ht).1
        refine mid_turn (ps := []) (rows := rows) (j := 0) hNd h1N h2N h1k h2k I5 hiter (fpOk_pin fI hia.symm) (setGen_at hsz1) (by rw [List.length_map] at hsl; exact hsl) e0 e1 (fun _ _ _ e => e) h01 h01 hl hll rfl (by rw [List.take_zero]; exact .nil) hlt ht hrow htr hz hil T.cl T.na T.me T.P T.tup (k := 0) (T.hr.mono (by omega)) hline hb1 hsw htm fun s6 hmid => ?_
        exact ⟨ts.length - 1, by omega, .inr ⟨it, l, ts, rows, H4, 1, by omega, hl, hil, h01, hll, htun, hz, hfin, hmid⟩⟩
    · obtain ⟨σ2, H2, ps, gs, I2, hit, fI, hg, hsl, e0', e1', hk, h0, hpl, hps, hj⟩ := hm
      obtain ⟨kk, lv, c', p', fs, rfl, hgq, hgo2⟩ := hsl
      have hgl : gn < s3.gens.size := (Array.getElem?_eq_some_iff.mp hg).1
      have hpa := I2.pin (a, go) (List.mem_append_right _ (List.mem_append_right _ (List.mem_singleton.mpr rfl)))
      obtain ⟨f1, f2, f3, f4, f5, f6⟩ := id fI
      have turn : ∀ {s4 : Shared}, OnlyIt it (s3.setGen gn .running) s4 → Inv X (pins ++ [(a, go)]) σ2 H2 s4 ∧ gn < s4.gens.size := fun {s4} ⟨h', tk, e4, k4⟩ => by
        subst e4
        refine ⟨(Inv.regen (g := (s3.setGen gn .running).gens) I2 (allBare_setGen I2.bare rfl)).turned (t' := tk) k4 f1 f2 f4 f5 f6, ?_⟩
        show gn < (s3.setGen gn .running).gens.size
        rw [GenW.setGen_size]; exact hgl
      refine next_P hh I2.nolimit T.hr.depth (hgen _ hpa.1) hg (.inr ⟨kk, lv, c', p', fs, false, rfl, hgo2 _ hit⟩) fun e s4 hgo' => ?_
      cases hr : ts.length - j with
      | zero =>
        rw [hr] at hgo'
        obtain ⟨rfl, ho⟩ := hgo'
        right
        obtain ⟨I4, _⟩ := turn ho
        refine ⟨rfl, fun h' hk' => ?_⟩
        have hjl : j = rows.length := by have := Paired.length htun; omega
        rw [hjl, List.take_length] at hps
        exact wpAny_execs_nil ⟨σ2, H2, Inv.regen ((I4.kept (t' := s4.toks) hk').pins_of fun p hp => (I4.kept (t' := s4.toks) hk').pin p (List.mem_append_right _ (List.mem_append_left _ hp))) (allBare_setGen I4.bare rfl), hfin σ2 H2 ps hk h0 hps e0' e1'⟩
      | succ r =>
        rw [hr] at hgo'
        obtain ⟨v, lv2, kk2, p2', hv, rfl, ho, hiter, hgo3⟩ := hgo'
        left
        obtain ⟨I4, hsz1⟩ := turn ho
        refine ⟨v, lv2, kk2, _, p2', fs, rfl, hgq, ?_⟩
        refine wpAny_pure ?_
        obtain ⟨t, ht, ev⟩ : ∃ t, ts[j]? = some t ∧ v = .ref t := by
          have hv2 : (ts.map Value.ref)[j]? = some v := by simpa using hv
          rw [List.getElem?_map] at hv2
          cases e : ts[j]? with
          | none => rw [e] at hv2; cases hv2
          | some t => rw [e] at hv2; cases hv2; exact ⟨t, rfl, rfl⟩
        subst ev
        obtain ⟨row, hrow, htr⟩ := paired_get htun ht
        have hlt : j < ts.length := (List.getElem?_eq_some_iff.mp ht).1
        have e1r : r = ts.length - (j + 1) := by omega
        refine mid_turn (ps := ps) (rows := rows) (j := j) (H1 := H3) hNd h1N h2N h1k h2k (Inv.regen I4 (allBare_setGen I4.bare rfl)) hiter fI (setGen_at hsz1) ⟨kk2, lv2, _, p2', fs, rfl, hgq, fun s hs => ?_⟩ e0' e1' hk h0 h01 hl hll hpl hps hlt ht hrow htr hz hitl T.cl T.na T.me T.P T.tup (k := 0) (T.hr.mono (by omega)) hline hb1 hsw htm fun s6 hmid => ?_
        · rw [← e1r]; exact hgo3 s hs
        · exact ⟨ts.length - (j + 1), by omega, .inr ⟨it, l, ts, rows, H3, j + 1, by omega, hl, hitl, h01, hll, htun, hz, hfin, hmid⟩⟩
end
end Fb
set_option maxHeartbeats 4000000
/-! Forkbeats: sorted of rows, of lists of ints; set(list of ints). -/
namespace Fb
open PySem PySem.Spec PyProof.Rows L2
section
variable {P : Program} {w : World} {A : Around} {E : Value → Shared → Prop} {s : Shared}
theorem call_set_lstI {l : Addr} {items : Array Value} (ns : List Int) {Q : Value → Shared → Prop} (hh : A.handled = none) (hl : s.heap.IsList l items) (hit : IntsAre items.toList ns) (hb : ns.length + 1 < scanBound)
    (h : ∀ (h' : Heap) (tk c : Nat), SetR w h' s.heap.objs.size (fun j => decide (j ∈ ns)) c → c ≤ ns.length → (∀ b o, s.heap.get? b = some o → h'.get? b = some o) → Q (.ref s.heap.objs.size) { s with heap := h', toks := tk }) :
    wpAny (model P w) A (call (.type "set") [.ref l]) Q E s := by
  have hisz : items.size = ns.length := by
    have q := IntsAre.length hit
    rw [Array.length_toList] at q
    exact q
  obtain ⟨c, tl, hmro⟩ := PySem.F.called_set.mro
  have hmade := PySem.F.called_set.made
  have hsub := PySem.F.called_set.sub
  refine wpAny_call (codeAny_of_tree ?_)
  show wpAny _ _ (callAny (.type "set") _) _ _ _
  refine wpAny_pure ⟨Code.quiet_builtin _ (by decide +kernel), codeAny_builtin PySem.F.entry_type_call ?_⟩
  rw [Around.under_plain (weight_type_call_type "set" [.ref l] []) rfl]
  have h1 := PySem.F.called_set.notType
  have h2 := PySem.F.called_set.canCreate
  have hct := PySem.F.typeCall_set_1 (.ref l)
  repeat (any_goals (first | assumption | wp_step))
  refine codeAny_mono (code_set_led1 (.ref l) (E := E) (Q₁ := fun obj s₁ => obj = .ref s.heap.objs.size ∧ s₁ = { s with heap := s.heap.push { cls := .type "set", dict := none, data := .set #[] 0 (.fresh 0 0 (!w.params.followText "set-order")) } }) ⟨rfl, rfl⟩) fun r s₁ hr => ?_
  cases r with
  | error e => exact hr
  | ok fl =>
    cases fl with
    | ret obj =>
      obtain ⟨rfl, rfl⟩ := hr
      have hS : (s.heap.push { cls := .type "set", dict := none, data := .set #[] 0 (.fresh 0 0 (!w.params.followText "set-order")) }).get? s.heap.objs.size = some { cls := .type "set", dict := none, data := .set #[] 0 (.fresh 0 0 (!w.params.followText "set-order")) } := Heap.get?_push_size _ rfl
      have hT : Shared.TypeIs { s with heap := s.heap.push { cls := .type "set", dict := none, data := .set #[] 0 (.fresh 0 0 (!w.params.followText "set-order")) } } (.ref s.heap.objs.size) "set" := ⟨_, hS, rfl⟩
      have hli := PySem.F.called_set.init.lookup
      have hbi := PySem.F.called_set.init.bind (.ref s.heap.objs.size)
      repeat (any_goals (first | assumption | wp_step))
      refine codeAny_mono (codeAny_call_builtin (R := wants (fun r s₂ => r = .none ∧ ∃ h' tk c, s₂ = { s with heap := h', toks := tk } ∧ SetR w h' s.heap.objs.size (fun j => decide (j ∈ ns)) c ∧ c ≤ ns.length ∧
          (∀ b o, s.heap.get? b = some o → h'.get? b = some o)) E) PySem.F.called_set.init.plain PySem.F.entry_set_init (check_set_init_1 hT ?_)) fun r₂ s₂ hr₂ => ?_
      · obtain ⟨ol, hol, hcl, nl, hdl⟩ := hl
        obtain ⟨ocls, odict, odata, oslots⟩ := ol
        simp only at hcl hdl
        subst hcl; subst hdl
        have hol' : (s.heap.push { cls := .type "set", dict := none, data := .set #[] 0 (.fresh 0 0 (!w.params.followText "set-order")) }).get? l = some { cls := .type "list", dict := odict, data := .seq items nl, slots := oslots } := Heap.get?_push_of_some _ hol
        have hsls := PySem.F.sub_list_set
        have hslf := PySem.F.sub_list_frozenset
        have hne : (Value.type "list" == Value.type "dict") = false := by decide
        have hl1 : (s.heap.push { cls := .type "set", dict := none, data := .set #[] 0 (.fresh 0 0 (!w.params.followText "set-order")) }).IsList l items := ⟨_, hol', rfl, nl, rfl⟩
        unfold Builtin.«set.__init__» noKeywords Builtin.Frozenset.updateFrom
        generalize hPI : pyIter = PI
        wp_walk
        subst hPI
        refine wpAny_pyIter_list hl1 ?_
        refine wpAny_bind (wpAny_runValue ?_)
        have hlS : l < s.heap.objs.size := Heap.lt_size hol
        have hh3 : A.in1.in1.in1.handled = none := by simp [hh]
        have hz1 : (s.heap.push { cls := .type "set", dict := none, data := .set #[] 0 (.fresh 0 0 (!w.params.followText "set-order")) }).objs.size = s.heap.objs.size + 1 := Heap.size_push ..
        have hneI : l ≠ (s.heap.push { cls := .type "set", dict := none, data := .set #[] 0 (.fresh 0 0 (!w.params.followText "set-order")) }).objs.size := by
          rw [Heap.size_push]; exact Nat.ne_of_lt (Nat.lt_succ_of_lt hlS)
        have hSf : s.heap.objs.size ∉ [(s.heap.push { cls := .type "set", dict := none, data := .set #[] 0 (.fresh 0 0 (!w.params.followText "set-order")) }).objs.size, l] := by
          rw [Heap.size_push]; simp only [List.mem_cons, List.mem_singleton, List.not_mem_nil, or_false, not_or]
          exact ⟨Nat.ne_of_lt (Nat.lt_succ_self _), Nat.ne_of_gt hlS⟩
        have hval : ∀ (i : Nat) (v : Value), items[i]? = some v → ∃ k t, ns[i]? = some k ∧ v = .int k t := fun i v hv => by
          have hi : i < ns.length := by rw [← hisz]; exact (Array.getElem?_eq_some_iff.mp hv).1
          obtain ⟨t, e⟩ := PyProof.Rows.IntsAre.int_at hit i v (by rw [Array.getElem?_toList]; exact hv)
          refine ⟨ns[i], t, List.getElem?_eq_getElem hi, ?_⟩
          rw [e, List.getD_eq_getElem?_getD, List.getElem?_eq_getElem hi] <;> rfl
        refine set_update_ints ((Walks.list hh3 _ l hneI items).toS) s.heap.objs.size
          hSf ns hisz hb hval (items.size - 0) 0 _ (by omega) (Nat.zero_le _)
          ⟨⟨_, Heap.get?_push_size _ rfl, rfl, rfl⟩, (hl1.push _)⟩ ?hS0 ?hR
        case hS0 =>
          have hget : ((s.heap.push { cls := .type "set", dict := none, data := .set #[] 0 (.fresh 0 0 (!w.params.followText "set-order")) }).push { cls := .type "list_iterator", data := .fields #[.ref l, .int 0 0] }).get? s.heap.objs.size
              = some { cls := .type "set", dict := none, data := .set #[] 0 (.fresh 0 0 (!w.params.followText "set-order")) } := Heap.get?_push_of_some _ hS
          exact ⟨0, Nat.le_refl 0, setR_new_at hget⟩
        case hR =>
          intro s' c' hm hc' hS'
          obtain ⟨h', g2, d', tk', os'⟩ := s'
          have eg : g2 = s.gens := hm.gens
          have ed : d' = s.drawn := hm.drawn
          have eo : os' = s.os := hm.os
          subst eg; subst ed; subst eo
          show wpAny _ _ _ _ _ _
          refine wpAny_pure ?_
          show wpAny _ _ (ret Value.none) _ _ _
          rw [hisz] at hc'
          refine wpAny_pure ⟨rfl, h', tk', c', rfl, hS', hc', fun b o e => ?_⟩
          have hb0 : b < s.heap.objs.size := Heap.lt_size e
          have hb1 : b ≠ s.heap.objs.size := Nat.ne_of_lt hb0
          have hb2 : b ≠ (s.heap.push { cls := .type "set", dict := none, data := .set #[] 0 (.fresh 0 0 (!w.params.followText "set-order")) }).objs.size := by
            rw [Heap.size_push]; exact Nat.ne_of_lt (Nat.lt_succ_of_lt hb0)
          exact hm.heap b o (by simp only [List.mem_cons, List.mem_singleton, List.not_mem_nil, or_false, not_or]; exact ⟨hb1, hb2⟩) (Heap.get?_push_of_some _ (Heap.get?_push_of_some _ e))
      · cases r₂ with
        | error e => exact hr₂
        | ok fl₂ =>
          cases fl₂ with
          | ret r =>
            obtain ⟨rfl, h', tk, c', rfl, hS', hc', hk'⟩ := hr₂
            repeat (any_goals (first | assumption | wp_step))
            exact h _ _ _ hS' hc' hk'
          | _ => exact hr₂.elim
    | _ => exact hr.elim
end
section
variable {X : Cx}
/-- set(l), l a list of ints -/
def rSetL1 (X : Cx) : List V → Hp → VK → Prop := fun xs H Q => ∃ (a : Addr) (ns : List Int), xs = [V.ref a] ∧ SqL X.K H a (ns.map V.int) ∧ ns.length < 1000 ∧ ∀ p c, H p = none → c ≤ ns.length → Q (.ref p) (upd H p (SetO X.w p (fun j => decide (j ∈ ns)) c))
theorem cr_setL1 (hc : X.calm = true) : CallR X (.type "set") (rSetL1 X) := by
  intro pins s σ H xs us Q I r h
  obtain ⟨a, ns, rfl, hs, hl, q⟩ := h
  obtain ⟨its, rv, pl, hz⟩ := I.list hs
  rw [Vals.ref1 r]
  refine call_set_lstI ns (I.ok.hd hc) pl.isList (by simpa using rv.ints) (by unfold scanBound; omega) fun h' tk c hS hc' hk => ?_
  exact ⟨.ref _, upd H s.heap.objs.size (SetO X.w s.heap.objs.size (fun j => decide (j ∈ ns)) c), I.laid (t' := tk) hk (Nat.le_refl _) (setO_new hS), rfl, q _ c (I.hok.fresh (Nat.le_refl _)) hc'⟩
/-- sorted(l): the items are objects that read as data -/
def rSortD {β : Type} (K : PySem.W.Frag) (enc : β → PyData) : List V → Hp → VK → Prop := fun vs H Q => ∃ (a : Addr) (zs : List (Addr × β)), vs = [V.ref a] ∧ SqL K H a (zs.map fun z => V.ref z.1) ∧ zs.length ≤ 10000 ∧ (∀ z ∈ zs, Dp K H (.ref z.1) (enc z.2)) ∧
  PySem.W.Sortable (zs.map fun z => enc z.2) ∧ ∀ p, H p = none → Q (.ref p) (upd H p (.lst ((zs.mergeSort (PySem.W.dataLe false fun z => enc z.2)).map fun z => V.ref z.1)))
theorem each_refs {β : Type} : ∀ {zs : List (Addr × β)} {us : List Value}, Vals (zs.map fun z => V.ref z.1) us → PySem.W.EachIs (fun v (z : Addr × β) => v = Value.ref z.1) us zs
  | [], _, r => by cases r; exact .nil
  | z :: zs, _, r => by
    rw [List.map_cons] at r
    cases r with
    | cons r rr => exact .cons r (each_refs rr)
theorem refs_each {β : Type} : ∀ {zs : List (Addr × β)} {us : List Value}, PySem.W.EachIs (fun v (z : Addr × β) => v = Value.ref z.1) us zs → Vals (zs.map fun z => V.ref z.1) us
  | [], _, .nil => .nil
  | z :: zs, _, .cons e t => .cons (show RelV (.ref z.1) _ from e) (refs_each t)
theorem cr_sortD {β : Type} {enc : β → PyData} (hal : ∀ a b, PySem.W.alike (enc a) (enc b) = true) (hd : ∀ b, (enc b).depth ≤ 20) (hu : X.A.units + 100 < cLine) : CallR X (.builtin "sorted") (rSortD X.K enc) := by
  intro pins s σ H vs us Q I r h
  obtain ⟨a, zs, rfl, hs, hz, hD, hk, q⟩ := h
  obtain ⟨its, rv, hl, hz'⟩ := I.list hs
  rw [Vals.ref1 r]
  have er := each_refs rv
  have er2 : PySem.W.EachIs (fun v (z : Addr × β) => ∃ as, Reads s.heap v (enc z.2) as) its zs := (PySem.W.each_mem er).mono fun v z ⟨e, hm⟩ => Dp.reads I _ _ _ (hD z hm) e
  refine PySem.W.sorted_data (bs := zs) (enc := fun z => enc z.2) hl.isList er er2 (PySem.W.AllAlike.of fun a b => hal a.2 b.2) hk (by rw [List.length_map] at hz'; exact hz') (fun b _ => by have := hd b.2; omega) fun out hlen hout => ?_
  · obtain ⟨ep, he'⟩ := PyProof.Rows.sortedAll_at s.heap its out.toArray
    have hlen2 : ((zs.mergeSort (PySem.W.dataLe false fun z => enc z.2)).map fun z => V.ref z.1).length ≤ sizeLine := by
      rw [List.length_map, (List.mergeSort_perm _ _).length_eq]
      rw [List.length_map] at hz'
      exact hz'
    exact ⟨.ref _, upd H (s.heap.objs.size + 1) (.lst ((zs.mergeSort (PySem.W.dataLe false fun z => enc z.2)).map fun z => V.ref z.1)), I.laid (t' := s.toks) (fun _ _ => PyProof.Rows.sortedAll_old) (Nat.le_succ _) ⟨hlen2, out, ep, refs_each hout, he'⟩, rfl, q _ (I.hok.fresh (Nat.le_succ _))⟩
end
/-- rows of ints in Python's order -/
def encR (r : List Int) : PyData := .tuple (r.map .int)
def encL (r : List Int) : PyData := .list (r.map .int)
def rowLe : List Int → List Int → Bool := PySem.W.dataLe false encR
def sortRows (rs : List (List Int)) : List (List Int) := rs.mergeSort rowLe
theorem alikeR (a b : List Int) : PySem.W.alike (encR a) (encR b) = true := by
  show PySem.W.alike (.tuple _) (.tuple _) = true
  rw [PySem.W.alike]
  exact PySem.W.alike_ints a b
theorem alikeL (a b : List Int) : PySem.W.alike (encL a) (encL b) = true := by
  show PySem.W.alike (.list _) (.list _) = true
  rw [PySem.W.alike]
  exact PySem.W.alike_ints a b
theorem depthR (a : List Int) : (encR a).depth ≤ 20 := by
  show (PyData.tuple _).depth ≤ 20
  rw [PyData.depth, PySem.W.depth_ints]
  decide
theorem depthL (a : List Int) : (encL a).depth ≤ 20 := by
  show (PyData.list _).depth ≤ 20
  rw [PyData.depth, PySem.W.depth_ints]
  decide
end Fb
set_option maxHeartbeats 4000000
/-! Forkbeats: the rules whose readings tell the text's part, told by parts (for comprehensions). -/
namespace Fb
open PySem PySem.Spec PyProof.Rows L2
section
variable {X : Cx} {K : PySem.W.Frag}
theorem pg_tupc {es : List Expr} {k : Nat} {t : TGs} {n : Nat} (hc : X.calm = true) (h : PGs X es t)
    (hn : (assignEach es X.env).length = n := by rfl) (hst : (assignEach es X.env).findIdx? (·.1) = none := by rfl) (eK : X.K = K := by rfl) : PG X (.Tuple es k pos) (gTup K n t) := by
  subst eK; exact pg_tup hc h hn hst
theorem pe_fldc {e : Expr} {ta : TE} {f : Str} {pos : Pos} (he : PE X e ta) (hb : attributeBase e f X.env (eval e X.env) = eval e X.env) (eK : X.K = K := by rfl) : PE X (.Attribute e f pos) (tFld K ta f) := by
  subst eK; exact pe_fld he hb
theorem sl_listc (eK : X.K = K := by rfl) : SlR X (rSlL K) := by
  subst eK; exact sl_list
theorem op_notIn_seqc (eK : X.K = K := by rfl) : OpR X (compareOp .NotIn) (rIn K true) := by
  subst eK; exact op_notIn_seq
theorem op_in_seqc (eK : X.K = K := by rfl) : OpR X (compareOp .In) (rIn K false) := by
  subst eK; exact op_in_seq
theorem pi_tupc {tg l : Expr} {tl : TE} (hl : PE X l tl) (eK : X.K = K := by rfl) : PI X tg l (iTup K tl) := by
  subst eK; exact pi_tup hl
theorem pi_listc {tg l : Expr} {tl : TE} (hl : PE X l tl) (eK : X.K = K := by rfl) : PI X tg l (iList K tl) := by
  subst eK; exact pi_list hl
theorem call_tuple_ofc (eK : X.K = K := by rfl) : CallR X (.type "tuple") (fun xs H Q => ∃ p ys, xs = [.ref p] ∧ ((SqL K H p ys ∧ ∀ l, H l = none → Q (.ref l) (upd H l (.tup ys))) ∨ (SqT K H p ys ∧ Q (.ref p) H))) := by
  subst eK; exact call_tuple_of
theorem call_list_ofc (eK : X.K = K := by rfl) : CallR X (.type "list") (fun xs H Q => ∃ p ys, xs = [.ref p] ∧ (SqL K H p ys ∨ SqT K H p ys) ∧ ∀ l, H l = none → Q (.ref l) (upd H l (.lst ys))) := by
  subst eK; exact call_list_of
theorem cr_allc (hc : X.calm = true) (eK : X.K = K := by rfl) : CallR X (.builtin "all") (rAll K) := by
  subst eK; exact cr_all hc
theorem op_eqDc (hu : X.A.units + 64 < cLine) (eK : X.K = K := by rfl) : OpR X (compareOp .Eq) (rEqD K) := by
  subst eK; exact op_eqD hu
variable {P : Program} {w : World} {mg : Str → Option Value} {base : Heap} {A : Around} {x : Str} {p pos : Pos} {e : Expr} {es : List Expr} {t : TA}
theorem pe_calc (hg : Gl X x) (ha : PA X (e :: es) t) (hdb : (x == ("__debug__" : Str)) = false := by decide) (he : starEach (e :: es) X.env = (false, eval e X.env) :: starEach es X.env := by rfl)
    (hpl : (backTo pos (starEach es X.env)).any (·.1) = false := by rfl)
    (e1 : X.prog = P := by rfl) (e2 : X.w = w := by rfl) (e3 : X.K = K := by rfl) (e4 : X.mg = mg := by rfl) (e5 : X.base = base := by rfl) (e6 : X.A = A := by rfl) : PE X (.Call (.Name x p) (e :: es) [] pos) (tCal ⟨P, w, K, mg, base, A⟩ x t) := by
  subst e1 e2 e3 e4 e5 e6; exact pe_cal hg ha hdb he hpl
theorem pe_mkrc (hg : Gl X x) (ha : PA X (e :: es) t) (hdb : (x == ("__debug__" : Str)) = false := by decide) (he : starEach (e :: es) X.env = (false, eval e X.env) :: starEach es X.env := by rfl)
    (hpl : (backTo pos (starEach es X.env)).any (·.1) = false := by rfl)
    (e1 : X.prog = P := by rfl) (e2 : X.w = w := by rfl) (e3 : X.K = K := by rfl) (e4 : X.mg = mg := by rfl) (e5 : X.base = base := by rfl) (e6 : X.A = A := by rfl) : PE X (.Call (.Name x p) (e :: es) [] pos) (tMkr ⟨P, w, K, mg, base, A⟩ x t) := by
  subst e1 e2 e3 e4 e5 e6; exact pe_mkr hg ha hdb he hpl
theorem pe_cloc {fe : Expr} {tf : TE} (hf : PE X fe tf) (ha : PA X (e :: es) t)
    (ht : eval (.Call fe (e :: es) [] pos) X.env = (do callWith pos (← eval fe X.env) [] (backTo pos (starEach (e :: es) X.env)) (backToKw pos (keywordEach [] X.env))) := by rfl)
    (he : starEach (e :: es) X.env = (false, eval e X.env) :: starEach es X.env := by rfl) (hpl : (backTo pos (starEach es X.env)).any (·.1) = false := by rfl)
    (e1 : X.prog = P := by rfl) (e2 : X.w = w := by rfl) (e3 : X.K = K := by rfl) (e4 : X.mg = mg := by rfl) (e5 : X.base = base := by rfl) (e6 : X.A = A := by rfl) : PE X (.Call fe (e :: es) [] pos) (tClo ⟨P, w, K, mg, base, A⟩ tf t) := by
  subst e1 e2 e3 e4 e5 e6; exact pe_clo hf ha ht he hpl
end
/-! ### text times 4 -/
def rep4 (z : Str) : Str := ⟨(List.replicate 4 z.cps).foldl (· ++ ·) #[]⟩
theorem op_rep4 {X : Cx} : OpR X (binaryOp .Mult) (fun x y H Q => ∃ z, x = .str z ∧ y = .int 4 ∧ 1 ≤ z.length ∧ z.length ≤ 1000 ∧ Q (.str (rep4 z)) H) := by
  intro pins s σ H x y v u Q I rx ry h
  obtain ⟨z, rfl, rfl, h1, h2, q⟩ := h
  obtain ⟨t, rfl⟩ := rx
  obtain ⟨t', rfl⟩ := ry
  have hz : (z.length == 0) = false := by simp; omega
  refine PySem.P.mul_str (by decide) (fun _ _ => ?_) (fun _ _ => ?_) ?_
  · have : (z.length : Int) ≤ 1000 := by omega
    have e : ((2 : Int) ^ 63 - 1) / 4 = 2305843009213693951 := by decide
    rw [e]; omega
  · show PySem.Builtin.Str.tooLong _ = false
    unfold PySem.Builtin.Str.tooLong
    exact decide_eq_false (by show ¬ (z.length * 4 > _); have : z.length * 4 ≤ 4000 := by omega
                              exact Nat.not_lt.mpr (Nat.le_trans this (by decide)))
  · rw [if_neg (by decide), if_neg (by rw [hz]; decide)]
    exact ⟨by
      show Str.length (rep4 z) ≤ sizeLine
      have e : (rep4 z).length = 4 * z.length := by simp [rep4, Str.length, List.replicate]; omega
      rw [e]
      exact Nat.le_trans (by omega : 4 * z.length ≤ 4000) (by decide), ⟨.str (rep4 z), H, I.tok _, ⟨_, rfl⟩, q⟩⟩
end Fb
set_option maxHeartbeats 4000000
/-! Forkbeats: a class made with one keyword (Trio). -/
namespace Fb
open PySem PySem.Spec PyProof.Rows L2
/-- a def called with positional values and one keyword, the last parameter -/
abbrev FnK (P : Program) (w : World) (K : PySem.W.Frag) (mg : Str → Option Value) (base : Heap) (k : Nat) (f : Addr) (kw : Str) (sp : SpN) : Prop :=
  ∀ (A : Around) (outer : List Env) (s : Shared) (H : Hp) (us : List Value) (u : Value) (vs : List V) (v : V) (Q : VK), Room k A → Env0 P w K mg base A outer s H → Vals vs us → RelV v u → sp (vs ++ [v]) H Q →
    codeAny (model P w) A (.call (.ref f) ⟨us, [(kw, u)]⟩) (CR CX0 outer P w H s Q E0) s
section
variable {P : Program} {w : World} {K : PySem.W.Frag} {mg : Str → Option Value} {base : Heap}
theorem fn_supk {x qual kw : Str} {st : Stmt} {f cda cc D : Addr} {a0 : Str} {N ps : List Str} {k : Nat} {sp : SpN} (F : FunS P K x qual st f cda cc D a0) (S : SupScope N ps (defScope st))
    (hb : ∀ (kV doc pm : Value) (an : Option Addr) (ct : Value) (us : List Value) (u : Value), us.length + 1 = ps.length → bindArgs (PySem.W.ksFn x qual (defArgs st) (defBody st) (defScope st) .none kV doc pm an (.ref cda) ct cc) ⟨us, [(kw, u)]⟩ = pure (ps.zip (us ++ [u])))
    (len : ∀ vs H Q, sp vs H Q → vs.length = ps.length)
    (hbody : ∀ (A : Around) (outer : List Env) (s : Shared) (H : Hp) (vs : List V) (Q : VK), Room k (A.deeper (envS qual (defScope st) s.heap.objs.size f cda cc)) → sp vs H Q →
      ∃ t, PSA (cxS P w K mg base N qual (defScope st) f cda cc A outer s H) (.func (defBody st) (envS qual (defScope st) s.heap.objs.size f cda cc)) (defBody st) t ∧ t { nx := fun _ H' => Q .non H', rt := Q } (L2.start N vs) H) : FnK P w K mg base (k + 1) f kw sp := by
  intro A outer s H us0 u0 vs0 v0 Q hr e0 r0 ru hs
  obtain ⟨oc, od, osl, kV, doc, pm, an, ct, lk⟩ := F.ex
  obtain ⟨cl, cld, csl, hcell⟩ := F.txt.cell
  have r : Vals (vs0 ++ [v0]) (us0 ++ [u0]) := r0.append (.cons ru .nil)
  have hl : us0.length + 1 = ps.length := by rw [← len _ _ _ hs, List.length_append, r0.length]; rfl
  have KX : K.In s.heap := e0.mod.kin.keeps fun b o e => (e0.bs b o e).1
  have lim : s.heap.NoLimit := e0.mod.nolimit.keeps fun b o e => (e0.bs b o e).1
  refine ks_codeAny_call_defAt (fd := PySem.W.ksFn x qual (defArgs st) (defBody st) (defScope st) .none kV doc pm an (.ref cda) ct cc) (body := defBody st) (binds := ps.zip (us0 ++ [u0])) hr.depth (KX _ _ lk) rfl lim (PySem.W.codeRec_of KX F.cd) rfl
    (.of_eq (hb kV doc pm an ct us0 u0 hl)) S.nocell (fun y hy => S.par y.1 (List.of_mem_zip hy).1) (fun h0 hns hk => ?_) S.co S.gen S.kind
  obtain ⟨t, ht, hq⟩ := hbody A outer s H _ Q (hr.deeper _) hs
  have I : Inv (cxS P w K mg base N qual (defScope st) f cda cc A outer s H) [] (L2.start N (vs0 ++ [v0])) H { s with heap := h0, toks := s.toks + (ps.zip (us0 ++ [u0])).length } := inv_startS S hr.hd e0 (len _ _ _ hs) r hcell hns hk
  refine ks_wpAt_mono (ht.run [] _ _ H _ I hq) (fun fl s' hs => ?_) fun e s' hs => hs.elim
  have fin : ∀ {σ' : L2.St} {H' : Hp} {v : V} {u : Value}, Inv (cxS P w K mg base N qual (defScope st) f cda cc A outer s H) [] σ' H' s' → RelV v u → Q v H' → CE outer P w H s Q u s' :=
    fun {σ' H' v u} J rv q => ⟨v, H', J.os, J.bare, J.base, J.hok, rv, q⟩
  cases fl with
  | ret u =>
    obtain ⟨v, σ', H', J, rv, q⟩ := hs
    exact fin J rv q
  | next =>
    obtain ⟨σ', H', J, q⟩ := hs
    exact fin (v := V.non) (u := Value.none) J rfl q
  | brk =>
    obtain ⟨_, _, _, q⟩ := hs
    exact False.elim q
  | cont =>
    obtain ⟨_, _, _, q⟩ := hs
    exact False.elim q
end
section
variable {P : Program} {w : World} {K : PySem.W.Frag} {mg : Str → Option Value} {base : Heap}
/-- a method over super() with a star parameter -/
theorem fn_sup_star {x qual pv : Str} {st : Stmt} {f cda cc D : Addr} {a0 : Str} {N ps : List Str} {k : Nat} {sp : SpN} (F : FunS P K x qual st f cda cc D a0) (S : SupScope N (ps ++ [pv]) (defScope st))
    (hb : ∀ (kV doc pm : Value) (an : Option Addr) (ct : Value) (us rest : List Value), us.length = ps.length → bindArgs (PySem.W.ksFn x qual (defArgs st) (defBody st) (defScope st) .none kV doc pm an (.ref cda) ct cc) ⟨us ++ rest, []⟩ = (newTuple rest >>= fun t => pure (ps.zip us ++ [(pv, t)])))
    (len : ∀ vs H Q, sp vs H Q → vs.length = (ps ++ [pv]).length)
    (hbody : ∀ (A : Around) (outer : List Env) (s : Shared) (H : Hp) (vs : List V) (Q : VK), Room k (A.deeper (envS qual (defScope st) s.heap.objs.size f cda cc)) → sp vs H Q →
      ∃ t, PSA (cxS P w K mg base N qual (defScope st) f cda cc A outer s H) (.func (defBody st) (envS qual (defScope st) s.heap.objs.size f cda cc)) (defBody st) t ∧ t { nx := fun _ H' => Q .non H', rt := Q } (L2.start N vs) H) :
    FnN P w K mg base (k + 1) f (fun vs H Q => ∃ ws rest, vs = ws ++ rest ∧ ws.length = ps.length ∧ rest.length ≤ sizeLine ∧ ∀ p, H p = none → sp (ws ++ [V.ref p]) (upd H p (.tup rest)) Q) := by
  intro A outer s H us vs Q E hr e0 r hs
  obtain ⟨ws, rest, ev, hlw, hz, hq⟩ := hs
  subst ev
  obtain ⟨u1, u2, eu, r1, r2⟩ := StX.vals_split r
  subst eu
  obtain ⟨oc, od, osl, kV, doc, pm, an, ct, lk⟩ := F.ex
  obtain ⟨cl, cld, csl, hcell⟩ := F.txt.cell
  have hn : H s.heap.objs.size = none := e0.hok.fresh (Nat.le_refl _)
  have hl1 : u1.length = ps.length := by rw [← r1.length]; exact hlw
  have hl2 : u2.length ≤ sizeLine := by rw [← r2.length]; exact hz
  have KX : K.In s.heap := e0.mod.kin.keeps fun b o e => (e0.bs b o e).1
  have lim : s.heap.NoLimit := e0.mod.nolimit.keeps fun b o e => (e0.bs b o e).1
  have new : ObjOk P w (upd H s.heap.objs.size (.tup rest)) (s.heap.push ({ cls := .type "tuple", data := .seq u2.toArray } : Obj)) s.heap.objs.size (.tup rest) := ⟨hz, u2, r2, ⟨_, Heap.get?_push_size _ rfl, rfl, _, rfl⟩⟩
  have e1 := StX.env0_laid e0 new
  have un := StX.un_laid (fs := frs outer) (s := s) (o := ({ cls := .type "tuple", data := .seq u2.toArray } : Obj)) (u := .tup rest) hn
  have rv : Vals (ws ++ [V.ref s.heap.objs.size]) (u1 ++ [Value.ref s.heap.objs.size]) := r1.append (.cons rfl .nil)
  have hsp := hq _ hn
  have lim1 : (s.heap.push ({ cls := .type "tuple", data := .seq u2.toArray } : Obj)).NoLimit := lim.keeps fun b o e => Heap.get?_push_of_some _ e
  have zl : ps.zip u1 ++ [(pv, Value.ref s.heap.objs.size)] = (ps ++ [pv]).zip (u1 ++ [Value.ref s.heap.objs.size]) := by rw [List.zip_append hl1.symm]; rfl
  refine codeAny_call_function hr.depth (KX _ _ lk) rfl S.co S.gen rfl (PySem.W.codeRec_of KX F.cd) ?_
  rw [hb kV doc pm an ct u1 u2 hl1]
  refine wpAny_bind (wpAny_newTuple (wpAny_pure ?_) hl2)
  rw [zl]
  refine wpAny_newFunctionEnv S.nocell (fun y hy => S.par y.1 (List.of_mem_zip hy).1) (fun h₀ hns₀ hsb₀ => ⟨lim1.fresh _ hsb₀, PySem.ks_codeAny_funcAt ?_⟩) S.kind
  have hk : ∀ b o, (s.heap.push ({ cls := .type "tuple", data := .seq u2.toArray } : Obj)).get? b = some o → h₀.get? b = some o := fun b o e => hsb₀.extBut b o (Nat.ne_of_lt (Heap.lt_size e)) (Heap.get?_push_of_some _ e)
  obtain ⟨t, ht, hq2⟩ := hbody A outer { s with heap := s.heap.push ({ cls := .type "tuple", data := .seq u2.toArray } : Obj) } _ _ Q (hr.deeper _) hsp
  have I := inv_startS (qual := qual) (f := f) (cda := cda) (cc := cc) S hr.hd e1 (len _ _ _ hsp) rv hcell hns₀ hk (tk := s.toks + ((ps ++ [pv]).zip (u1 ++ [Value.ref s.heap.objs.size])).length)
  refine ks_wpAt_mono (ht.run [] _ _ _ _ I hq2) (fun fl s' hs => ?_) fun e s' hs => hs.elim
  have fin : ∀ {σ' : L2.St} {H' : Hp} {v : V} {u : Value}, Inv (cxS P w K mg base N qual (defScope st) f cda cc A outer { s with heap := s.heap.push ({ cls := .type "tuple", data := .seq u2.toArray } : Obj) } (upd H s.heap.objs.size (.tup rest))) [] σ' H' s' → RelV v u → Q v H' → CE outer P w H s Q u s' :=
    fun {σ' H' v u} J rv q => ⟨v, H', J.os, J.bare, un.trans J.base, J.hok, rv, q⟩
  cases fl with
  | ret u =>
    obtain ⟨v, σ', H', J, rv, q⟩ := hs
    exact fin J rv q
  | next =>
    obtain ⟨σ', H', J, q⟩ := hs
    exact fin (v := V.non) (u := Value.none) J rfl q
  | brk =>
    obtain ⟨_, _, _, q⟩ := hs
    exact False.elim q
  | cont =>
    obtain ⟨_, _, _, q⟩ := hs
    exact False.elim q
end
/-- C(e, .., kw = e) -/
def tMkk (X : Cm) (x kw : Str) (t tk : TA) : TE := fun σ H Q => ∃ C sp f k, X.mg x = some (.ref C) ∧ Mk X.K C f ∧ FnK X.prog X.w X.K X.mg X.base k f kw sp ∧ Room (k + 1) X.A ∧
  t σ H fun vs H1 => tk σ H1 fun zs H2 => ∃ v, zs = [v] ∧ ∀ y dx, H2 y = none → H2 dx = none → dx ≠ y → sp ((.ref y :: vs) ++ [v]) (upd (upd H2 dx (.own y)) y (.ins C dx [])) fun u H3 => u = .non ∧ Q (.ref y) H3
theorem pe_mkk {X : Cx} {x kw : Str} {p pos kpos : Pos} {e ke : Expr} {es : List Expr} {t tk : TA} (hg : Gl X x) (ha : PA X (e :: es) t) (hkw : PK X [⟨some kw, ke, kpos⟩] tk)
    (hall : (backToKw pos (keywordEach [⟨some kw, ke, kpos⟩] X.env)).all (·.1.isSome) = true := by rfl) (hks : (backToKw pos (keywordEach [⟨some kw, ke, kpos⟩] X.env)).filterMap (·.1) = [kw] := by rfl) (hdb : (x == ("__debug__" : Str)) = false := by decide)
    (he : starEach (e :: es) X.env = (false, eval e X.env) :: starEach es X.env := by rfl) (hpl : ((backTo pos (starEach (e :: es) X.env)).any (·.1) || (backToKw pos (keywordEach [⟨some kw, ke, kpos⟩] X.env)).any (·.1.isNone)) = false := by rfl) :
    PE X (.Call (.Name x p) (e :: es) [⟨some kw, ke, kpos⟩] pos) (tMkk ⟨X.prog, X.w, X.K, X.mg, X.base, X.A⟩ x kw t tk) := by
  refine ⟨fun pins s σ H Q I h => ?_⟩
  obtain ⟨C, sp, f, k, hm, M, F, hr, h⟩ := h
  refine wpAny_Call_Name_kw (ld_glob I hg hm ?_ hdb)
  refine PySem.W.callWith_KW (h₀ := X.base) I.ok.mod.kin M.kp hall (thn (ha.run pos pins s σ H _ I h) fun us s1 ⟨vs, H1, I1, r, q⟩ => ?_) hpl he
  refine thn (hkw.run pos pins s1 σ H1 _ I1 q) fun ws s2 ⟨zs, H2, I2, rz, v, ez, q2⟩ => ⟨I2.kIn, ?_⟩
  subst ez
  cases rz with
  | @cons _ u _ _ ru rr =>
  cases rr
  rw [hks]
  have hq := q2 (s2.heap.objs.size + 1) s2.heap.objs.size (I2.hok.fresh (Nat.le_succ _)) (I2.hok.fresh (Nat.le_refl _)) (Nat.ne_of_lt (Nat.lt_succ_self _))
  have I3 := Inv.made (C := C) I2
  have r1 : Vals (V.ref (s2.heap.objs.size + 1) :: vs) (Value.ref (s2.heap.objs.size + 1) :: us) := .cons rfl r
  refine wpAny_call (make_map (f := f) I2.kIn M.makes M.init (beq_iff_eq.mp M.fn) (codeAny_mono (F _ X.stack _ _ (Value.ref (s2.heap.objs.size + 1) :: us) u (V.ref (s2.heap.objs.size + 1) :: vs) v _ (hr.make C us [(kw, u)])
    (I3.env0.make C us [(kw, u)]) r1 ru hq) fun r s' hq' => ?_))
  cases r with
  | error e => exact hq'.elim
  | ok fl =>
    cases fl with
    | ret u =>
      obtain ⟨v, H', I4, rv, ev, q3⟩ := I3.after hq'
      subst ev
      exact ⟨rv, ⟨V.ref (s2.heap.objs.size + 1), H', I4, rfl, q3⟩⟩
    | next => exact False.elim hq'
    | brk => exact False.elim hq'
    | cont => exact False.elim hq'
end Fb
set_option maxHeartbeats 4000000
/-! Forkbeats: what the text holds behind its top. Printed by gentxt.py. -/
namespace Fb
open PySem PySem.Spec PyProof.Rows L2
/-- a special method that is a def -/
structure Spd (K : PySem.W.Frag) (C : Addr) (m : Str) (g : Addr) : Prop where
  at_ : PySem.W.findIn K (.ref C) m = some (some (.ref g))
  fn : PySem.W.isFn K (.ref g) = true
theorem Spd.spc {X : Cm} {C g : Addr} {m : Str} (h : Spd X.K C m g) : Spc X C m g := ⟨h.at_, h.fn⟩
/-- what all classes of facts share; the own kept -/
structure FactC (K : PySem.W.Frag) (aForks aCall aInv aAnd aOr aStr C aKept : Addr) : Prop where
  cl : Cls K C
  forks : Meth K C "forks" aForks
  kept : Meth K C "kept" aKept
  call : StX.CallO K C aCall
  inv : Spd K C "__invert__" aInv
  and_ : Nbr K .BitAnd C aAnd
  or_ : Nbr K .BitOr C aOr
  str : Spd K C "__str__" aStr
  n_word_text : NoAttr K C "word_text"
  n_named : NoAttr K C "named"
  n_depth : NoAttr K C "depth"
  n_left : NoAttr K C "left"
  n_right : NoAttr K C "right"
  n_ranked : NoAttr K C "ranked"
structure Txt (P : Program) (K : PySem.W.Frag) (mg : Str → Option Value) where
  n_len : mg "len" = none
  n_enumerate : mg "enumerate" = none
  n_range : mg "range" = none
  n_sorted : mg "sorted" = none
  n_set : mg "set" = none
  n_max : mg "max" = none
  n_min : mg "min" = none
  n_abs : mg "abs" = none
  n_int : mg "int" = none
  n_str : mg "str" = none
  n_list : mg "list" = none
  n_tuple : mg "tuple" = none
  n_isinstance : mg "isinstance" = none
  n_all : mg "all" = none
  n_bool : mg "bool" = none
  n_super : mg "super" = none
  t_ML : Tok
  g_MOST_LETTERS : mg "MOST_LETTERS" = some (.int 12 t_ML)
  t_LT : Tok
  g_LETTERS : mg "LETTERS" = some (.str letters t_LT)
  a_is_name : Addr
  g_is_name : mg "is_name" = some (.ref a_is_name)
  f_is_name : FunP K "is_name" "is_name" (top 20) a_is_name
  a_checked_names : Addr
  g_checked_names : mg "checked_names" = some (.ref a_checked_names)
  f_checked_names : FunP K "checked_names" "checked_names" (top 25) a_checked_names
  a_check_distinct : Addr
  g_check_distinct : mg "check_distinct" = some (.ref a_check_distinct)
  f_check_distinct : FunP K "check_distinct" "check_distinct" (top 26) a_check_distinct
  a_without_duplicates : Addr
  g_without_duplicates : mg "without_duplicates" = some (.ref a_without_duplicates)
  f_without_duplicates : FunP K "without_duplicates" "without_duplicates" (top 27) a_without_duplicates
  a_deeper : Addr
  g_deeper : mg "deeper" = some (.ref a_deeper)
  f_deeper : FunP K "deeper" "deeper" (top 36) a_deeper
  a_reached_from : Addr
  g_reached_from : mg "reached_from" = some (.ref a_reached_from)
  f_reached_from : FunP K "reached_from" "reached_from" (top 41) a_reached_from
  a_blocks : Addr
  g_blocks : mg "blocks" = some (.ref a_blocks)
  f_blocks : FunP K "blocks" "blocks" (top 45) a_blocks
  a_order_of_walking : Addr
  g_order_of_walking : mg "order_of_walking" = some (.ref a_order_of_walking)
  f_order_of_walking : FunP K "order_of_walking" "order_of_walking" (top 47) a_order_of_walking
  a_ties : Addr
  g_ties : mg "ties" = some (.ref a_ties)
  f_ties : FunP K "ties" "ties" (top 48) a_ties
  a_choices : Addr
  g_choices : mg "choices" = some (.ref a_choices)
  f_choices : FunP K "choices" "choices" (top 49) a_choices
  a_levels : Addr
  g_levels : mg "levels" = some (.ref a_levels)
  f_levels : FunP K "levels" "levels" (top 50) a_levels
  a_found_fittings : Addr
  g_found_fittings : mg "found_fittings" = some (.ref a_found_fittings)
  f_found_fittings : FunP K "found_fittings" "found_fittings" (top 51) a_found_fittings
  a_fittings : Addr
  g_fittings : mg "fittings" = some (.ref a_fittings)
  f_fittings : FunP K "fittings" "fittings" (top 52) a_fittings
  a_count_fittings : Addr
  g_count_fittings : mg "count_fittings" = some (.ref a_count_fittings)
  f_count_fittings : FunP K "count_fittings" "count_fittings" (top 53) a_count_fittings
  a__law_bag : Addr
  g__law_bag : mg "_law_bag" = some (.ref a__law_bag)
  f__law_bag : FunP K "_law_bag" "_law_bag" (top 55) a__law_bag
  a__law_mixed : Addr
  g__law_mixed : mg "_law_mixed" = some (.ref a__law_mixed)
  f__law_mixed : FunP K "_law_mixed" "_law_mixed" (top 56) a__law_mixed
  a__law_take : Addr
  g__law_take : mg "_law_take" = some (.ref a__law_take)
  f__law_take : FunP K "_law_take" "_law_take" (top 57) a__law_take
  a__law_name : Addr
  g__law_name : mg "_law_name" = some (.ref a__law_name)
  f__law_name : FunP K "_law_name" "_law_name" (top 58) a__law_name
  a__law_names : Addr
  g__law_names : mg "_law_names" = some (.ref a__law_names)
  f__law_names : FunP K "_law_names" "_law_names" (top 59) a__law_names
  a__law_is_int : Addr
  g__law_is_int : mg "_law_is_int" = some (.ref a__law_is_int)
  f__law_is_int : FunP K "_law_is_int" "_law_is_int" (top 60) a__law_is_int
  a__law_row : Addr
  g__law_row : mg "_law_row" = some (.ref a__law_row)
  f__law_row : FunP K "_law_row" "_law_row" (top 61) a__law_row
  a__law_rows : Addr
  g__law_rows : mg "_law_rows" = some (.ref a__law_rows)
  f__law_rows : FunP K "_law_rows" "_law_rows" (top 62) a__law_rows
  a__law_some : Addr
  g__law_some : mg "_law_some" = some (.ref a__law_some)
  f__law_some : FunP K "_law_some" "_law_some" (top 63) a__law_some
  a__law_pairs : Addr
  g__law_pairs : mg "_law_pairs" = some (.ref a__law_pairs)
  f__law_pairs : FunP K "_law_pairs" "_law_pairs" (top 64) a__law_pairs
  a__law_level : Addr
  g__law_level : mg "_law_level" = some (.ref a__law_level)
  f__law_level : FunP K "_law_level" "_law_level" (top 65) a__law_level
  a__law_struck : Addr
  g__law_struck : mg "_law_struck" = some (.ref a__law_struck)
  f__law_struck : FunP K "_law_struck" "_law_struck" (top 66) a__law_struck
  a__law_many : Addr
  g__law_many : mg "_law_many" = some (.ref a__law_many)
  f__law_many : FunP K "_law_many" "_law_many" (top 67) a__law_many
  a__law_bench : Addr
  g__law_bench : mg "_law_bench" = some (.ref a__law_bench)
  f__law_bench : FunP K "_law_bench" "_law_bench" (top 68) a__law_bench
  a__law_rises : Addr
  g__law_rises : mg "_law_rises" = some (.ref a__law_rises)
  f__law_rises : FunP K "_law_rises" "_law_rises" (top 69) a__law_rises
  a__law_pieces : Addr
  g__law_pieces : mg "_law_pieces" = some (.ref a__law_pieces)
  f__law_pieces : FunP K "_law_pieces" "_law_pieces" (top 70) a__law_pieces
  a__law_draw_plain : Addr
  g__law_draw_plain : mg "_law_draw_plain" = some (.ref a__law_draw_plain)
  f__law_draw_plain : FunP K "_law_draw_plain" "_law_draw_plain" (top 71) a__law_draw_plain
  a__law_draw_fact : Addr
  g__law_draw_fact : mg "_law_draw_fact" = some (.ref a__law_draw_fact)
  f__law_draw_fact : FunP K "_law_draw_fact" "_law_draw_fact" (top 72) a__law_draw_fact
  a__law_make : Addr
  g__law_make : mg "_law_make" = some (.ref a__law_make)
  f__law_make : FunP K "_law_make" "_law_make" (top 73) a__law_make
  a__law_make_highest : Addr
  g__law_make_highest : mg "_law_make_highest" = some (.ref a__law_make_highest)
  f__law_make_highest : FunP K "_law_make_highest" "_law_make_highest" (top 74) a__law_make_highest
  a__law_draw_plans : Addr
  g__law_draw_plans : mg "_law_draw_plans" = some (.ref a__law_draw_plans)
  f__law_draw_plans : FunP K "_law_draw_plans" "_law_draw_plans" (top 75) a__law_draw_plans
  a__law_pitches : Addr
  g__law_pitches : mg "_law_pitches" = some (.ref a__law_pitches)
  f__law_pitches : FunP K "_law_pitches" "_law_pitches" (top 76) a__law_pitches
  C_Tuning : Addr
  g_Tuning : mg "Tuning" = some (.ref C_Tuning)
  C_Fact : Addr
  g_Fact : mg "Fact" = some (.ref C_Fact)
  C_Above : Addr
  g_Above : mg "Above" = some (.ref C_Above)
  C_InTune : Addr
  g_InTune : mg "InTune" = some (.ref C_InTune)
  C_Between : Addr
  g_Between : mg "Between" = some (.ref C_Between)
  C_Highest : Addr
  g_Highest : mg "Highest" = some (.ref C_Highest)
  C_AsOften : Addr
  g_AsOften : mg "AsOften" = some (.ref C_AsOften)
  C_MoreOften : Addr
  g_MoreOften : mg "MoreOften" = some (.ref C_MoreOften)
  C_Trio : Addr
  g_Trio : mg "Trio" = some (.ref C_Trio)
  C_Not : Addr
  g_Not : mg "Not" = some (.ref C_Not)
  C_Both : Addr
  g_Both : mg "Both" = some (.ref C_Both)
  C_Either : Addr
  g_Either : mg "Either" = some (.ref C_Either)
  C_Bench : Addr
  g_Bench : mg "Bench" = some (.ref C_Bench)
  C_Blocks : Addr
  g_Blocks : mg "Blocks" = some (.ref C_Blocks)
  cl_Tuning : Cls K C_Tuning
  i_Tuning : Addr
  mk_Tuning : Mk K C_Tuning i_Tuning
  n_Tuning_level : NoAttr K C_Tuning "level"
  n_Tuning_name_row : NoAttr K C_Tuning "name_row"
  a_Tuning_pitches : Addr
  m_Tuning_pitches : Meth K C_Tuning "pitches" a_Tuning_pitches
  f_Tuning_pitches : FunP K "pitches" "Tuning.pitches" (inC 23 4) a_Tuning_pitches
  a_Tuning_beats : Addr
  m_Tuning_beats : Meth K C_Tuning "beats" a_Tuning_beats
  f_Tuning_beats : FunP K "beats" "Tuning.beats" (inC 23 5) a_Tuning_beats
  cl_Bench : Cls K C_Bench
  i_Bench : Addr
  mk_Bench : Mk K C_Bench i_Bench
  n_Bench_state : NoAttr K C_Bench "state"
  n_Bench_past : NoAttr K C_Bench "past"
  n_Bench_future : NoAttr K C_Bench "future"
  a_Bench_enter : Addr
  m_Bench_enter : Meth K C_Bench "enter" a_Bench_enter
  f_Bench_enter : FunP K "enter" "Bench.enter" (inC 42 6) a_Bench_enter
  a_Bench_add : Addr
  m_Bench_add : Meth K C_Bench "add" a_Bench_add
  f_Bench_add : FunP K "add" "Bench.add" (inC 42 7) a_Bench_add
  a_Bench_add_all : Addr
  m_Bench_add_all : Meth K C_Bench "add_all" a_Bench_add_all
  f_Bench_add_all : FunP K "add_all" "Bench.add_all" (inC 42 8) a_Bench_add_all
  a_Bench_strike : Addr
  m_Bench_strike : Meth K C_Bench "strike" a_Bench_strike
  f_Bench_strike : FunP K "strike" "Bench.strike" (inC 42 9) a_Bench_strike
  a_Bench_check_pair : Addr
  m_Bench_check_pair : Meth K C_Bench "check_pair" a_Bench_check_pair
  f_Bench_check_pair : FunP K "check_pair" "Bench.check_pair" (inC 42 10) a_Bench_check_pair
  a_Bench_check_fork : Addr
  m_Bench_check_fork : Meth K C_Bench "check_fork" a_Bench_check_fork
  f_Bench_check_fork : FunP K "check_fork" "Bench.check_fork" (inC 42 11) a_Bench_check_fork
  a_Bench_check_fact : Addr
  m_Bench_check_fact : Meth K C_Bench "check_fact" a_Bench_check_fact
  f_Bench_check_fact : FunP K "check_fact" "Bench.check_fact" (inC 42 12) a_Bench_check_fact
  a_Bench_tell : Addr
  m_Bench_tell : Meth K C_Bench "tell" a_Bench_tell
  f_Bench_tell : FunP K "tell" "Bench.tell" (inC 42 13) a_Bench_tell
  a_Bench_undo : Addr
  m_Bench_undo : Meth K C_Bench "undo" a_Bench_undo
  f_Bench_undo : FunP K "undo" "Bench.undo" (inC 42 18) a_Bench_undo
  a_Bench_forks : Addr
  m_Bench_forks : Meth K C_Bench "forks" a_Bench_forks
  f_Bench_forks : FunP K "forks" "Bench.forks" (inC 42 21) a_Bench_forks
  a_Bench_strikes : Addr
  m_Bench_strikes : Meth K C_Bench "strikes" a_Bench_strikes
  f_Bench_strikes : FunP K "strikes" "Bench.strikes" (inC 42 22) a_Bench_strikes
  a_Bench_told : Addr
  m_Bench_told : Meth K C_Bench "told" a_Bench_told
  f_Bench_told : FunP K "told" "Bench.told" (inC 42 24) a_Bench_told
  cl_Blocks : Cls K C_Blocks
  i_Blocks : Addr
  mk_Blocks : Mk K C_Blocks i_Blocks
  n_Blocks_struck : NoAttr K C_Blocks "struck"
  n_Blocks_order : NoAttr K C_Blocks "order"
  n_Blocks_low : NoAttr K C_Blocks "low"
  n_Blocks_stack : NoAttr K C_Blocks "stack"
  n_Blocks_found : NoAttr K C_Blocks "found"
  a_Blocks_visit : Addr
  m_Blocks_visit : Meth K C_Blocks "visit" a_Blocks_visit
  f_Blocks_visit : FunP K "visit" "Blocks.visit" (inC 44 1) a_Blocks_visit
  a_Blocks_close : Addr
  m_Blocks_close : Meth K C_Blocks "close" a_Blocks_close
  f_Blocks_close : FunP K "close" "Blocks.close" (inC 44 2) a_Blocks_close
  f_Tuning_init : FunP K "__init__" "Tuning.__init__" (inC 23 0) i_Tuning
  f_Blocks_init : FunP K "__init__" "Blocks.__init__" (inC 44 0) i_Blocks
  f_Bench_init : ∃ fd, FunD K "__init__" "Bench.__init__" (defArgs (inC 42 4)) (defBody (inC 42 4)) (defScope (inC 42 4)) [.int 0] [] i_Bench fd
  a_Tuning_getitem : Addr
  s_Tuning_getitem : Spd K C_Tuning "__getitem__" a_Tuning_getitem
  f_Tuning_getitem : FunP K "__getitem__" "Tuning.__getitem__" (inC 23 8) a_Tuning_getitem
  a_Tuning_contains : Addr
  s_Tuning_contains : Spd K C_Tuning "__contains__" a_Tuning_contains
  f_Tuning_contains : FunP K "__contains__" "Tuning.__contains__" (inC 23 10) a_Tuning_contains
  fi_Tuning_getitem : PySem.W.fnIn K a_Tuning_getitem = true
  a_lim : Addr
  p_lim : Addr
  p_Bench_limit : PropOf K C_Bench "limit" p_lim a_lim
  f_Bench_limit : FunP K "limit" "Bench.limit" (inC 42 15) a_lim
  i_Fact : Addr
  f_Fact_init : FunP K "__init__" "Fact.__init__" (inC 28 2) i_Fact
  a_Fact_forks : Addr
  f_Fact_forks : FunP K "forks" "Fact.forks" (inC 28 3) a_Fact_forks
  a_Fact_call : Addr
  f_Fact_call : FunP K "__call__" "Fact.__call__" (inC 28 5) a_Fact_call
  a_Fact_invert : Addr
  f_Fact_invert : FunP K "__invert__" "Fact.__invert__" (inC 28 6) a_Fact_invert
  a_Fact_and : Addr
  f_Fact_and : FunP K "__and__" "Fact.__and__" (inC 28 7) a_Fact_and
  a_Fact_or : Addr
  f_Fact_or : FunP K "__or__" "Fact.__or__" (inC 28 8) a_Fact_or
  a_Fact_str : Addr
  f_Fact_str : FunP K "__str__" "Fact.__str__" (inC 28 9) a_Fact_str
  mc_Fact : Value
  rd_Fact : ClX.CRead K C_Fact mc_Fact
  mc_Bench : Value
  rd_Bench : ClX.CRead K C_Bench mc_Bench
  t_Fact_MOST_COUNT : Tok
  c_Fact_MOST_COUNT : ClX.CVal K C_Fact mc_Fact "MOST_COUNT" (.int 1000000000) (.int 1000000000 t_Fact_MOST_COUNT)
  t_Fact_MOST_DEPTH : Tok
  c_Fact_MOST_DEPTH : ClX.CVal K C_Fact mc_Fact "MOST_DEPTH" (.int 6) (.int 6 t_Fact_MOST_DEPTH)
  t_Bench_MOST_FORKS : Tok
  c_Bench_MOST_FORKS : ClX.CVal K C_Bench mc_Bench "MOST_FORKS" (.int 10) (.int 10 t_Bench_MOST_FORKS)
  t_Bench_MOST_STRIKES : Tok
  c_Bench_MOST_STRIKES : ClX.CVal K C_Bench mc_Bench "MOST_STRIKES" (.int 20) (.int 20 t_Bench_MOST_STRIKES)
  t_Bench_MOST_FACTS : Tok
  c_Bench_MOST_FACTS : ClX.CVal K C_Bench mc_Bench "MOST_FACTS" (.int 12) (.int 12 t_Bench_MOST_FACTS)
  t_Bench_MOST_LIMIT : Tok
  c_Bench_MOST_LIMIT : ClX.CVal K C_Bench mc_Bench "MOST_LIMIT" (.int 3) (.int 3 t_Bench_MOST_LIMIT)
  k_Above : Addr
  fc_Above : FactC K a_Fact_forks a_Fact_call a_Fact_invert a_Fact_and a_Fact_or a_Fact_str C_Above k_Above
  fk_Above : FunP K "kept" "Above.kept" (inC 29 1) k_Above
  i_Above : Addr
  mk_Above : Mk K C_Above i_Above
  cd_Above : Addr
  cc_Above : Addr
  fi_Above : FunS P K "__init__" "Above.__init__" (inC 29 0) i_Above cd_Above cc_Above C_Above "self"
  sm_Above : SupMet K C_Above C_Above "__init__" i_Fact
  k_InTune : Addr
  fc_InTune : FactC K a_Fact_forks a_Fact_call a_Fact_invert a_Fact_and a_Fact_or a_Fact_str C_InTune k_InTune
  fk_InTune : FunP K "kept" "InTune.kept" (inC 30 1) k_InTune
  i_InTune : Addr
  mk_InTune : Mk K C_InTune i_InTune
  cd_InTune : Addr
  cc_InTune : Addr
  fi_InTune : FunS P K "__init__" "InTune.__init__" (inC 30 0) i_InTune cd_InTune cc_InTune C_InTune "self"
  sm_InTune : SupMet K C_InTune C_InTune "__init__" i_Fact
  k_Between : Addr
  fc_Between : FactC K a_Fact_forks a_Fact_call a_Fact_invert a_Fact_and a_Fact_or a_Fact_str C_Between k_Between
  fk_Between : FunP K "kept" "Between.kept" (inC 31 1) k_Between
  i_Between : Addr
  mk_Between : Mk K C_Between i_Between
  cd_Between : Addr
  cc_Between : Addr
  fi_Between : FunS P K "__init__" "Between.__init__" (inC 31 0) i_Between cd_Between cc_Between C_Between "self"
  sm_Between : SupMet K C_Between C_Between "__init__" i_Fact
  k_Highest : Addr
  fc_Highest : FactC K a_Fact_forks a_Fact_call a_Fact_invert a_Fact_and a_Fact_or a_Fact_str C_Highest k_Highest
  fk_Highest : FunP K "kept" "Highest.kept" (inC 32 1) k_Highest
  i_Highest : Addr
  mk_Highest : Mk K C_Highest i_Highest
  cd_Highest : Addr
  cc_Highest : Addr
  fi_Highest : FunS P K "__init__" "Highest.__init__" (inC 32 0) i_Highest cd_Highest cc_Highest C_Highest "self"
  sm_Highest : SupMet K C_Highest C_Highest "__init__" i_Fact
  k_AsOften : Addr
  fc_AsOften : FactC K a_Fact_forks a_Fact_call a_Fact_invert a_Fact_and a_Fact_or a_Fact_str C_AsOften k_AsOften
  fk_AsOften : FunP K "kept" "AsOften.kept" (inC 33 1) k_AsOften
  i_AsOften : Addr
  mk_AsOften : Mk K C_AsOften i_AsOften
  cd_AsOften : Addr
  cc_AsOften : Addr
  fi_AsOften : FunS P K "__init__" "AsOften.__init__" (inC 33 0) i_AsOften cd_AsOften cc_AsOften C_AsOften "self"
  sm_AsOften : SupMet K C_AsOften C_AsOften "__init__" i_Fact
  k_MoreOften : Addr
  fc_MoreOften : FactC K a_Fact_forks a_Fact_call a_Fact_invert a_Fact_and a_Fact_or a_Fact_str C_MoreOften k_MoreOften
  fk_MoreOften : FunP K "kept" "MoreOften.kept" (inC 34 1) k_MoreOften
  i_MoreOften : Addr
  mk_MoreOften : Mk K C_MoreOften i_MoreOften
  cd_MoreOften : Addr
  cc_MoreOften : Addr
  fi_MoreOften : FunS P K "__init__" "MoreOften.__init__" (inC 34 0) i_MoreOften cd_MoreOften cc_MoreOften C_MoreOften "self"
  sm_MoreOften : SupMet K C_MoreOften C_MoreOften "__init__" i_Fact
  k_Trio : Addr
  fc_Trio : FactC K a_Fact_forks a_Fact_call a_Fact_invert a_Fact_and a_Fact_or a_Fact_str C_Trio k_Trio
  fk_Trio : FunP K "kept" "Trio.kept" (inC 35 1) k_Trio
  i_Trio : Addr
  mk_Trio : Mk K C_Trio i_Trio
  cd_Trio : Addr
  cc_Trio : Addr
  fi_Trio : FunS P K "__init__" "Trio.__init__" (inC 35 0) i_Trio cd_Trio cc_Trio C_Trio "self"
  sm_Trio : SupMet K C_Trio C_Trio "__init__" i_Fact
  k_Not : Addr
  fc_Not : FactC K a_Fact_forks a_Fact_call a_Fact_invert a_Fact_and a_Fact_or a_Fact_str C_Not k_Not
  fk_Not : FunP K "kept" "Not.kept" (inC 37 1) k_Not
  i_Not : Addr
  mk_Not : Mk K C_Not i_Not
  cd_Not : Addr
  cc_Not : Addr
  fi_Not : FunS P K "__init__" "Not.__init__" (inC 37 0) i_Not cd_Not cc_Not C_Not "self"
  sm_Not : SupMet K C_Not C_Not "__init__" i_Fact
  k_Both : Addr
  fc_Both : FactC K a_Fact_forks a_Fact_call a_Fact_invert a_Fact_and a_Fact_or a_Fact_str C_Both k_Both
  fk_Both : FunP K "kept" "Both.kept" (inC 38 1) k_Both
  i_Both : Addr
  mk_Both : Mk K C_Both i_Both
  cd_Both : Addr
  cc_Both : Addr
  fi_Both : FunS P K "__init__" "Both.__init__" (inC 38 0) i_Both cd_Both cc_Both C_Both "self"
  sm_Both : SupMet K C_Both C_Both "__init__" i_Fact
  k_Either : Addr
  fc_Either : FactC K a_Fact_forks a_Fact_call a_Fact_invert a_Fact_and a_Fact_or a_Fact_str C_Either k_Either
  fk_Either : FunP K "kept" "Either.kept" (inC 39 1) k_Either
  i_Either : Addr
  mk_Either : Mk K C_Either i_Either
  cd_Either : Addr
  cc_Either : Addr
  fi_Either : FunS P K "__init__" "Either.__init__" (inC 39 0) i_Either cd_Either cc_Either C_Either "self"
  sm_Either : SupMet K C_Either C_Either "__init__" i_Fact
  apart : ∀ C ∈ [C_Above, C_InTune, C_Between, C_Highest, C_AsOften, C_MoreOften, C_Trio, C_Not, C_Both, C_Either], ∀ D ∈ [C_Above, C_InTune, C_Between, C_Highest, C_AsOften, C_MoreOften, C_Trio, C_Not, C_Both, C_Either], C ≠ D → PySem.W.mroIn K D (.ref C) = some false
/-! ### more rules -/
section
variable {X : Cx} {e : Expr} {pos : Pos} {ta : TE}
/-- e.f, a property -/
def tPrp (X : Cm) (f : Str) (ta : TE) : TE := fun σ H Q => ta σ H fun x H1 => ∃ a C dx fs p g k sp, x = .ref a ∧ H1 a = some (.ins C dx fs) ∧ Cls X.K C ∧ PropOf X.K C f p g ∧ FnN X.prog X.w X.K X.mg X.base k g sp ∧ Room (k + 1) X.A ∧ sp [x] H1 Q
theorem pe_prp {f : Str} (he : PE X e ta) (hab : attributeBase e f X.env (eval e X.env) = eval e X.env) : PE X (.Attribute e f pos) (tPrp ⟨X.prog, X.w, X.K, X.mg, X.base, X.A⟩ f ta) := by
  refine ⟨fun pins s σ H Q I h => ?_⟩
  refine attr_of hab (thn (he.run pins s σ H _ I h) fun u s1 ⟨x, H1, I1, rx, a, C, dx, fs, p, g, k, sp, ex, ea, c, hp, F, hr, q⟩ => ?_)
  subst ex
  obtain rfl : u = Value.ref a := rx
  obtain ⟨mA, O, _, _, _, _⟩ := ins_get I1.hok ea
  obtain ⟨od, J, _⟩ := O.look
  obtain ⟨rest, hrec⟩ := hp.rec_
  have I2 := I1.tok (s1.toks + 1)
  have hc : (PySem.W.clsIn X.K C).isSome = true := by
    obtain ⟨cd, hc, _⟩ := PySem.W.any_some c.hd
    rw [hc]
    rfl
  refine PySem.W.get_bind I1.kIn J (PySem.W.plainGet_of (c.get f)).1 (PySem.W.findObj_data hc hp.at_ hp.get hp.tak) (PySem.W.plainGet_of (c.get f)).2 (wpAny_call (PySem.W.prop_get (s := { s1 with toks := s1.toks + 1 }) I1.kIn hrec ?_))
  refine codeAny_mono (F X.A.in1 X.stack { s1 with toks := s1.toks + 1 } H1 [.ref a] [.ref a] Q E0 hr.in1 I2.env0.in1 (.cons rfl .nil) q) fun r s' hq => ?_
  cases r with
  | error er => exact False.elim hq
  | ok fl =>
    cases fl with
    | ret u =>
      obtain ⟨v, H', I3, rv, q3⟩ := I2.after hq
      show wpAny _ _ (handedOut u) _ _ _
      rw [PySem.W.handedOut_of (handed_of rv)]
      exact wpAny_pure ⟨v, H', I3, rv, q3⟩
    | next => exact False.elim hq
    | brk => exact False.elim hq
    | cont => exact False.elim hq
end
theorem hu64 {A : Around} {k : Nat} (hr : Room k A) : A.units + 64 < cLine := by have := hr.un; omega
theorem hu65 {A : Around} {k : Nat} (hr : Room k A) : A.units + 65 < cLine := by have := hr.un; omega
theorem hu100 {A : Around} {k : Nat} (hr : Room k A) : A.units + 100 < cLine := by have := hr.un; omega
end Fb
set_option maxHeartbeats 4000000
/-! Forkbeats: names. -/
namespace Fb
open PySem PySem.Spec PyProof.Rows L2
/-- what no def changes but the makers of benches and the drawers of numbers -/
def Stay : HO → Prop
  | .lst (.int _ :: _ :: _ :: _ :: .ref _ :: _) => False
  | .ins _ _ fs => fs.lookup ("state" : Str) = none
  | _ => True
def Kept (H H' : Hp) : Prop := ∀ a u, Stay u → H a = some u → H' a = some u
theorem Kept.refl {H : Hp} : Kept H H := fun _ _ _ h => h
theorem Kept.trans {H H1 H2 : Hp} (a : Kept H H1) (b : Kept H1 H2) : Kept H H2 := fun x u s h => b x u s (a x u s h)
theorem same_kept {H H' : Hp} (h : Same H H') : Kept H H' := fun a u _ e => h a u e
theorem same_refl {H : Hp} : Same H H := fun _ _ h => h
theorem same_trans {H H1 H2 : Hp} (a : Same H H1) (b : Same H1 H2) : Same H H2 := fun x u h => b x u (a x u h)
theorem ifN {p : Prop} [Decidable p] {A B : Prop} (h : ¬ p) (b : B) : if decide p = true then A else B := by rw [if_neg (by simp [h])]; exact b
theorem ifY {p : Prop} [Decidable p] {A B : Prop} (h : p) (a : A) : if decide p = true then A else B := by rw [if_pos (by simp [h])]; exact a
theorem ifnN {p : Prop} [Decidable p] {A B : Prop} (h : p) (b : B) : if (!decide p) = true then A else B := by rw [if_neg (by simp [h])]; exact b
theorem ifnY {p : Prop} [Decidable p] {A B : Prop} (h : ¬ p) (a : A) : if (!decide p) = true then A else B := by rw [if_pos (by simp [h])]; exact a
theorem ifD {p : Prop} [Decidable p] {A B : Prop} (a : p → A) (b : ¬ p → B) : if decide p = true then A else B := by
  by_cases h : p
  · exact ifY h (a h)
  · exact ifN h (b h)
theorem ifnD {p : Prop} [Decidable p] {A B : Prop} (a : ¬ p → A) (b : p → B) : if (!decide p) = true then A else B := by
  by_cases h : p
  · exact ifnN h (b h)
  · exact ifnY h (a h)
/-- a list, a tuple that stands -/
abbrev LsT (H : Hp) (a : Addr) (ns : List Str) : Prop := H a = some (.lst (ns.map V.str))
theorem flat_strs (ns : List Str) : (ns.map V.str).all flatV = true := by induction ns <;> simp_all [flatV]
theorem inV_strs (z : Str) (ns : List Str) : inV (V.str z) (ns.map V.str) = decide (z ∈ ns) := by
  induction ns with
  | nil => simp [inV]
  | cons x xs ih =>
    show (eqV (V.str x) (V.str z) || inV (V.str z) (xs.map V.str)) = _
    rw [ih]
    by_cases e : x = z
    · subst e; simp [eqV]
    · have e2 : ¬ z = x := fun q => e q.symm
      simp [eqV, e, e2]
theorem cut_to {xs : List V} {i : Nat} (h : i ≤ xs.length) : cutV xs none (some (i : Int)) = xs.take i := by
  unfold cutV
  rw [HT.sIx_none, HT.sIx_nat, List.drop_zero, Nat.min_eq_left h, Nat.sub_zero]
theorem mem_take_nodup {ns : List Str} (nd : ns.Nodup) {i : Nat} {z : Str} (h : ns[i]? = some z) : z ∉ ns.take i := by
  intro hm
  obtain ⟨j, hj, e⟩ := List.mem_iff_getElem.mp hm
  rw [List.length_take] at hj
  obtain ⟨hi, e2⟩ := List.getElem?_eq_some_iff.mp h
  rw [List.getElem_take, ← e2] at e
  have := (List.getElem_inj nd).mp e
  omega
section
variable {P : Program} {w : World} {K : PySem.W.Frag} {mg : Str → Option Value} {base : Heap}
def spIsName : SpN := fun vs H Q => ∃ z, vs = [.str z] ∧ NameOk z ∧ Q (.bl true) H
theorem sc_is_name : FnScope ["text", "letter"] ["text"] (defScope (top 20)) := ⟨rfl, rfl, rfl, by decide +kernel, rfl, by decide +kernel, by decide +kernel⟩
theorem w_is_name (T : Txt P K mg) : FnN P w K mg base (0 + 1) (T.a_is_name) (spIsName) := by
  refine fn_mk (k := 0) (T.f_is_name) sc_is_name (fun _ _ _ _ _ _ us hl => match us, hl with | [_], _ => rfl) (fun vs H Q h => by obtain ⟨z, rfl, h⟩ := h; rfl) fun cdv A outer s H vs Q hr h => ?_
  have hu := hu_of hr
  have sc := sc_is_name
  obtain ⟨z, rfl, h⟩ := h
  refine ⟨_, (pss_cons (ps_if (PW.pt (pw_or (pt_cmpR op_lt (pe_callB call_len_str (by rfl) T.n_len PySem.boot_len (pa_cons (pv 0) pa_nil)) pe_int (nomark _)) (pw_or1 (pt_cmpR op_gt (pe_callB call_len_str (by rfl) T.n_len PySem.boot_len (pa_cons (pv 0) pa_nil)) (pe_glob (v := .int 12) (by rfl) T.g_MOST_LETTERS ⟨_, rfl⟩) (nomark _)))))
    (pss_one (ps_ret pe_bl))
    pss_nil)
    (pss_cons (ps_for PassesOwn.never rfl (pi_str (pv 0)) (pg_name (i := 1) sc.nd rfl (.inl rfl))
    (pss_one (ps_if (pt_cmpR op_notIn_sign (pv 1) (pe_glob (v := .str letters) (by rfl) T.g_LETTERS ⟨_, rfl⟩) (by rfl))
    (pss_one (ps_ret pe_bl))
    pss_nil)))
    (pss_one (ps_ret pe_bl)))), ?_⟩
  obtain ⟨ok, q⟩ := h
  have h1 := ok.lo
  have h2 := ok.hi
  refine ⟨_, rfl, z, rfl, Nat.le_trans h2 (by decide), _, _, rfl, rfl, _, rfl, ifN (by omega) ?_⟩
  refine ⟨_, rfl, z, rfl, Nat.le_trans h2 (by decide), _, _, rfl, rfl, _, rfl, ifN (by omega) ?_⟩
  refine ⟨_, rfl, z, rfl, for_it walk_str (fun i σ H' => H' = H ∧ ∃ l, σ = [some (.str z), l]) ⟨rfl, _, rfl⟩ (fun _ _ _ _ _ => trivial) ?_ ?_⟩
  · rintro i x σ H1 H2 hi ⟨rfl, l, rfl⟩ ⟨rfl, c, hc, rfl⟩
    refine ⟨_, rfl, c, letters, rfl, rfl, _, rfl, ifnN (mem_letters (ok.az c (by
      have := Array.mem_of_getElem? hc
      simpa using this))) ⟨rfl, _, rfl⟩⟩
  · rintro σ H1 ⟨rfl, _⟩
    exact q
def spChecked : SpN := fun vs H Q => ∃ a ns, vs = [.ref a] ∧ LsT H a ns ∧ (∀ z ∈ ns, NameOk z) ∧ ns.length ≤ 1000 ∧ ∀ p H', H p = none → Same H H' → LsT H' p ns → Q (.ref p) H'
theorem sc_checked_names : FnScope ["names", "name"] ["names"] (defScope (top 25)) := ⟨rfl, rfl, rfl, by decide +kernel, rfl, by decide +kernel, by decide +kernel⟩
theorem w_checked_names (T : Txt P K mg) : FnN P w K mg base (1 + 1) (T.a_checked_names) (spChecked) := by
  refine fn_mk (k := 1) (T.f_checked_names) sc_checked_names (fun _ _ _ _ _ _ us hl => match us, hl with | [_], _ => rfl) (fun vs H Q h => by obtain ⟨a, ns, rfl, h⟩ := h; rfl) fun cdv A outer s H vs Q hr h => ?_
  have hu := hu_of hr
  have sc := sc_checked_names
  obtain ⟨a, ns, rfl, h⟩ := h
  refine ⟨_, (pss_cons (ps_for PassesOwn.never rfl (pi_list (pv 0)) (pg_name (i := 1) sc.nd rfl (.inl rfl))
    (pss_one (ps_if (pt_not (pt_val (pe_cal (by rfl) (pa_cons (pv 1) pa_nil))))
    (pss_one ps_never)
    pss_nil)))
    (pss_one (ps_ret (pe_callTy call_list_of (by rfl) T.n_list (by decide +kernel) (pa_cons (pv 0) pa_nil))))), ?_⟩
  obtain ⟨ha, ok, hz, q⟩ := h
  refine ⟨_, rfl, a, rfl, ⟨_, SqL.of ha⟩, for_it (walk_list (xs := ns.map V.str)) (fun i σ H' => H' = H ∧ ∃ l, σ = [some (.ref a), l]) ⟨rfl, _, rfl⟩ (fun _ _ _ _ h => by rw [h.1]; exact SqL.of ha) ?_ ?_⟩
  · rintro i x σ H1 H2 hi ⟨rfl, l, rfl⟩ ⟨rfl, hx⟩
    obtain ⟨z, hz2, rfl⟩ : ∃ z, z ∈ ns ∧ V.str z = x := by simpa using List.mem_of_getElem? hx
    refine ⟨spIsName, ⟨_, 1, T.g_is_name, T.f_is_name.kp, w_is_name T, hr⟩, _, rfl, z, rfl, ok z hz2, _, rfl, ⟨rfl, _, rfl⟩⟩
  · rintro σ H1 ⟨rfl, l, rfl⟩
    exact ⟨_, rfl, a, _, rfl, .inl (SqL.of ha), fun p hp => q p _ hp (same_new hp) upd_same⟩
def spDist : SpN := fun vs H Q => ∃ a ns, vs = [.ref a] ∧ LsT H a ns ∧ ns.Nodup ∧ ns.length ≤ 1000 ∧ ∀ H', Same H H' → Q .non H'
theorem sc_check_distinct : FnScope ["names", "at", "name"] ["names"] (defScope (top 26)) := ⟨rfl, rfl, rfl, by decide +kernel, rfl, by decide +kernel, by decide +kernel⟩
theorem w_check_distinct (T : Txt P K mg) : FnN P w K mg base (0 + 1) (T.a_check_distinct) (spDist) := by
  refine fn_mk (k := 0) (T.f_check_distinct) sc_check_distinct (fun _ _ _ _ _ _ us hl => match us, hl with | [_], _ => rfl) (fun vs H Q h => by obtain ⟨a, ns, rfl, h⟩ := h; rfl) fun cdv A outer s H vs Q hr h => ?_
  have hu := hu_of hr
  have sc := sc_check_distinct
  obtain ⟨a, ns, rfl, h⟩ := h
  refine ⟨_, (pss_one (ps_for PassesOwn.never rfl (pi_enum (by rfl) T.n_enumerate (pa_cons (pv 0) pa_nil)) (pg_tup rfl (pgs_cons (pg_name (i := 1) sc.nd rfl (.inl rfl)) (pgs_cons (pg_name (i := 2) sc.nd rfl (.inl rfl)) pgs_nil)))
    (pss_one (ps_if (pt_cmpR op_in_seq (pv 2) (pe_slice sl_list (pv 0) po_none (po_some (pv 1))) (by rfl))
    (pss_one ps_never)
    pss_nil)))), ?_⟩
  obtain ⟨ha, nd, hz, q⟩ := h
  refine ⟨_, rfl, a, _, rfl, SqL.of ha, for_it (walk_enum (xs := ns.map V.str)) (fun i σ H' => Same H H' ∧ ∃ l m, σ = [some (.ref a), l, m]) ⟨same_refl, _, _, rfl⟩ (fun _ _ _ _ h => SqL.of (h.1 _ _ ha)) ?_ ?_⟩
  · rintro i x σ H1 H2 hi ⟨hs, l, m, rfl⟩ ⟨T1, x1, x2, rfl, hT, rfl, e1, e2⟩
    cases e1
    obtain ⟨z, ez, rfl⟩ : ∃ z, ns[i]? = some z ∧ V.str z = x2 := by simpa using e2
    have hi' : i ≤ ns.length := by simp at hi; omega
    have ha1 : upd H1 T1 (.tup [.int (i : Nat), .str z]) a = some (.lst (ns.map V.str)) := same_new hT _ _ (hs _ _ ha)
    refine ⟨T1, _, rfl, SqT.of upd_same, rfl, _, _, rfl, _, _, rfl, rfl, _, rfl, _, rfl, _, rfl, _, rfl, a, _, rfl, SqL.of ha1, fun p hp => ⟨p, _, rfl, .inl (SqL.of upd_same), rfl, ?_, ?_⟩⟩
    · rw [cut_to (by simpa using hi'), ← List.map_take]; exact flat_strs _
    · rw [cut_to (by simpa using hi'), ← List.map_take]
      refine ⟨_, rfl, ?_⟩
      show if inV _ _ = true then _ else _
      rw [inV_strs]
      exact ifN (mem_take_nodup nd ez) ⟨same_trans hs (same_trans (same_new hT) (same_new hp)), _, _, rfl⟩
  · rintro σ H1 ⟨hs, l, m, rfl⟩
    exact q _ hs
/-- the first of each of the first i -/
def dd (ns : List Str) : Nat → List Str
  | 0 => []
  | i + 1 => dd ns i ++ match ns[i]? with
    | some z => if z ∈ ns.take i then [] else [z]
    | none => []
def dedup (ns : List Str) : List Str := dd ns ns.length
theorem dd_mem (ns : List Str) : ∀ (i : Nat) (z : Str), z ∈ dd ns i ↔ z ∈ ns.take i
  | 0, z => by simp [dd]
  | i + 1, z => by
    rw [dd, List.mem_append, dd_mem ns i z, List.take_add_one]
    cases e : ns[i]? with
    | none => simp
    | some y =>
      simp only [Option.toList_some, List.mem_append, List.mem_singleton]
      by_cases h : y ∈ ns.take i
      · rw [if_pos h]
        constructor
        · intro q
          exact .inl (q.resolve_right (by simp))
        · rintro (q | q)
          · exact .inl q
          · exact .inl (q ▸ h)
      · rw [if_neg h, List.mem_singleton]
theorem dd_len (ns : List Str) : ∀ i, (dd ns i).length ≤ i
  | 0 => by simp [dd]
  | i + 1 => by
    rw [dd, List.length_append]
    have := dd_len ns i
    split
    · split <;> simp <;> omega
    · simp; omega
theorem dedup_mem {ns : List Str} {z : Str} : z ∈ dedup ns ↔ z ∈ ns := by rw [dedup, dd_mem, List.take_length]
theorem dedup_len (ns : List Str) : (dedup ns).length ≤ ns.length := dd_len ns _
theorem dedup_ne {ns : List Str} (h : ns ≠ []) : dedup ns ≠ [] := by
  cases ns with
  | nil => exact absurd rfl h
  | cons x xs => exact List.ne_nil_of_mem (dedup_mem.mpr (List.mem_cons_self (a := x)))
def spDedup : SpN := fun vs H Q => ∃ a ns, vs = [.ref a] ∧ LsT H a ns ∧ ns.length ≤ 1000 ∧ ∀ p H', H p = none → Same H H' → LsT H' p (dedup ns) → Q (.ref p) H'
theorem sc_without_duplicates : FnScope ["names", "at", "name"] ["names"] (defScope (top 27)) := ⟨rfl, rfl, rfl, by decide +kernel, rfl, by decide +kernel, by decide +kernel⟩
theorem w_without_duplicates (T : Txt P K mg) : FnN P w K mg base (0 + 1) (T.a_without_duplicates) (spDedup) := by
  refine fn_mk (k := 0) (T.f_without_duplicates) sc_without_duplicates (fun _ _ _ _ _ _ us hl => match us, hl with | [_], _ => rfl) (fun vs H Q h => by obtain ⟨a, ns, rfl, h⟩ := h; rfl) fun cdv A outer s H vs Q hr h => ?_
  have hu := hu_of hr
  have sc := sc_without_duplicates
  obtain ⟨a, ns, rfl, h⟩ := h
  refine ⟨_, (pss_one (ps_ret (pe_lc (own := [("at", 1), ("name", 2)]) rfl sc.nd (pi_enum (by rfl) T.n_enumerate (pa_cons (pv 0) pa_nil)) (blkOk_by (N := ["names", "at", "name"]) (sc := (defScope (top 27))) (by decide +kernel)) (fun _ _ _ _ _ => (pg_tupc (n := 2) rfl (pgs_cons (pg_name (i := 1) sc.nd rfl (.inl rfl) (.inr rfl)) (pgs_cons (pg_name (i := 2) sc.nd rfl (.inl rfl) (.inr rfl)) pgs_nil)) rfl rfl rfl)) (fun _ _ _ _ _ => (pts_one (pt_cmpR op_notIn_seqc (pv 2) (pe_slice sl_listc (pv 0) po_none (po_some (pv 1))) (by rfl)))) (fun _ _ _ _ _ => (pv 2))))), ?_⟩
  obtain ⟨ha, hz, q⟩ := h
  refine ⟨_, rfl, a, _, rfl, SqL.of ha, fun D hD => lc_it (walk_enum (xs := ns.map V.str)) (fun i H' => Same H H' ∧ LsT H' D (dd ns i)) ⟨same_new hD, upd_same⟩ (fun _ _ _ h => SqL.of (h.1 _ _ ha)) ?_ ?_⟩
  · rintro i x H1 H2 hi ⟨hs, hd⟩ ⟨T1, x1, x2, rfl, hT, rfl, e1, e2⟩
    cases e1
    obtain ⟨z, ez, rfl⟩ : ∃ z, ns[i]? = some z ∧ V.str z = x2 := by simpa using e2
    have hi' : i ≤ ns.length := by simp at hi; omega
    have ha1 : upd H1 T1 (.tup [.int (i : Nat), .str z]) a = some (.lst (ns.map V.str)) := same_new hT _ _ (hs _ _ ha)
    refine ⟨T1, _, rfl, SqT.of upd_same, rfl, _, _, rfl, _, _, rfl, rfl, rfl, _, rfl, _, rfl, _, rfl, _, rfl, a, _, rfl, SqL.of ha1, fun p hp => ⟨p, _, rfl, .inl (SqL.of upd_same), rfl, ?_, ?_⟩⟩
    · rw [cut_to (by simpa using hi'), ← List.map_take]; exact flat_strs _
    · have hs2 := same_trans (same_new (o := .tup [.int (i : Nat), .str z]) hT) (same_new (o := .lst (cutV (ns.map V.str) none (some (i : Int)))) hp)
      have hd2 := hs2 _ _ hd
      refine ⟨_, rfl, ?_⟩
      show if (!inV _ _) = true then _ else _
      rw [cut_to (by simpa using hi'), ← List.map_take] at hs2 hd2 ⊢
      rw [inV_strs]
      refine ifnD (fun hn => ⟨_, rfl, _, hd2, ?_, same_mut (same_trans hs hs2) hD, ?_⟩) (fun hm => ⟨same_trans hs hs2, ?_⟩)
      · rw [List.length_map]
        exact Nat.lt_of_le_of_lt (dd_len ns i) (Nat.lt_of_le_of_lt (Nat.le_trans hi' hz) (by decide))
      · show upd _ D _ D = _
        rw [upd_same, dd, ez]
        simp [hn]
      · show _ = some (HO.lst ((dd ns (i + 1)).map V.str))
        rw [dd, ez]
        simp only [hm, if_true, List.append_nil]
        exact hd2
  · rintro H1 ⟨hs, hd⟩
    rw [List.length_map] at hd
    exact q D H1 hD hs hd
end
end Fb
set_option maxHeartbeats 4000000
/-! Forkbeats: tunings. -/
namespace Fb
open PySem PySem.Spec PyProof.Rows L2
/-- a dict of ints by texts -/
abbrev dS (l : List (Str × Int)) : List (Key × V) := l.map fun q => (Sum.inr q.1, V.int q.2)
theorem valS (l : List (Str × Int)) (z : Str) : valV (dS l) (Sum.inr z : Key) = (l.lookup z).map V.int := by
  induction l with
  | nil => rfl
  | cons q r ih =>
    obtain ⟨k, v⟩ := q
    by_cases e : k = z
    · subst e
      rw [show dS ((k, v) :: r) = (Sum.inr k, V.int v) :: dS r from rfl, valV_pos rfl]
      simp [List.lookup]
    · rw [show dS ((k, v) :: r) = (Sum.inr k, V.int v) :: dS r from rfl, valV_neg (by intro q; injection q with q; exact e q), ih]
      have e2 : (z == k) = false := by simp; exact fun q => e q.symm
      simp [List.lookup, e2]
theorem dS_new {l : List (Str × Int)} {z : Str} {v : Int} (h : l.lookup z = none) : putK (dS l) (Sum.inr z : Key) (V.int v) = dS (l ++ [(z, v)]) := by
  rw [putK_new _ (by rw [valS, h]; rfl)]
  simp [dS]
theorem lookup_none {l : List (Str × Int)} {z : Str} (h : z ∉ l.map (·.1)) : l.lookup z = none := by
  induction l with
  | nil => rfl
  | cons q r ih =>
    obtain ⟨k, v⟩ := q
    simp only [List.map_cons, List.mem_cons, not_or] at h
    have e2 : (z == k) = false := by simp [h.1]
    simp [List.lookup, e2, ih h.2]
theorem lookup_get {l : List (Str × Int)} {i : Nat} {z : Str} {v : Int} (nd : (l.map (·.1)).Nodup) (h : l[i]? = some (z, v)) : l.lookup z = some v := by
  induction l generalizing i with
  | nil => simp at h
  | cons q r ih =>
    obtain ⟨k, u⟩ := q
    cases i with
    | zero => simp at h; simp [List.lookup, h.1, h.2]
    | succ i =>
      simp only [List.map_cons, List.nodup_cons] at nd
      have hm : z ∈ r.map (·.1) := List.mem_map.mpr ⟨(z, v), List.mem_of_getElem? (by simpa using h), rfl⟩
      have e2 : (z == k) = false := by
        simp
        intro e
        exact nd.1 (e ▸ hm)
      simp [List.lookup, e2]
      exact ih nd.2 (by simpa using h)
theorem zip_fst {ns : List Str} {ps : List Int} (h : ps.length = ns.length) : (ns.zip ps).map (·.1) = ns := List.map_fst_zip (by omega)
/-- a tuning at t: names and pitches -/
abbrev TupSI (H : Hp) (t : Addr) (q : Str × Int) : Prop := H t = some (.tup [.str q.1, .int q.2])
def TunAt (H : Hp) (C t : Addr) (l : List (Str × Int)) : Prop :=
  ∃ dx T R ts, H t = some (.ins C dx [("level", .ref T), ("name_row", .ref R)]) ∧ H T = some (.tup (ts.map V.ref)) ∧ Paired (TupSI H) ts l ∧ l.length ≤ 100
theorem TunAt.at {H H' : Hp} {C t : Addr} {l : List (Str × Int)} (h : TunAt H C t l) (k : Kept H H') : TunAt H' C t l := by
  obtain ⟨dx, T, R, ts, h1, h2, h3, h4⟩ := h
  exact ⟨dx, T, R, ts, k _ _ rfl h1, k _ _ trivial h2, paired_imp (fun _ y q => k _ (.tup [.str y.1, .int y.2]) trivial q) h3, h4⟩
theorem TunAt.tunP {H : Hp} {C t : Addr} {l : List (Str × Int)} (h : TunAt H C t l) : TunP H t C l := by
  obtain ⟨dx, T, R, ts, h1, h2, h3, h4⟩ := h
  exact ⟨dx, T, _, ts, h1, rfl, rfl, h2, h3, by have := Paired.length h3; omega⟩
section
variable {P : Program} {w : World} {K : PySem.W.Frag} {mg : Str → Option Value} {base : Heap}
def spTunInit (C : Addr) : SpN := fun vs H Q => ∃ t a b, vs = [.ref t, .ref a, .ref b] ∧ ∃ dx ns ps, H t = some (.ins C dx []) ∧ LsT H a ns ∧ H b = some (.lst (ps.map V.int)) ∧ ps.length = ns.length ∧ ns.Nodup ∧ (∀ z ∈ ns, NameOk z) ∧ ns.length ≤ 100 ∧
  ∀ H', (∀ x u, x ≠ t → H x = some u → H' x = some u) → TunAt H' C t (ns.zip ps) → Q .non H'
theorem sc_Tuning_init : FnScope ["self", "names", "pitches", "seen", "at", "name"] ["self", "names", "pitches"] (defScope (inC 23 0)) := ⟨rfl, rfl, rfl, by decide +kernel, rfl, by decide +kernel, by decide +kernel⟩
theorem w_Tuning_init (T : Txt P K mg) : FnN P w K mg base (1 + 1) (T.i_Tuning) (spTunInit T.C_Tuning) := by
  refine fn_mk (k := 1) (T.f_Tuning_init) sc_Tuning_init (fun _ _ _ _ _ _ us hl => match us, hl with | [_, _, _], _ => rfl) (fun vs H Q h => by obtain ⟨t, a, b, rfl, h⟩ := h; rfl) fun cdv A outer s H vs Q hr h => ?_
  have hu := hu_of hr
  have sc := sc_Tuning_init
  obtain ⟨t, a, b, rfl, h⟩ := h
  refine ⟨_, (pss_cons (ps_set (i := 3) sc.nd rfl (.inr rfl) pe_dnewK)
    (pss_cons (ps_for PassesOwn.never rfl (pi_enum (by rfl) T.n_enumerate (pa_cons (pv 1) pa_nil)) (pg_tup rfl (pgs_cons (pg_name (i := 4) sc.nd rfl (.inl rfl)) (pgs_cons (pg_name (i := 5) sc.nd rfl (.inl rfl)) pgs_nil)))
    (pss_cons (ps_if (pt_not (pt_val (pe_cal (by rfl) (pa_cons (pv 5) pa_nil))))
    (pss_one ps_never)
    pss_nil)
    (pss_cons (ps_if (pt_cmp (pc_din hu (pv 5) (pv 3)))
    (pss_one ps_never)
    pss_nil)
    (pss_one (ps_dput hu (pv 3) (pv 5) (pe_ix ix_list (pv 2) (pv 4) (fun _ _ => rfl)) rfl)))))
    (pss_cons (ps_fld (pv 0) (pe_callTy call_tuple_of (by rfl) T.n_tuple (by decide +kernel) (pa_cons (pe_lock (pe_lc (own := [("name", 5)]) rfl sc.nd (pi_keys (pv 3)) (blkOk_by (N := ["self", "names", "pitches", "seen", "at", "name"]) (sc := (defScope (inC 23 0))) (by decide +kernel)) (fun _ _ _ _ _ => (pg_name (i := 5) sc.nd rfl (.inl rfl) (.inr rfl))) (fun _ _ _ _ _ => pts_nil) (fun _ _ _ _ _ => (pe_tup (pa_cons (pv 5) (pa_cons (pe_dget hu (pv 3) (pv 5) (fun _ _ => rfl)) pa_nil)))))) pa_nil)) rfl)
    (pss_one (ps_fld (pv 0) (pe_callTy call_tuple_of (by rfl) T.n_tuple (by decide +kernel) (pa_cons (pe_lock (pe_lc (own := [("name", 5)]) rfl sc.nd (pi_keys (pv 3)) (blkOk_by (N := ["self", "names", "pitches", "seen", "at", "name"]) (sc := (defScope (inC 23 0))) (by decide +kernel)) (fun _ _ _ _ _ => (pg_name (i := 5) sc.nd rfl (.inl rfl) (.inr rfl))) (fun _ _ _ _ _ => pts_nil) (fun _ _ _ _ _ => (pv 5)))) pa_nil)) rfl))))), ?_⟩
  obtain ⟨dx, ns, ps, ht, ha, hb, hl, nd, ok, hz, q⟩ := h
  have hta : a ≠ t := ne_of ha ht (by intro z; cases z)
  have htb : b ≠ t := ne_of hb ht (by intro z; cases z)
  intro d hd
  have ndz : ((ns.zip ps).map (·.1)).Nodup := by rw [zip_fst hl]; exact nd
  refine ⟨_, rfl, a, _, rfl, SqL.of (same_new hd _ _ ha), for_it (walk_enum (xs := ns.map V.str)) (fun i σ H' => Same H H' ∧ H' d = some (.dK (dS ((ns.zip ps).take i))) ∧ ∃ l m, σ = [some (.ref t), some (.ref a), some (.ref b), some (.ref d), l, m])
    ⟨same_new hd, upd_same, _, _, rfl⟩ (fun _ _ _ _ h => SqL.of (h.1 _ _ ha)) ?_ ?_⟩
  · rintro i x σ H1 H2 hi ⟨hs, hD, l, m, rfl⟩ ⟨T1, x1, x2, rfl, hT, rfl, e1, e2⟩
    cases e1
    obtain ⟨z, ez, rfl⟩ : ∃ z, ns[i]? = some z ∧ V.str z = x2 := by simpa using e2
    have hi' : i < ns.length := by simpa using hi
    have hs1 := same_trans hs (same_new (o := .tup [.int (i : Nat), .str z]) hT)
    have hD1 := same_new (o := .tup [.int (i : Nat), .str z]) hT _ _ hD
    obtain ⟨v, ev⟩ : ∃ v, ps[i]? = some v := ⟨ps[i]'(by omega), List.getElem?_eq_getElem (by omega)⟩
    have hno : ((ns.zip ps).take i).lookup z = none := lookup_none (by
      rw [List.map_take, zip_fst hl]; exact mem_take_nodup nd ez)
    have hzi : (ns.zip ps)[i]? = some (z, v) := by rw [List.getElem?_zip_eq_some]; exact ⟨ez, ev⟩
    refine ⟨T1, _, rfl, SqT.of upd_same, rfl, _, _, rfl, _, _, rfl, rfl, spIsName, ⟨_, 1, T.g_is_name, T.f_is_name.kp, w_is_name T, hr⟩, _, rfl, z, rfl, ok z (List.mem_of_getElem? ez), _, rfl, ?_⟩
    refine ⟨_, rfl, _, rfl, d, none, rfl, ?_, _, rfl, ?_⟩
    · have := DGet.k (k := Sum.inr z) hD1
      rw [valS, hno] at this
      exact this
    · refine ⟨_, rfl, _, rfl, b, _, _, .int v, rfl, rfl, SqL.of (hs1 _ _ hb), ?_, _, rfl, _, rfl, d, _, rfl, DPut.k (k := Sum.inr z) hD1 ?_, same_mut hs1 hd, ?_, _, _, rfl⟩
      · rw [atI_nat]; simp [ev]
      · rw [List.length_map, List.length_take]
        exact Nat.lt_of_le_of_lt (Nat.min_le_left _ _) (Nat.lt_of_lt_of_le hi' (Nat.le_trans hz (by decide)))
      · rw [upd_same, dS_new hno, List.take_add_one, hzi]
        rfl
  · rintro σ H1 ⟨hs, hD, l, m, rfl⟩
    have e1 : (ns.map V.str).length = (ns.zip ps).length := by simp [hl]
    rw [e1, List.take_length] at hD
    have lk : ∀ {H1 : Hp}, Same H H1 → H1 d = some (.dK (dS (ns.zip ps))) → ∀ (od : Obj) (x : Addr) (u : HO), H x = some u → upd H1 d (.frz od (.dK (dS (ns.zip ps)))) x = some u := fun {H1} hs _ od x u e => by
      rw [upd_ne (ne_of_none e hd)]; exact hs _ _ e
    have hzn : ∀ {i : Nat} {k : Key} {v : V}, (dS (ns.zip ps))[i]? = some (k, v) → ∃ z n, k = Sum.inr z ∧ v = .int n ∧ (ns.zip ps)[i]? = some (z, n) := fun {i k v} e => by
      rw [List.getElem?_map] at e
      cases e2 : (ns.zip ps)[i]? with
      | none => rw [e2] at e; cases e
      | some q =>
        rw [e2] at e
        obtain ⟨z, n⟩ := q
        cases e
        exact ⟨z, n, rfl, rfl, rfl⟩
    refine ⟨d, _, hD, trivial, fun od => ⟨_, rfl, d, od, rfl, .inl ⟨_, upd_same, fun D hD2 => lc_it walk_keys (fun i H' => (∀ x u, upd H1 d (.frz od (.dK (dS (ns.zip ps)))) x = some u → H' x = some u) ∧ ∃ ts, H' D = some (.lst (ts.map V.ref)) ∧ Paired (TupSI H') ts ((ns.zip ps).take i))
      ⟨same_new hD2, [], upd_same, .nil⟩ (fun _ _ _ h => h.1 _ _ upd_same) ?_ ?_⟩⟩⟩
    · rintro i x H2 H3 hi ⟨hk, ts, hts, hp⟩ ⟨rfl, k, v, hkv, rfl⟩
      obtain ⟨z, n, rfl, rfl, hzi⟩ := hzn hkv
      have hd2 := hk _ _ upd_same
      refine ⟨rfl, _, rfl, _, rfl, _, rfl, d, .int n, rfl, .inl ⟨_, Sum.inr z, .inr ⟨od, hd2⟩, rfl, ?_⟩, by show 2 ≤ sizeLine; decide, fun t1 ht1 => ⟨_, (same_new ht1) _ _ hts, ?_, fun x u e => ?_, ts ++ [t1], ?_, ?_⟩⟩
      · rw [valS, lookup_get ndz hzi]; rfl
      · have := Paired.length hp
        rw [List.length_map, this, List.length_take]
        exact Nat.lt_of_le_of_lt (Nat.min_le_right _ _) (Nat.lt_of_le_of_lt (by simp [hl]; omega : (ns.zip ps).length ≤ 100) (by decide))
      · exact same_mut (same_trans hk (same_new ht1)) hD2 x u e
      · rw [upd_same, List.map_append]; rfl
      · have hne : D ≠ t1 := ne_of_none hts ht1
        rw [List.take_add_one, hzi]
        refine paired_snoc (paired_imp (fun y q e => ?_) hp) ?_
        · show upd _ D _ y = _
          rw [upd_ne (ne_of e hts (by intro z; cases z))]
          exact same_new ht1 _ _ e
        · show upd _ D _ t1 = _
          rw [upd_ne hne.symm, upd_same]; rfl
    · rintro H2 ⟨hk, ts, hts, hp⟩
      have e2 : (dS (ns.zip ps)).length = (ns.zip ps).length := by simp
      rw [e2, List.take_length] at hp
      refine ⟨hk _ _ upd_same, ?_⟩
      have hDd : D ≠ d := fun z => by rw [z, upd_same] at hD2; cases hD2
      have old2 : ∀ x u, H x = some u → upd H2 d (.dK (dS (ns.zip ps))) x = some u := fun x u e => by
        rw [upd_ne (ne_of_none e hd)]
        exact hk _ _ (lk hs hD od x u e)
      have hts2 : upd H2 d (.dK (dS (ns.zip ps))) D = some (.lst (ts.map V.ref)) := by rw [upd_ne hDd]; exact hts
      have hp2 : Paired (TupSI (upd H2 d (.dK (dS (ns.zip ps))))) ts (ns.zip ps) := paired_imp (fun y q e => by
        show upd _ d _ y = _
        rw [upd_ne (ne_of e (hk _ _ upd_same) (by intro z; cases z))]
        exact e) hp
      refine ⟨D, _, rfl, .inl ⟨SqL.of hts2, fun p1 hp1 => ?_⟩⟩
      have hp1t : p1 ≠ t := fun z => by rw [z, old2 _ _ ht] at hp1; cases hp1
      refine ⟨_, rfl, t, _, dx, _, rfl, same_new hp1 _ _ (old2 _ _ ht), T.cl_Tuning, T.n_Tuning_level, by decide, ?_⟩
      -- the second comprehension
      have hdd : ∀ {G : Hp} {u : HO}, G d = some (.dK (dS (ns.zip ps))) → (G t = some u → True) → True := fun _ _ => trivial
      have hdt : d ≠ t := (ne_of_none ht hd).symm
      have hd1 : upd (upd (upd H2 d (.dK (dS (ns.zip ps)))) p1 (.tup (ts.map V.ref))) t (.ins T.C_Tuning dx (putF "level" (.ref p1) [])) d = some (.dK (dS (ns.zip ps))) := by
        rw [upd_ne hdt, upd_ne (fun z => by rw [← z, upd_same] at hp1; cases hp1), upd_same]
      refine ⟨d, _, hd1, trivial, fun od2 => ⟨_, rfl, d, od2, rfl, .inl ⟨_, upd_same, fun D2 hD3 => lc_it walk_keys (fun i H' => (∀ x u, upd (upd (upd (upd H2 d (.dK (dS (ns.zip ps)))) p1 (.tup (ts.map V.ref))) t (.ins T.C_Tuning dx (putF "level" (.ref p1) []))) d (.frz od2 (.dK (dS (ns.zip ps)))) x = some u → H' x = some u) ∧ H' D2 = some (.lst ((ns.take i).map V.str)))
        ⟨same_new hD3, upd_same⟩ (fun _ _ _ h => h.1 _ _ upd_same) ?_ ?_⟩⟩⟩
      · rintro i x G1 G2 hi ⟨hk2, hl2⟩ ⟨rfl, k, v, hkv, rfl⟩
        obtain ⟨z, n, rfl, rfl, hzi⟩ := hzn hkv
        obtain ⟨ez, _⟩ := List.getElem?_zip_eq_some.mp hzi
        refine ⟨rfl, _, rfl, _, hl2, ?_, fun x u e => ?_, ?_⟩
        · rw [List.length_map, List.length_take]
          exact Nat.lt_of_le_of_lt (Nat.min_le_right _ _) (Nat.lt_of_le_of_lt hz (by decide))
        · exact same_mut hk2 hD3 x u e
        · rw [upd_same, List.take_add_one, ez, List.map_append]; rfl
      · rintro G1 ⟨hk2, hl2⟩
        have e3 : (dS (ns.zip ps)).length = ns.length := by simp [hl]
        rw [e3, List.take_length] at hl2
        refine ⟨hk2 _ _ upd_same, ?_⟩
        have hD2d : D2 ≠ d := fun z => by rw [z, upd_same] at hD3; cases hD3
        have hl3 : upd G1 d (.dK (dS (ns.zip ps))) D2 = some (.lst (ns.map V.str)) := by rw [upd_ne hD2d]; exact hl2
        have out : ∀ x u, x ≠ d → x ≠ t → x ≠ p1 → H2 x = some u → upd G1 d (.dK (dS (ns.zip ps))) x = some u := fun x u h1 h2 h3 e => by
          rw [upd_ne h1]
          refine hk2 _ _ ?_
          rw [upd_ne h1, upd_ne h2, upd_ne h3, upd_ne h1]; exact e
        have ht3 : upd G1 d (.dK (dS (ns.zip ps))) t = some (.ins T.C_Tuning dx [("level", .ref p1)]) := by
          rw [upd_ne hdt.symm]
          refine hk2 _ _ ?_
          rw [upd_ne hdt.symm, upd_same]; rfl
        have hp1d : p1 ≠ d := fun z => by rw [z, upd_same] at hp1; cases hp1
        have hp3 : upd G1 d (.dK (dS (ns.zip ps))) p1 = some (.tup (ts.map V.ref)) := by
          rw [upd_ne hp1d]
          refine hk2 _ _ ?_
          rw [upd_ne hp1d, upd_ne hp1t, upd_same]
        have hts3 : Paired (TupSI (upd G1 d (.dK (dS (ns.zip ps))))) ts (ns.zip ps) := paired_imp (fun y q e => out _ _ (ne_of e (hk _ _ upd_same) (by intro z; cases z)) (ne_of e (hk _ _ (lk hs hD od _ _ ht)) (by intro z; cases z)) (fun z => by
          rw [z] at e
          rw [upd_ne hp1d, e] at hp1
          cases hp1) e) hp
        refine ⟨D2, _, rfl, .inl ⟨SqL.of hl3, fun p2 hp2 => ?_⟩⟩
        refine ⟨_, rfl, t, _, dx, _, rfl, same_new hp2 _ _ ht3, T.cl_Tuning, T.n_Tuning_name_row, (by show 1 < 1000; decide), q _ (fun x u hx e => ?_) ⟨dx, p1, p2, ts, ?_, ?_, ?_, by simp [hl]; omega⟩⟩
        · have hxp1 : x ≠ p1 := fun z => by rw [z] at e; rw [old2 _ _ e] at hp1; cases hp1
          rw [upd_ne hx]
          exact same_new hp2 _ _ (out _ _ (ne_of_none e hd) hx hxp1 (hk _ _ (lk hs hD od _ _ e)))
        · rw [upd_same]; rfl
        · rw [upd_ne (fun z => hp1t z)]; exact same_new hp2 _ _ hp3
        · exact paired_imp (fun y q e => by
            show upd _ t _ y = _
            rw [upd_ne (ne_of e ht3 (by intro z; cases z))]
            exact same_new hp2 _ _ e) hts3
def spGetitem (C : Addr) : SpN := fun vs H Q => ∃ t z, vs = [.ref t, .str z] ∧ ∃ l v, TunAt H C t l ∧ l.lookup z = some v ∧ ∀ H', Same H H' → Q (.int v) H'
theorem sc_Tuning_getitem : FnScope ["self", "at", "name", "pitch"] ["self", "at"] (defScope (inC 23 8)) := ⟨rfl, rfl, rfl, by decide +kernel, rfl, by decide +kernel, by decide +kernel⟩
theorem w_Tuning_getitem (T : Txt P K mg) : FnN P w K mg base (0 + 1) (T.a_Tuning_getitem) (spGetitem T.C_Tuning) := by
  refine fn_mk (k := 0) (T.f_Tuning_getitem) sc_Tuning_getitem (fun _ _ _ _ _ _ us hl => match us, hl with | [_, _], _ => rfl) (fun vs H Q h => by obtain ⟨t, z, rfl, h⟩ := h; rfl) fun cdv A outer s H vs Q hr h => ?_
  have hu := hu_of hr
  have sc := sc_Tuning_getitem
  obtain ⟨t, z, rfl, h⟩ := h
  refine ⟨_, (pss_cons (ps_for PassesOwn.never rfl (pi_tup (pe_fld (pv 0) rfl)) (pg_tup rfl (pgs_cons (pg_name (i := 2) sc.nd rfl (.inl rfl)) (pgs_cons (pg_name (i := 3) sc.nd rfl (.inl rfl)) pgs_nil)))
    (pss_one (ps_if (pt_cmpR op_eq (pv 2) (pv 1) (nomark _))
    (pss_one (ps_ret (pv 3)))
    pss_nil)))
    (pss_one ps_never)), ?_⟩
  obtain ⟨l, v, ⟨dx, T1, R, ts, h1, h2, h3, h4⟩, hv, q⟩ := h
  refine ⟨_, rfl, t, _, dx, _, _, rfl, h1, T.cl_Tuning, T.n_Tuning_level, rfl, T1, rfl, ⟨_, SqT.of h2⟩, for_it (walk_tup (xs := ts.map V.ref)) (fun i σ H' => H' = H ∧ (l.take i).lookup z = none ∧ ∃ a b, σ = [some (.ref t), some (.str z), a, b]) ⟨rfl, rfl, _, _, rfl⟩ (fun _ _ _ _ h => by rw [h.1]; exact SqT.of h2) ?_ ?_⟩
  · rintro i x σ H1 H2 hi ⟨rfl, hn, a, b, rfl⟩ ⟨rfl, hx⟩
    obtain ⟨t1, et, rfl⟩ : ∃ t1, ts[i]? = some t1 ∧ V.ref t1 = x := by simpa using hx
    obtain ⟨⟨k, n⟩, ek, hk⟩ := paired_get h3 et
    refine ⟨t1, _, rfl, SqT.of hk, rfl, _, _, rfl, _, _, rfl, rfl, _, rfl, _, rfl, rfl, _, rfl, ?_⟩
    refine ifD (fun e => ?_) (fun e => ⟨rfl, ?_, _, _, rfl⟩)
    · have e : k = z := by injection e
      subst e
      have : l.lookup k = some n := by
        have h5 : l = l.take i ++ l.drop i := (List.take_append_drop i l).symm
        have h6 : l.drop i = (k, n) :: l.drop (i + 1) := by
          obtain ⟨hl, e⟩ := List.getElem?_eq_some_iff.mp ek
          rw [List.drop_eq_getElem_cons hl, e]
        rw [h5, List.lookup_append, hn, h6]
        simp [List.lookup]
      rw [this] at hv
      cases hv
      exact ⟨_, rfl, q _ same_refl⟩
    · rw [List.take_add_one, ek, List.lookup_append, hn]
      have e2 : (z == k) = false := by simp; exact fun q => e (by rw [q])
      simp [List.lookup, e2]
  · rintro σ H1 ⟨rfl, hn, _⟩
    rw [List.length_map, Paired.length h3, List.take_length, hv] at hn
    cases hn
def spContains (C : Addr) : SpN := fun vs H Q => ∃ t z, vs = [.ref t, .str z] ∧ ∃ l, TunAt H C t l ∧ ∀ H', Same H H' → Q (.bl (decide (z ∈ l.map (·.1)))) H'
theorem sc_Tuning_contains : FnScope ["self", "x", "name", "pitch"] ["self", "x"] (defScope (inC 23 10)) := ⟨rfl, rfl, rfl, by decide +kernel, rfl, by decide +kernel, by decide +kernel⟩
theorem w_Tuning_contains (T : Txt P K mg) : FnN P w K mg base (0 + 1) (T.a_Tuning_contains) (spContains T.C_Tuning) := by
  refine fn_mk (k := 0) (T.f_Tuning_contains) sc_Tuning_contains (fun _ _ _ _ _ _ us hl => match us, hl with | [_, _], _ => rfl) (fun vs H Q h => by obtain ⟨t, z, rfl, h⟩ := h; rfl) fun cdv A outer s H vs Q hr h => ?_
  have hu := hu_of hr
  have sc := sc_Tuning_contains
  obtain ⟨t, z, rfl, h⟩ := h
  refine ⟨_, (pss_one (ps_ret (pe_cmpR op_in_seq (pv 1) (pe_lc (own := [("name", 2), ("pitch", 3)]) rfl sc.nd (pi_tup (pe_fld (pv 0) rfl)) (blkOk_by (N := ["self", "x", "name", "pitch"]) (sc := (defScope (inC 23 10))) (by decide +kernel)) (fun _ _ _ _ _ => (pg_tupc (n := 2) rfl (pgs_cons (pg_name (i := 2) sc.nd rfl (.inl rfl) (.inr rfl)) (pgs_cons (pg_name (i := 3) sc.nd rfl (.inl rfl) (.inr rfl)) pgs_nil)) rfl rfl rfl)) (fun _ _ _ _ _ => pts_nil) (fun _ _ _ _ _ => (pv 2))) (by rfl)))), ?_⟩
  obtain ⟨l, ⟨dx, T1, R, ts, h1, h2, h3, h4⟩, q⟩ := h
  refine ⟨_, rfl, _, rfl, t, _, dx, _, _, rfl, h1, T.cl_Tuning, T.n_Tuning_level, rfl, T1, rfl, ⟨_, SqT.of h2⟩, fun D hD => lc_it (walk_tup (xs := ts.map V.ref)) (fun i H' => Same H H' ∧ H' D = some (.lst (((l.map (·.1)).take i).map V.str))) ⟨same_new hD, upd_same⟩ (fun _ _ _ h => SqT.of (h.1 _ _ h2)) ?_ ?_⟩
  · rintro i x H1 H2 hi ⟨hs, hl⟩ ⟨rfl, hx⟩
    obtain ⟨t1, et, rfl⟩ : ∃ t1, ts[i]? = some t1 ∧ V.ref t1 = x := by simpa using hx
    obtain ⟨⟨k, n⟩, ek, hk⟩ := paired_get h3 et
    refine ⟨t1, _, rfl, SqT.of (hs _ _ hk), rfl, _, _, rfl, _, _, rfl, rfl, rfl, _, rfl, _, hl, ?_, same_mut hs hD, ?_⟩
    · rw [List.length_map, List.length_take]
      exact Nat.lt_of_le_of_lt (Nat.min_le_right _ _) (Nat.lt_of_le_of_lt (by simpa using h4) (by decide : 100 < sizeLine))
    · rw [upd_same, List.take_add_one, List.getElem?_map, ek, List.map_append]; rfl
  · rintro H1 ⟨hs, hl⟩
    rw [List.length_map, Paired.length h3, List.take_of_length_le (by simp)] at hl
    refine ⟨D, _, rfl, .inl (SqL.of hl), rfl, flat_strs _, ?_⟩
    show Q (V.bl (inV _ _)) H1
    rw [inV_strs]
    exact q _ hs
def iabs (x : Int) : Int := if x < 0 then -x else x
def spBeats (C : Addr) : SpN := fun vs H Q => ∃ t a b, vs = [.ref t, .str a, .str b] ∧ ∃ l x y, TunAt H C t l ∧ l.lookup a = some x ∧ l.lookup b = some y ∧ ∀ H', Same H H' → Q (.int (iabs (x - y))) H'
theorem TunAt.same {H H' : Hp} {C t : Addr} {l : List (Str × Int)} (h : TunAt H C t l) (k : Same H H') : TunAt H' C t l := h.at (same_kept k)
theorem TunAt.ins {H : Hp} {C t : Addr} {l : List (Str × Int)} (h : TunAt H C t l) : ∃ dx fs, H t = some (.ins C dx fs) ∧ fs.lookup ("beats" : Str) = none := by
  obtain ⟨dx, T, R, ts, h1, _⟩ := h
  exact ⟨dx, _, h1, rfl⟩
theorem sc_Tuning_beats : FnScope ["self", "a", "b", "first"] ["self", "a", "b"] (defScope (inC 23 5)) := ⟨rfl, rfl, rfl, by decide +kernel, rfl, by decide +kernel, by decide +kernel⟩
theorem w_Tuning_beats (T : Txt P K mg) : FnN P w K mg base (2 + 1) (T.a_Tuning_beats) (spBeats T.C_Tuning) := by
  refine fn_mk (k := 2) (T.f_Tuning_beats) sc_Tuning_beats (fun _ _ _ _ _ _ us hl => match us, hl with | [_, _, _], _ => rfl) (fun vs H Q h => by obtain ⟨t, a, b, rfl, h⟩ := h; rfl) fun cdv A outer s H vs Q hr h => ?_
  have hu := hu_of hr
  have sc := sc_Tuning_beats
  obtain ⟨t, a, b, rfl, h⟩ := h
  refine ⟨_, (pss_cons (ps_set (i := 3) sc.nd rfl (.inl rfl) (pe_ixOc (pv 0) (pv 1)))
    (pss_one (ps_ret (pe_callB call_abs (by rfl) T.n_abs (by decide +kernel) (pa_cons (pe_op op_sub (pv 3) (pe_ixOc (pv 0) (pv 2))) pa_nil))))), ?_⟩
  obtain ⟨l, x, y, ht, hx, hy, q⟩ := h
  obtain ⟨dx, fs, h1, _⟩ := ht.ins
  refine ⟨_, rfl, _, rfl, t, _, dx, fs, _, 1, spGetitem T.C_Tuning, rfl, h1, T.s_Tuning_getitem.spc, T.fi_Tuning_getitem, w_Tuning_getitem T, hr, t, a, rfl, l, x, ht, hx, fun H1 hs => ?_⟩
  refine ⟨_, rfl, _, rfl, _, rfl, t, _, dx, fs, _, 1, spGetitem T.C_Tuning, rfl, hs _ _ h1, T.s_Tuning_getitem.spc, T.fi_Tuning_getitem, w_Tuning_getitem T, hr, t, b, rfl, l, y, ht.same hs, hy, fun H2 hs2 => ⟨_, _, rfl, rfl, _, rfl, q _ (same_trans hs hs2)⟩⟩
end
end Fb
set_option maxHeartbeats 4000000
/-! Forkbeats: plain facts, kept. -/
namespace Fb
open PySem PySem.Spec PyProof.Rows L2
theorem cut_one {x : V} {xs : List V} : cutV (x :: xs) (some 1) none = xs := by
  unfold cutV
  have e : HT.sIx (x :: xs).length 0 (some (1 : Int)) = min 1 (x :: xs).length := HT.sIx_nat _ _ 1
  rw [e, HT.sIx_none, List.length_cons, show min 1 (xs.length + 1) = 1 by omega]
  simp
theorem map_get {α β : Type} {f : α → β} {xs : List α} {i : Nat} {x : β} (h : (xs.map f)[i]? = some x) : ∃ z, xs[i]? = some z ∧ f z = x := by
  rw [List.getElem?_map] at h
  cases e : xs[i]? with
  | none => rw [e] at h; cases h
  | some z => rw [e] at h; cases h; exact ⟨z, rfl, rfl⟩
/-- a plain fact -/
inductive Px where
  | above (a b : Str)
  | intune (a b : Str)
  | between (a b c : Str)
  | highest (a : Str) (ns : List Str)
  | asoften (a b c d : Str)
  | more (a b c d : Str)
  | trio (a b c : Str) (rs : List Int)
def Px.names : Px → List Str
  | .above a b => [a, b]
  | .intune a b => [a, b]
  | .between a b c => [a, b, c]
  | .highest a ns => a :: ns
  | .asoften a b c d => [a, b, c, d]
  | .more a b c d => [a, b, c, d]
  | .trio a b c _ => [a, b, c]
abbrev Lv := Str → Int
/-- three in order -/
def sort3 (x y z : Int) : List Int := if x ≤ y then (if y ≤ z then [x, y, z] else if x ≤ z then [x, z, y] else [z, x, y]) else (if x ≤ z then [y, x, z] else if y ≤ z then [y, z, x] else [z, y, x])
def Px.ev : Px → Lv → Bool
  | .above a b, f => decide (f b < f a)
  | .intune a b, f => decide (f a = f b)
  | .between a b c, f => (decide (f a < f b) && decide (f b < f c)) || (decide (f c < f b) && decide (f b < f a))
  | .highest a ns, f => ns.all fun z => decide (f z < f a)
  | .asoften a b c d, f => decide (iabs (f a - f b) = iabs (f c - f d))
  | .more a b c d, f => decide (iabs (f c - f d) < iabs (f a - f b))
  | .trio a b c rs, f => decide (sort3 (iabs (f a - f b)) (iabs (f b - f c)) (iabs (f a - f c)) = rs)
theorem sort3_perm (x y z : Int) : (sort3 x y z).Perm [x, y, z] := by
  unfold sort3
  split <;> split <;> (try split)
  · exact .refl _
  · exact .cons _ (.swap _ _ _)
  · exact (List.Perm.swap _ _ _).trans (.cons _ (.swap _ _ _))
  · exact .swap _ _ _
  · exact (List.Perm.cons _ (.swap _ _ _)).trans (.swap _ _ _)
  · refine (List.Perm.cons _ (.swap _ _ _)).trans ((List.Perm.swap _ _ _).trans (.cons _ (.swap _ _ _)))
theorem sort3_sorted (x y z : Int) : (sort3 x y z).Pairwise (· ≤ ·) := by
  unfold sort3
  split <;> split <;> (try split) <;> simp <;> omega
theorem sort3_is {x y z : Int} {l : List Int} (p : l.Perm [x, y, z]) (s : l.Pairwise (· ≤ ·)) : l = sort3 x y z :=
  (p.trans (sort3_perm x y z).symm).eq_of_pairwise (le := (· ≤ ·)) (fun a b _ _ h1 h2 => Int.le_antisymm h1 h2) s (sort3_sorted x y z)
section
variable {P : Program} {w : World} {K : PySem.W.Frag} {mg : Str → Option Value} {base : Heap}
/-- the class of a plain fact -/
def Px.cls (T : Txt P K mg) : Px → Addr
  | .above .. => T.C_Above
  | .intune .. => T.C_InTune
  | .between .. => T.C_Between
  | .highest .. => T.C_Highest
  | .asoften .. => T.C_AsOften
  | .more .. => T.C_MoreOften
  | .trio .. => T.C_Trio
/-- what every fact holds -/
def Hd (H : Hp) (f C : Addr) (ns : List Str) (d : Int) (m : Nat) (more : List (Str × V) → Prop) : Prop :=
  ∃ dx fs l tx, H f = some (.ins C dx fs) ∧ fs.lookup ("word_text" : Str) = some (.str tx) ∧ tx.length ≤ m ∧ fs.lookup ("named" : Str) = some (.ref l) ∧ LsT H l ns ∧ fs.lookup ("depth" : Str) = some (.int d) ∧
    fs.lookup ("forks" : Str) = none ∧ fs.lookup ("kept" : Str) = none ∧ fs.lookup ("state" : Str) = none ∧ (ns ≠ [] ∧ ns.length ≤ 100 ∧ ∀ z ∈ ns, NameOk z) ∧ more fs
theorem Hd.at {H H' : Hp} {f C : Addr} {ns : List Str} {d : Int} {m : Nat} {more more' : List (Str × V) → Prop} (h : Hd H f C ns d m more) (k : Kept H H') (hm : ∀ fs, more fs → more' fs) : Hd H' f C ns d m more' := by
  obtain ⟨dx, fs, l, tx, h1, h2, h3, h4, h5, h6, h7, h8, h9, hn, h10⟩ := h
  refine ⟨dx, fs, l, tx, k _ _ h9 h1, h2, h3, h4, k _ _ ?_ h5, h6, h7, h8, h9, hn, hm _ h10⟩
  cases ns <;> exact trivial
def Px.xtra (H : Hp) : Px → List (Str × V) → Prop
  | .trio _ _ _ rs, fs => ∃ r, fs.lookup ("ranked" : Str) = some (.ref r) ∧ H r = some (.lst (rs.map V.int))
  | _, _ => True
theorem stay_ints (rs : List Int) : Stay (.lst (rs.map V.int)) := by
  match rs with
  | [] => exact trivial
  | [_] => exact trivial
  | [_, _] => exact trivial
  | [_, _, _] => exact trivial
  | [_, _, _, _] => exact trivial
  | _ :: _ :: _ :: _ :: _ :: _ => exact trivial
theorem stay_strs (rs : List Str) : Stay (.lst (rs.map V.str)) := by cases rs <;> exact trivial
theorem stay_refs (rs : List Addr) : Stay (.lst (rs.map V.ref)) := by cases rs <;> exact trivial
theorem Px.xtra_at {H H' : Hp} {p : Px} {fs : List (Str × V)} (k : Kept H H') (h : p.xtra H fs) : p.xtra H' fs := by
  cases p with
  | trio a b c rs =>
    obtain ⟨r, h1, h2⟩ := h
    exact ⟨r, h1, k _ _ (stay_ints rs) h2⟩
  | _ => exact trivial
def PlainAt (T : Txt P K mg) (H : Hp) (f : Addr) (p : Px) : Prop := Hd H f (p.cls T) p.names 1 500 (p.xtra H)
theorem PlainAt.at {T : Txt P K mg} {H H' : Hp} {f : Addr} {p : Px} (h : PlainAt T H f p) (k : Kept H H') : PlainAt T H' f p := Hd.at h k fun _ => Px.xtra_at k
/-- the pitches of a tuning by name -/
def lvOf (l : List (Str × Int)) : Lv := fun z => (l.lookup z).getD 0
theorem lv_get {l : List (Str × Int)} {z : Str} (h : (l.lookup z).isSome = true) : l.lookup z = some (lvOf l z) := by
  unfold lvOf
  cases e : l.lookup z with
  | none => rw [e] at h; cases h
  | some v => rfl
def spKeptP (T : Txt P K mg) (p : Px) : SpN := fun vs H Q => ∃ f t, vs = [.ref f, .ref t] ∧ ∃ l, PlainAt T H f p ∧ TunAt H T.C_Tuning t l ∧ (∀ z ∈ p.names, (l.lookup z).isSome = true) ∧ ∀ H', Same H H' → Q (.bl (p.ev (lvOf l))) H'
theorem mth_beats (T : Txt P K mg) {A : Around} (hr : Room 3 A) : Mth ⟨P, w, K, mg, base, A⟩ T.C_Tuning "beats" (spBeats T.C_Tuning) := ⟨T.cl_Tuning, _, 3, T.m_Tuning_beats, w_Tuning_beats T, hr⟩
theorem sc_kept_Above : FnScope ["self", "tuning"] ["self", "tuning"] (defScope (inC 29 1)) := ⟨rfl, rfl, rfl, by decide +kernel, rfl, by decide +kernel, by decide +kernel⟩
theorem w_kept_Above (T : Txt P K mg) {xa xb : Str} : FnN P w K mg base (2 + 1) (T.k_Above) (spKeptP T (.above xa xb)) := by
  refine fn_mk (k := 2) (T.fk_Above) sc_kept_Above (fun _ _ _ _ _ _ us hl => match us, hl with | [_, _], _ => rfl) (fun vs H Q h => by obtain ⟨f, t, rfl, h⟩ := h; rfl) fun cdv A outer s H vs Q hr h => ?_
  have hu := hu_of hr
  have sc := sc_kept_Above
  obtain ⟨f, t, rfl, h⟩ := h
  refine ⟨_, (pss_one (ps_ret (pe_cmpR op_gt (pe_ixOc (pv 1) (pe_ix ix_list (pe_fld (pv 0) rfl) pe_int (fun _ _ => rfl))) (pe_ixOc (pv 1) (pe_ix ix_list (pe_fld (pv 0) rfl) pe_int (fun _ _ => rfl))) (nomark _)))), ?_⟩
  obtain ⟨l, hf, ht, hz, q⟩ := h
  obtain ⟨dx, fs, ln, tx, h1, _, _, h4, h5, _⟩ := id hf
  obtain ⟨dt, ft, ht1, _⟩ := ht.ins
  have ga := lv_get (hz xa (by simp [Px.names]))
  have gb := lv_get (hz xb (by simp [Px.names]))
  refine ⟨_, rfl, _, rfl, f, _, dx, fs, _, rfl, h1, T.fc_Above.cl, T.fc_Above.n_named, h4, ln, _, _, .str xa, rfl, rfl, SqL.of h5, rfl, t, _, dt, ft, _, 1, spGetitem T.C_Tuning, rfl, ht1, T.s_Tuning_getitem.spc, T.fi_Tuning_getitem, w_Tuning_getitem T, hr, t, xa, rfl, l, _, ht, ga, fun H1 hs => ?_⟩
  refine ⟨_, rfl, _, rfl, f, _, dx, fs, _, rfl, hs _ _ h1, T.fc_Above.cl, T.fc_Above.n_named, h4, ln, _, _, .str xb, rfl, rfl, SqL.of (hs _ _ h5), rfl, t, _, dt, ft, _, 1, spGetitem T.C_Tuning, rfl, hs _ _ ht1, T.s_Tuning_getitem.spc, T.fi_Tuning_getitem, w_Tuning_getitem T, hr, t, xb, rfl, l, _, ht.same hs, gb, fun H2 hs2 => ?_⟩
  exact ⟨_, _, rfl, rfl, q _ (same_trans hs hs2)⟩
theorem sc_kept_InTune : FnScope ["self", "tuning"] ["self", "tuning"] (defScope (inC 30 1)) := ⟨rfl, rfl, rfl, by decide +kernel, rfl, by decide +kernel, by decide +kernel⟩
theorem w_kept_InTune (T : Txt P K mg) {xa xb : Str} : FnN P w K mg base (2 + 1) (T.k_InTune) (spKeptP T (.intune xa xb)) := by
  refine fn_mk (k := 2) (T.fk_InTune) sc_kept_InTune (fun _ _ _ _ _ _ us hl => match us, hl with | [_, _], _ => rfl) (fun vs H Q h => by obtain ⟨f, t, rfl, h⟩ := h; rfl) fun cdv A outer s H vs Q hr h => ?_
  have hu := hu_of hr
  have sc := sc_kept_InTune
  obtain ⟨f, t, rfl, h⟩ := h
  refine ⟨_, (pss_one (ps_ret (pe_cmpR op_eq (pe_ixOc (pv 1) (pe_ix ix_list (pe_fld (pv 0) rfl) pe_int (fun _ _ => rfl))) (pe_ixOc (pv 1) (pe_ix ix_list (pe_fld (pv 0) rfl) pe_int (fun _ _ => rfl))) (nomark _)))), ?_⟩
  obtain ⟨l, hf, ht, hz, q⟩ := h
  obtain ⟨dx, fs, ln, tx, h1, _, _, h4, h5, _⟩ := id hf
  obtain ⟨dt, ft, ht1, _⟩ := ht.ins
  have ga := lv_get (hz xa (by simp [Px.names]))
  have gb := lv_get (hz xb (by simp [Px.names]))
  refine ⟨_, rfl, _, rfl, f, _, dx, fs, _, rfl, h1, T.fc_InTune.cl, T.fc_InTune.n_named, h4, ln, _, _, .str xa, rfl, rfl, SqL.of h5, rfl, t, _, dt, ft, _, 1, spGetitem T.C_Tuning, rfl, ht1, T.s_Tuning_getitem.spc, T.fi_Tuning_getitem, w_Tuning_getitem T, hr, t, xa, rfl, l, _, ht, ga, fun H1 hs => ?_⟩
  refine ⟨_, rfl, _, rfl, f, _, dx, fs, _, rfl, hs _ _ h1, T.fc_InTune.cl, T.fc_InTune.n_named, h4, ln, _, _, .str xb, rfl, rfl, SqL.of (hs _ _ h5), rfl, t, _, dt, ft, _, 1, spGetitem T.C_Tuning, rfl, hs _ _ ht1, T.s_Tuning_getitem.spc, T.fi_Tuning_getitem, w_Tuning_getitem T, hr, t, xb, rfl, l, _, ht.same hs, gb, fun H2 hs2 => ?_⟩
  refine ⟨rfl, ?_⟩
  have e : decide (V.int (lvOf l xa) = V.int (lvOf l xb)) = (Px.intune xa xb).ev (lvOf l) := by simp [Px.ev]
  rw [e]
  exact q _ (same_trans hs hs2)
theorem sc_kept_Between : FnScope ["self", "tuning", "low", "mid", "high", "name"] ["self", "tuning"] (defScope (inC 31 1)) := ⟨rfl, rfl, rfl, by decide +kernel, rfl, by decide +kernel, by decide +kernel⟩
theorem w_kept_Between (T : Txt P K mg) {xa xb xc : Str} : FnN P w K mg base (2 + 1) (T.k_Between) (spKeptP T (.between xa xb xc)) := by
  refine fn_mk (k := 2) (T.fk_Between) sc_kept_Between (fun _ _ _ _ _ _ us hl => match us, hl with | [_, _], _ => rfl) (fun vs H Q h => by obtain ⟨f, t, rfl, h⟩ := h; rfl) fun cdv A outer s H vs Q hr h => ?_
  have hu := hu_of hr
  have sc := sc_kept_Between
  obtain ⟨f, t, rfl, h⟩ := h
  refine ⟨_, (pss_cons (ps_asg (pe_lc (own := [("name", 5)]) rfl sc.nd (pi_list (pe_fld (pv 0) rfl)) (blkOk_by (N := ["self", "tuning", "low", "mid", "high", "name"]) (sc := (defScope (inC 31 1))) (by decide +kernel)) (fun _ _ _ _ _ => (pg_name (i := 5) sc.nd rfl (.inl rfl) (.inr rfl))) (fun _ _ _ _ _ => pts_nil) (fun _ _ _ _ _ => (pe_ixOc (pv 1) (pv 5)))) (pg_unl rfl (pgs_cons (pg_name (i := 2) sc.nd rfl (.inl rfl)) (pgs_cons (pg_name (i := 3) sc.nd rfl (.inl rfl)) (pgs_cons (pg_name (i := 4) sc.nd rfl (.inl rfl)) pgs_nil)))))
    (pss_one (ps_ret (pe_or (pe_chain op_lt op_lt (pv 2) (pv 3) (pv 4)) (pe_one (pe_chain op_lt op_lt (pv 4) (pv 3) (pv 2))))))), ?_⟩
  obtain ⟨l, hf, ht, hz, q⟩ := h
  obtain ⟨dx, fs, ln, tx, h1, _, _, h4, h5, _⟩ := id hf
  obtain ⟨dt, ft, ht1, _⟩ := ht.ins
  refine ⟨_, rfl, f, _, dx, fs, _, rfl, h1, T.fc_Between.cl, T.fc_Between.n_named, h4, ln, rfl, ⟨_, SqL.of h5⟩, fun D hD => lc_it (walk_list (xs := [xa, xb, xc].map V.str)) (fun i H' => Same H H' ∧ H' D = some (.lst (([xa, xb, xc].take i).map fun z => V.int (lvOf l z)))) ⟨same_new hD, upd_same⟩ (fun _ _ _ h => SqL.of (h.1 _ _ h5)) ?_ ?_⟩
  · rintro i x H1 H2 hi ⟨hs, hl⟩ ⟨rfl, hx⟩
    obtain ⟨z, ez, rfl⟩ : ∃ z, [xa, xb, xc][i]? = some z ∧ V.str z = x := map_get hx
    have gz := lv_get (hz z (List.mem_of_getElem? ez))
    refine ⟨rfl, _, rfl, _, rfl, t, _, dt, ft, _, 1, spGetitem T.C_Tuning, rfl, hs _ _ ht1, T.s_Tuning_getitem.spc, T.fi_Tuning_getitem, w_Tuning_getitem T, hr, t, z, rfl, l, _, ht.same hs, gz, fun H3 hs3 => ⟨_, hs3 _ _ hl, ?_, same_mut (same_trans hs hs3) hD, ?_⟩⟩
    · rw [List.length_map, List.length_take]
      exact Nat.lt_of_le_of_lt (Nat.min_le_right _ _) (show 3 < sizeLine by decide)
    · rw [upd_same, List.take_add_one, ez, List.map_append]; rfl
  · rintro H1 ⟨hs, hl⟩
    refine ⟨D, _, rfl, SqL.of hl, rfl, _, _, rfl, _, _, rfl, _, _, rfl, rfl, ?_⟩
    have fin : ∀ b, b = (Px.between xa xb xc).ev (lvOf l) → Q (.bl b) H1 := fun b e => e ▸ q _ hs
    refine ⟨_, rfl, _, rfl, _, _, rfl, rfl, _, rfl, ifD (fun h1 => ⟨_, rfl, _, _, rfl, rfl, _, rfl, ifD (fun h2 => fin _ ?_) (fun h2 => ?_)⟩) (fun h1 => ⟨_, rfl, iteF ?_⟩)⟩
    · have h1 : lvOf l xa < lvOf l xb := h1
      have h2 : lvOf l xb < lvOf l xc := h2
      simp [Px.ev, h1, h2]
    · have h1 : lvOf l xa < lvOf l xb := h1
      refine ⟨_, rfl, _, rfl, _, _, rfl, rfl, _, rfl, ifD (fun h3 => ⟨_, rfl, _, _, rfl, rfl, fin _ ?_⟩) (fun h3 => fin _ ?_)⟩
      · have h2 : ¬ lvOf l xb < lvOf l xc := h2
        have h3 : lvOf l xc < lvOf l xb := h3
        simp [Px.ev, h1, h2, h3]
      · have h2 : ¬ lvOf l xb < lvOf l xc := h2
        have h3 : ¬ lvOf l xc < lvOf l xb := h3
        simp [Px.ev, h2, h3]
    · have h1 : ¬ lvOf l xa < lvOf l xb := h1
      refine ⟨_, rfl, _, rfl, _, _, rfl, rfl, _, rfl, ifD (fun h3 => ⟨_, rfl, _, _, rfl, rfl, fin _ ?_⟩) (fun h3 => fin _ ?_)⟩
      · have h3 : lvOf l xc < lvOf l xb := h3
        simp [Px.ev, h1, h3]
      · have h3 : ¬ lvOf l xc < lvOf l xb := h3
        simp [Px.ev, h1, h3]
theorem sc_kept_Highest : FnScope ["self", "tuning", "top", "name"] ["self", "tuning"] (defScope (inC 32 1)) := ⟨rfl, rfl, rfl, by decide +kernel, rfl, by decide +kernel, by decide +kernel⟩
theorem w_kept_Highest (T : Txt P K mg) {xa : Str} {xs : List Str} : FnN P w K mg base (2 + 1) (T.k_Highest) (spKeptP T (.highest xa xs)) := by
  refine fn_mk (k := 2) (T.fk_Highest) sc_kept_Highest (fun _ _ _ _ _ _ us hl => match us, hl with | [_, _], _ => rfl) (fun vs H Q h => by obtain ⟨f, t, rfl, h⟩ := h; rfl) fun cdv A outer s H vs Q hr h => ?_
  have hu := hu_of hr
  have sc := sc_kept_Highest
  obtain ⟨f, t, rfl, h⟩ := h
  refine ⟨_, (pss_cons (ps_set (i := 2) sc.nd rfl (.inr rfl) (pe_ixOc (pv 1) (pe_ix ix_list (pe_fld (pv 0) rfl) pe_int (fun _ _ => rfl))))
    (pss_one (ps_ret (pe_callB (cr_all rfl) (by rfl) T.n_all (by decide +kernel) (pa_cons (pe_lc (own := [("name", 3)]) rfl sc.nd (pi_list (pe_slice sl_list (pe_fld (pv 0) rfl) (po_some pe_int) po_none)) (blkOk_by (N := ["self", "tuning", "top", "name"]) (sc := (defScope (inC 32 1))) (by decide +kernel)) (fun _ _ _ _ _ => (pg_name (i := 3) sc.nd rfl (.inl rfl) (.inr rfl))) (fun _ _ _ _ _ => pts_nil) (fun _ _ _ _ _ => (pe_cmpR op_lt (pe_ixOc (pv 1) (pv 3)) (pv 2) (nomark _)))) pa_nil))))), ?_⟩
  obtain ⟨l, hf, ht, hz, q⟩ := h
  obtain ⟨dx, fs, ln, tx, h1, _, _, h4, h5, _⟩ := id hf
  obtain ⟨dt, ft, ht1, _⟩ := ht.ins
  have ga := lv_get (hz xa (by simp [Px.names]))
  have hlen : xs.length < 100 := by
    obtain ⟨_, _, _, _, _, _, _, _, _, _, _, _, _, ⟨_, hn, _⟩, _⟩ := hf
    simp [Px.names] at hn; omega
  refine ⟨_, rfl, _, rfl, f, _, dx, fs, _, rfl, h1, T.fc_Highest.cl, T.fc_Highest.n_named, h4, ln, _, _, .str xa, rfl, rfl, SqL.of h5, atI_nat (j := 0) rfl, t, _, dt, ft, _, 1, spGetitem T.C_Tuning, rfl, ht1, T.s_Tuning_getitem.spc, T.fi_Tuning_getitem, w_Tuning_getitem T, hr, t, xa, rfl, l, _, ht, ga, fun H1 hs => ?_⟩
  refine ⟨_, rfl, f, _, dx, fs, _, rfl, hs _ _ h1, T.fc_Highest.cl, T.fc_Highest.n_named, h4, _, rfl, ln, _, rfl, SqL.of (hs _ _ h5), fun p hp => ⟨p, rfl, ⟨_, SqL.of upd_same⟩, fun D hD => ?_⟩⟩
  have ec : cutV ((Px.highest xa xs).names.map V.str) (some 1) none = xs.map V.str := cut_one
  rw [ec] at hD
  refine lc_it (walk_list (xs := xs.map V.str)) (fun i H' => Same (upd H1 p (.lst (xs.map V.str))) H' ∧ H' D = some (.lst ((xs.take i).map fun z => V.bl (decide (lvOf l z < lvOf l xa))))) ⟨by rw [ec]; exact same_new hD, upd_same⟩ (fun _ _ _ h => SqL.of (h.1 _ _ upd_same)) ?_ ?_
  · rintro i x H2 H3 hi ⟨hs2, hl⟩ ⟨rfl, hx⟩
    obtain ⟨z, ez, rfl⟩ := map_get hx
    have gz := lv_get (hz z (List.mem_cons_of_mem _ (List.mem_of_getElem? ez)))
    have hsA := same_trans hs (same_trans (same_new (o := .lst (xs.map V.str)) hp) hs2)
    refine ⟨rfl, _, rfl, _, rfl, t, _, dt, ft, _, 1, spGetitem T.C_Tuning, rfl, hsA _ _ ht1, T.s_Tuning_getitem.spc, T.fi_Tuning_getitem, w_Tuning_getitem T, hr, t, z, rfl, l, _, ht.same hsA, gz, fun H3 hs3 => ?_⟩
    refine ⟨_, rfl, _, _, rfl, rfl, _, hs3 _ _ hl, ?_, same_mut (same_trans hs2 hs3) hD, ?_⟩
    · rw [List.length_map, List.length_take]
      exact Nat.lt_of_le_of_lt (Nat.min_le_right _ _) (Nat.lt_trans hlen (by decide))
    · rw [upd_same, List.take_add_one, ez, List.map_append]; rfl
  · rintro H2 ⟨hs2, hl⟩
    rw [List.length_map, List.take_length] at hl
    have e : (xs.map fun z => V.bl (decide (lvOf l z < lvOf l xa))) = (xs.map fun z => decide (lvOf l z < lvOf l xa)).map V.bl := by rw [List.map_map]; rfl
    rw [e] at hl
    refine ⟨D, _, rfl, SqL.of hl, ?_⟩
    have e2 : (xs.map fun z => decide (lvOf l z < lvOf l xa)).all id = (Px.highest xa xs).ev (lvOf l) := by simp [Px.ev, List.all_map]
    rw [e2]
    exact q _ (same_trans hs (same_trans (same_new (o := .lst (xs.map V.str)) hp) hs2))
theorem sc_kept_AsOften : FnScope ["self", "tuning", "a", "b", "c", "d"] ["self", "tuning"] (defScope (inC 33 1)) := ⟨rfl, rfl, rfl, by decide +kernel, rfl, by decide +kernel, by decide +kernel⟩
theorem w_kept_AsOften (T : Txt P K mg) {xa xb xc xd : Str} : FnN P w K mg base (3 + 1) (T.k_AsOften) (spKeptP T (.asoften xa xb xc xd)) := by
  refine fn_mk (k := 3) (T.fk_AsOften) sc_kept_AsOften (fun _ _ _ _ _ _ us hl => match us, hl with | [_, _], _ => rfl) (fun vs H Q h => by obtain ⟨f, t, rfl, h⟩ := h; rfl) fun cdv A outer s H vs Q hr h => ?_
  have hu := hu_of hr
  have sc := sc_kept_AsOften
  obtain ⟨f, t, rfl, h⟩ := h
  refine ⟨_, (pss_cons (ps_asg (pe_fld (pv 0) rfl) (pg_unl rfl (pgs_cons (pg_name (i := 2) sc.nd rfl (.inl rfl)) (pgs_cons (pg_name (i := 3) sc.nd rfl (.inl rfl)) (pgs_cons (pg_name (i := 4) sc.nd rfl (.inl rfl)) (pgs_cons (pg_name (i := 5) sc.nd rfl (.inl rfl)) pgs_nil))))))
    (pss_one (ps_ret (pe_cmpR op_eq (pe_met (pv 1) (pa_cons (pv 2) (pa_cons (pv 3) pa_nil))) (pe_met (pv 1) (pa_cons (pv 4) (pa_cons (pv 5) pa_nil))) (nomark _))))), ?_⟩
  obtain ⟨l, hf, ht, hz, q⟩ := h
  obtain ⟨dx, fs, ln, tx, h1, _, _, h4, h5, _⟩ := id hf
  obtain ⟨dt, ft, ht1, hb⟩ := ht.ins
  have ga := lv_get (hz xa (by simp [Px.names]))
  have gb := lv_get (hz xb (by simp [Px.names]))
  have gc := lv_get (hz xc (by simp [Px.names]))
  have gd := lv_get (hz xd (by simp [Px.names]))
  refine ⟨_, rfl, f, _, dx, fs, _, rfl, h1, T.fc_AsOften.cl, T.fc_AsOften.n_named, h4, ln, _, rfl, SqL.of h5, rfl, _, _, rfl, _, _, rfl, _, _, rfl, _, _, rfl, rfl, ?_⟩
  refine ⟨_, rfl, t, _, dt, ft, _, rfl, ht1, hb, mth_beats T hr, _, rfl, _, rfl, t, _, _, rfl, l, _, _, ht, ga, gb, fun H1 hs => ?_⟩
  refine ⟨_, rfl, t, _, dt, ft, _, rfl, hs _ _ ht1, hb, mth_beats T hr, _, rfl, _, rfl, t, _, _, rfl, l, _, _, ht.same hs, gc, gd, fun H2 hs2 => ⟨rfl, ?_⟩⟩
  have e : decide (V.int (iabs (lvOf l xa - lvOf l xb)) = V.int (iabs (lvOf l xc - lvOf l xd))) = (Px.asoften xa xb xc xd).ev (lvOf l) := by simp [Px.ev]
  rw [e]
  exact q _ (same_trans hs hs2)
theorem sc_kept_MoreOften : FnScope ["self", "tuning", "a", "b", "c", "d"] ["self", "tuning"] (defScope (inC 34 1)) := ⟨rfl, rfl, rfl, by decide +kernel, rfl, by decide +kernel, by decide +kernel⟩
theorem w_kept_MoreOften (T : Txt P K mg) {xa xb xc xd : Str} : FnN P w K mg base (3 + 1) (T.k_MoreOften) (spKeptP T (.more xa xb xc xd)) := by
  refine fn_mk (k := 3) (T.fk_MoreOften) sc_kept_MoreOften (fun _ _ _ _ _ _ us hl => match us, hl with | [_, _], _ => rfl) (fun vs H Q h => by obtain ⟨f, t, rfl, h⟩ := h; rfl) fun cdv A outer s H vs Q hr h => ?_
  have hu := hu_of hr
  have sc := sc_kept_MoreOften
  obtain ⟨f, t, rfl, h⟩ := h
  refine ⟨_, (pss_cons (ps_asg (pe_fld (pv 0) rfl) (pg_unl rfl (pgs_cons (pg_name (i := 2) sc.nd rfl (.inl rfl)) (pgs_cons (pg_name (i := 3) sc.nd rfl (.inl rfl)) (pgs_cons (pg_name (i := 4) sc.nd rfl (.inl rfl)) (pgs_cons (pg_name (i := 5) sc.nd rfl (.inl rfl)) pgs_nil))))))
    (pss_one (ps_ret (pe_cmpR op_gt (pe_met (pv 1) (pa_cons (pv 2) (pa_cons (pv 3) pa_nil))) (pe_met (pv 1) (pa_cons (pv 4) (pa_cons (pv 5) pa_nil))) (nomark _))))), ?_⟩
  obtain ⟨l, hf, ht, hz, q⟩ := h
  obtain ⟨dx, fs, ln, tx, h1, _, _, h4, h5, _⟩ := id hf
  obtain ⟨dt, ft, ht1, hb⟩ := ht.ins
  have ga := lv_get (hz xa (by simp [Px.names]))
  have gb := lv_get (hz xb (by simp [Px.names]))
  have gc := lv_get (hz xc (by simp [Px.names]))
  have gd := lv_get (hz xd (by simp [Px.names]))
  refine ⟨_, rfl, f, _, dx, fs, _, rfl, h1, T.fc_MoreOften.cl, T.fc_MoreOften.n_named, h4, ln, _, rfl, SqL.of h5, rfl, _, _, rfl, _, _, rfl, _, _, rfl, _, _, rfl, rfl, ?_⟩
  refine ⟨_, rfl, t, _, dt, ft, _, rfl, ht1, hb, mth_beats T hr, _, rfl, _, rfl, t, _, _, rfl, l, _, _, ht, ga, gb, fun H1 hs => ?_⟩
  refine ⟨_, rfl, t, _, dt, ft, _, rfl, hs _ _ ht1, hb, mth_beats T hr, _, rfl, _, rfl, t, _, _, rfl, l, _, _, ht.same hs, gc, gd, fun H2 hs2 => ⟨_, _, rfl, rfl, q _ (same_trans hs hs2)⟩⟩
theorem dp_ints {H : Hp} : ∀ ns : List Int, DpAll K H (ns.map V.int) (ns.map .int)
  | [] => .nil
  | n :: ns => .cons (.int n) (dp_ints ns)
theorem shaped_ints (ns : List Int) : SeqAt.shaped (.list (ns.map .int)) = true := PySem.W.shaped_ints ns
theorem eqvAll_ints : ∀ ns ms : List Int, PyData.eqvAll (ns.map .int) (ms.map .int) = decide (ns = ms)
  | [], [] => by simp [PyData.eqvAll]
  | [], _ :: _ => by simp [PyData.eqvAll]
  | _ :: _, [] => by simp [PyData.eqvAll]
  | n :: ns, m :: ms => by
    simp only [List.map_cons, PyData.eqvAll, PyData.eqv, eqvAll_ints ns ms]
    by_cases e : n = m <;> simp [e]
theorem eqv_ints (ns ms : List Int) : PyData.eqv (.list (ns.map .int)) (.list (ms.map .int)) = decide (ns = ms) := by
  rw [PyData.eqv, eqvAll_ints]
theorem sc_kept_Trio : FnScope ["self", "tuning", "a", "b", "c"] ["self", "tuning"] (defScope (inC 35 1)) := ⟨rfl, rfl, rfl, by decide +kernel, rfl, by decide +kernel, by decide +kernel⟩
theorem w_kept_Trio (T : Txt P K mg) {xa xb xc : Str} {rs : List Int} : FnN P w K mg base (3 + 1) (T.k_Trio) (spKeptP T (.trio xa xb xc rs)) := by
  refine fn_mk (k := 3) (T.fk_Trio) sc_kept_Trio (fun _ _ _ _ _ _ us hl => match us, hl with | [_, _], _ => rfl) (fun vs H Q h => by obtain ⟨f, t, rfl, h⟩ := h; rfl) fun cdv A outer s H vs Q hr h => ?_
  have hu := hu_of hr
  have sc := sc_kept_Trio
  obtain ⟨f, t, rfl, h⟩ := h
  refine ⟨_, (pss_cons (ps_asg (pe_fld (pv 0) rfl) (pg_unl rfl (pgs_cons (pg_name (i := 2) sc.nd rfl (.inl rfl)) (pgs_cons (pg_name (i := 3) sc.nd rfl (.inl rfl)) (pgs_cons (pg_name (i := 4) sc.nd rfl (.inl rfl)) pgs_nil)))))
    (pss_one (ps_ret (pe_cmpR (op_eqD (hu64 hr)) (pe_callB cr_sortedI (by rfl) T.n_sorted (by decide +kernel) (pa_cons (pe_lst (pa_cons (pe_met (pv 1) (pa_cons (pv 2) (pa_cons (pv 3) pa_nil))) (pa_cons (pe_met (pv 1) (pa_cons (pv 3) (pa_cons (pv 4) pa_nil))) (pa_cons (pe_met (pv 1) (pa_cons (pv 2) (pa_cons (pv 4) pa_nil))) pa_nil)))) pa_nil)) (pe_fld (pv 0) rfl) (nomark _))))), ?_⟩
  obtain ⟨l, hf, ht, hz, q⟩ := h
  obtain ⟨dx, fs, ln, tx, h1, _, _, h4, h5, _, _, _, _, _, r, hr1, hr2⟩ := id hf
  obtain ⟨dt, ft, ht1, hb⟩ := ht.ins
  have ga := lv_get (hz xa (by simp [Px.names]))
  have gb := lv_get (hz xb (by simp [Px.names]))
  have gc := lv_get (hz xc (by simp [Px.names]))
  refine ⟨_, rfl, f, _, dx, fs, _, rfl, h1, T.fc_Trio.cl, T.fc_Trio.n_named, h4, ln, _, rfl, SqL.of h5, rfl, _, _, rfl, _, _, rfl, _, _, rfl, rfl, ?_⟩
  refine ⟨_, rfl, t, _, dt, ft, _, rfl, ht1, hb, mth_beats T hr, _, rfl, _, rfl, t, _, _, rfl, l, _, _, ht, ga, gb, fun H1 hs => ?_⟩
  refine ⟨_, rfl, t, _, dt, ft, _, rfl, hs _ _ ht1, hb, mth_beats T hr, _, rfl, _, rfl, t, _, _, rfl, l, _, _, ht.same hs, gb, gc, fun H2 hs2 => ?_⟩
  have hs12 := same_trans hs hs2
  refine ⟨_, rfl, t, _, dt, ft, _, rfl, hs12 _ _ ht1, hb, mth_beats T hr, _, rfl, _, rfl, t, _, _, rfl, l, _, _, ht.same hs12, ga, gc, fun H3 hs3 => ?_⟩
  have hs13 := same_trans hs12 hs3
  refine ⟨by show 3 ≤ sizeLine; decide, fun p hp => ⟨p, [iabs (lvOf l xa - lvOf l xb), iabs (lvOf l xb - lvOf l xc), iabs (lvOf l xa - lvOf l xc)], rfl, SqL.of upd_same, fun ns' p2 hpm hsd hp2 => ?_⟩⟩
  have hs14 := same_trans hs13 (same_new (o := .lst [V.int (iabs (lvOf l xa - lvOf l xb)), V.int (iabs (lvOf l xb - lvOf l xc)), V.int (iabs (lvOf l xa - lvOf l xc))]) hp)
  have hs15 := same_trans hs14 (same_new (o := .lst (ns'.map V.int)) hp2)
  refine ⟨_, rfl, f, _, dx, fs, _, rfl, hs15 _ _ h1, T.fc_Trio.cl, T.fc_Trio.n_ranked, hr1, .list (ns'.map .int), .list (rs.map .int), .lst (SqL.of upd_same) (dp_ints _), .lst (SqL.of (hs15 _ _ hr2)) (dp_ints _), shaped_ints _, shaped_ints _, ?_⟩
  have e : decide (ns' = rs) = (Px.trio xa xb xc rs).ev (lvOf l) := by rw [sort3_is hpm hsd]; rfl
  rw [eqv_ints, e]
  exact q _ hs15
end
end Fb
set_option maxHeartbeats 4000000
/-! Forkbeats: facts made. -/
namespace Fb
open PySem PySem.Spec PyProof.Rows L2
theorem sup_free {sc : Scope} (h : (sc.names.all fun y => y.2 != .free || y.1 == ("__class__" : Str)) = true) : ∀ x, sc.names.lookup x = some .free → x = "__class__" := fun x e => by
  have := List.all_eq_true.mp h _ (PySem.mem_of_lookup e)
  simpa using this
section
variable {P : Program} {w : World} {K : PySem.W.Frag} {mg : Str → Option Value} {base : Heap}
def spFactInit : SpN := fun vs H Q => ∃ f tw l d, vs = [.ref f, .str tw, .ref l, .int d] ∧ ∃ C dx fs, H f = some (.ins C dx fs) ∧ Cls K C ∧ NoAttr K C "word_text" ∧ NoAttr K C "named" ∧ NoAttr K C "depth" ∧ fs.length < 100 ∧
  ∀ H', (∀ x u, x ≠ f → H x = some u → H' x = some u) → H' f = some (.ins C dx (putF "depth" (.int d) (putF "named" (.ref l) (putF "word_text" (.str tw) fs)))) → Q .non H'
theorem sc_Fact_init : FnScope ["self", "word", "names", "depth"] ["self", "word", "names", "depth"] (defScope (inC 28 2)) := ⟨rfl, rfl, rfl, by decide +kernel, rfl, by decide +kernel, by decide +kernel⟩
theorem w_Fact_init (T : Txt P K mg) : FnN P w K mg base (0 + 1) (T.i_Fact) (spFactInit (K := K)) := by
  refine fn_mk (k := 0) (T.f_Fact_init) sc_Fact_init (fun _ _ _ _ _ _ us hl => match us, hl with | [_, _, _, _], _ => rfl) (fun vs H Q h => by obtain ⟨f, tw, l, d, rfl, h⟩ := h; rfl) fun cdv A outer s H vs Q hr h => ?_
  have hu := hu_of hr
  have sc := sc_Fact_init
  obtain ⟨f, tw, l, d, rfl, h⟩ := h
  refine ⟨_, (pss_cons (ps_fld (pv 0) (pv 1) rfl)
    (pss_cons (ps_fld (pv 0) (pv 2) rfl)
    (pss_one (ps_fld (pv 0) (pv 3) rfl)))), ?_⟩
  obtain ⟨C, dx, fs, hf, c, n1, n2, n3, hz, q⟩ := h
  have z1 := length_putF "word_text" (.str tw) fs
  have z2 := length_putF "named" (.ref l) (putF "word_text" (.str tw) fs)
  refine ⟨_, rfl, _, rfl, f, C, dx, fs, rfl, hf, c, n1, by omega, _, rfl, _, rfl, f, C, dx, _, rfl, upd_same, c, n2, by omega, _, rfl, _, rfl, f, C, dx, _, rfl, upd_same, c, n3, by omega, q _ (fun x u hx e => ?_) upd_same⟩
  rw [upd_ne hx, upd_ne hx, upd_ne hx]; exact e
theorem slen (a b : Str) : (a ++ b).length = a.length + b.length := by
  show (a.cps ++ b.cps).size = _
  rw [Array.size_append]; rfl
theorem szt {n : Nat} (h : n ≤ 100000) : n ≤ sizeLine := Nat.le_trans h (by decide)
theorem joinL_len (S : List Nat) : ∀ ps : List (List Nat), (TL.joinL S ps).length ≤ (ps.map List.length).sum + ps.length * S.length
  | [] => by simp [TL.joinL]
  | [p] => by simp [TL.joinL]
  | p :: q :: r => by
    have := joinL_len S (q :: r)
    simp only [TL.joinL, List.length_append, List.map_cons, List.sum_cons, List.length_cons] at *
    have e : (r.length + 1 + 1) * S.length = (r.length + 1) * S.length + S.length := Nat.succ_mul _ _
    generalize (r.length + 1) * S.length = g at *
    omega
theorem join_len (a : Str) (ys : List Str) : (Txt.join a ys).length ≤ (ys.map (·.length)).sum + ys.length * a.length := by
  have e : ∀ z : Str, z.length = (TL.tl z).length := fun z => by simp [Str.length, TL.tl]
  rw [e, TL.join_eq, TL.tl_join]
  have h := joinL_len (TL.tl a) (ys.map TL.tl)
  rw [List.map_map, List.length_map, ← e] at h
  have e2 : (List.length ∘ TL.tl) = fun z : Str => z.length := funext fun z => (e z).symm
  rw [e2] at h
  exact h
theorem names_sum : ∀ {ns : List Str}, (∀ z ∈ ns, NameOk z) → (ns.map (·.length)).sum ≤ 12 * ns.length
  | [], _ => by simp
  | z :: ns, h => by
    have h1 := (h z (List.mem_cons_self ..)).hi
    have h2 := names_sum fun y hy => h y (List.mem_cons_of_mem _ hy)
    simp only [List.map_cons, List.sum_cons, List.length_cons]
    omega
theorem l_sp : Str.length " " = 1 := by decide
/-- the classes of facts -/
def FactOf (T : Txt P K mg) (C : Addr) : Prop := ∃ k, FactC K T.a_Fact_forks T.a_Fact_call T.a_Fact_invert T.a_Fact_and T.a_Fact_or T.a_Fact_str C k
theorem Px.fact (T : Txt P K mg) : ∀ p : Px, FactOf T (p.cls T)
  | .above .. => ⟨_, T.fc_Above⟩
  | .intune .. => ⟨_, T.fc_InTune⟩
  | .between .. => ⟨_, T.fc_Between⟩
  | .highest .. => ⟨_, T.fc_Highest⟩
  | .asoften .. => ⟨_, T.fc_AsOften⟩
  | .more .. => ⟨_, T.fc_MoreOften⟩
  | .trio .. => ⟨_, T.fc_Trio⟩
theorem cal_checked (T : Txt P K mg) {A : Around} (hr : Room 2 A) : Cal ⟨P, w, K, mg, base, A⟩ "checked_names" spChecked := ⟨_, 2, T.g_checked_names, T.f_checked_names.kp, w_checked_names T, hr⟩
theorem cal_distinct (T : Txt P K mg) {A : Around} (hr : Room 1 A) : Cal ⟨P, w, K, mg, base, A⟩ "check_distinct" spDist := ⟨_, 1, T.g_check_distinct, T.f_check_distinct.kp, w_check_distinct T, hr⟩
theorem nm2 {a b : Str} (oa : NameOk a) (ob : NameOk b) : ∀ z ∈ [a, b], NameOk z := by simp; exact ⟨oa, ob⟩
/-- the fields of a plain fact -/
def plainFs (tx : Str) (l : Addr) : List (Str × V) := [("word_text", .str tx), ("named", .ref l), ("depth", .int 1)]
theorem hd_plain {H : Hp} {f C dx l : Addr} {tx : Str} {ns : List Str} {more : List (Str × V) → Prop} (h : H f = some (.ins C dx (plainFs tx l))) (ht : tx.length ≤ 500) (hl : LsT H l ns) (hn : ns ≠ [] ∧ ns.length ≤ 100 ∧ ∀ z ∈ ns, NameOk z) (hm : more (plainFs tx l)) :
    Hd H f C ns 1 500 more := ⟨dx, _, l, tx, h, rfl, ht, rfl, hl, rfl, rfl, rfl, rfl, hn, hm⟩
def spPlain (T : Txt P K mg) (p : Px) (args : List V) (ok : Prop) : SpN := fun vs H Q => ∃ f, vs = .ref f :: args ∧ ∃ dx, H f = some (.ins (p.cls T) dx []) ∧ ok ∧ ∀ H', (∀ x u, x ≠ f → H x = some u → H' x = some u) → PlainAt T H' f p → Q .non H'
theorem sc_Above_init : SupScope ["self", "a", "b", "names"] ["self", "a", "b"] (defScope (inC 29 0)) := ⟨rfl, rfl, rfl, by decide +kernel, rfl, by decide +kernel, by decide +kernel, sup_free (by decide +kernel), by decide +kernel, by decide +kernel⟩
theorem w_Above_init (T : Txt P K mg) {xa xb : Str} : FnN P w K mg base (2 + 1) T.i_Above (spPlain T (.above xa xb) [.str xa, .str xb] (NameOk xa ∧ NameOk xb ∧ xa ≠ xb)) := by
  refine fn_sup (k := 2) T.fi_Above sc_Above_init (fun _ _ _ _ _ us hl => match us, hl with | [_, _, _], _ => rfl) (fun vs H Q h => by obtain ⟨f, rfl, h⟩ := h; rfl) fun A outer s H vs Q hr h => ?_
  have hu := hu_of hr
  have sc := sc_Above_init
  obtain ⟨f, rfl, h⟩ := h
  refine ⟨_, (psa_cons (ps_set (i := 3) sc.nd rfl (.inl rfl) (pe_cal (by rfl) (pa_cons (pe_lst (pa_cons (pv 1) (pa_cons (pv 2) pa_nil))) pa_nil)))
    (psa_cons (ps_expr (pe_cal (by rfl) (pa_cons (pv 3) pa_nil)))
    (psa_sup rfl rfl rfl sc (by decide +kernel) T.fi_Above.txt (pa_cons (pe_op op_add_str (pe_op op_add_str (pe_op op_add_str pe_str (pv 1)) pe_str) (pv 2)) (pa_cons (pv 3) (pa_cons pe_int pa_nil))) (by decide) (by decide +kernel) (by rfl)))), ?_⟩
  obtain ⟨dx, hf, ⟨oa, ob, hne⟩, q⟩ := h
  have l1 := oa.hi
  have l2 := ob.hi
  refine ⟨spChecked, cal_checked T hr, _, rfl, _, rfl, (by show 2 ≤ sizeLine; decide), fun p hp => ⟨p, [xa, xb], rfl, upd_same, nm2 oa ob, (by show 2 ≤ 1000; decide), fun p2 H1 hp2 hs1 hl1 => ?_⟩⟩
  have s1 := same_trans (same_new (o := .lst [.str xa, .str xb]) hp) hs1
  refine ⟨spDist, cal_distinct T (hr.mono (by decide)), _, rfl, p2, [xa, xb], rfl, hl1, (by simp [hne]), (by show 2 ≤ 1000; decide), fun H2 hs2 => ?_⟩
  have s2 := same_trans s1 hs2
  refine ⟨f, _, dx, [], T.i_Fact, 1, spFactInit, rfl, s2 _ _ hf, T.sm_Above, w_Fact_init T, hr.mono (by decide), ?_⟩
  have e1 : Str.length "above " = 6 := by decide
  refine ⟨_, rfl, _, _, rfl, rfl, szt (by omega), _, _, rfl, rfl, szt (by rw [slen, l_sp]; omega), _, rfl, _, _, rfl, rfl, szt (by simp only [slen, l_sp]; omega), _, rfl, ?_⟩
  refine ⟨f, _, p2, 1, rfl, _, dx, [], s2 _ _ hf, T.fc_Above.cl, T.fc_Above.n_word_text, T.fc_Above.n_named, T.fc_Above.n_depth, (by show 0 < 100; decide), fun H3 k3 h3 => q _ (fun x u hx e => k3 x u hx (s2 _ _ e)) ?_⟩
  exact hd_plain h3 (by simp only [slen, l_sp]; omega) (k3 _ _ (ne_of (s2 _ _ hf) (hs2 _ _ hl1) (by intro z; cases z)).symm (hs2 _ _ hl1)) ⟨by simp [Px.names], by simp [Px.names], nm2 oa ob⟩ trivial
theorem sc_InTune_init : SupScope ["self", "a", "b", "names"] ["self", "a", "b"] (defScope (inC 30 0)) := ⟨rfl, rfl, rfl, by decide +kernel, rfl, by decide +kernel, by decide +kernel, sup_free (by decide +kernel), by decide +kernel, by decide +kernel⟩
theorem w_InTune_init (T : Txt P K mg) {xa xb : Str} : FnN P w K mg base (2 + 1) T.i_InTune (spPlain T (.intune xa xb) [.str xa, .str xb] (NameOk xa ∧ NameOk xb ∧ xa ≠ xb)) := by
  refine fn_sup (k := 2) T.fi_InTune sc_InTune_init (fun _ _ _ _ _ us hl => match us, hl with | [_, _, _], _ => rfl) (fun vs H Q h => by obtain ⟨f, rfl, h⟩ := h; rfl) fun A outer s H vs Q hr h => ?_
  have hu := hu_of hr
  have sc := sc_InTune_init
  obtain ⟨f, rfl, h⟩ := h
  refine ⟨_, (psa_cons (ps_set (i := 3) sc.nd rfl (.inl rfl) (pe_cal (by rfl) (pa_cons (pe_lst (pa_cons (pv 1) (pa_cons (pv 2) pa_nil))) pa_nil)))
    (psa_cons (ps_expr (pe_cal (by rfl) (pa_cons (pv 3) pa_nil)))
    (psa_sup rfl rfl rfl sc (by decide +kernel) T.fi_InTune.txt (pa_cons (pe_op op_add_str (pe_op op_add_str (pe_op op_add_str pe_str (pv 1)) pe_str) (pv 2)) (pa_cons (pv 3) (pa_cons pe_int pa_nil))) (by decide) (by decide +kernel) (by rfl)))), ?_⟩
  obtain ⟨dx, hf, ⟨oa, ob, hne⟩, q⟩ := h
  have l1 := oa.hi
  have l2 := ob.hi
  refine ⟨spChecked, cal_checked T hr, _, rfl, _, rfl, (by show 2 ≤ sizeLine; decide), fun p hp => ⟨p, [xa, xb], rfl, upd_same, nm2 oa ob, (by show 2 ≤ 1000; decide), fun p2 H1 hp2 hs1 hl1 => ?_⟩⟩
  have s1 := same_trans (same_new (o := .lst [.str xa, .str xb]) hp) hs1
  refine ⟨spDist, cal_distinct T (hr.mono (by decide)), _, rfl, p2, [xa, xb], rfl, hl1, (by simp [hne]), (by show 2 ≤ 1000; decide), fun H2 hs2 => ?_⟩
  have s2 := same_trans s1 hs2
  refine ⟨f, _, dx, [], T.i_Fact, 1, spFactInit, rfl, s2 _ _ hf, T.sm_InTune, w_Fact_init T, hr.mono (by decide), ?_⟩
  have e1 : Str.length "intune " = 7 := by decide
  refine ⟨_, rfl, _, _, rfl, rfl, szt (by omega), _, _, rfl, rfl, szt (by rw [slen, l_sp]; omega), _, rfl, _, _, rfl, rfl, szt (by simp only [slen, l_sp]; omega), _, rfl, ?_⟩
  refine ⟨f, _, p2, 1, rfl, _, dx, [], s2 _ _ hf, T.fc_InTune.cl, T.fc_InTune.n_word_text, T.fc_InTune.n_named, T.fc_InTune.n_depth, (by show 0 < 100; decide), fun H3 k3 h3 => q _ (fun x u hx e => k3 x u hx (s2 _ _ e)) ?_⟩
  exact hd_plain h3 (by simp only [slen, l_sp]; omega) (k3 _ _ (ne_of (s2 _ _ hf) (hs2 _ _ hl1) (by intro z; cases z)).symm (hs2 _ _ hl1)) ⟨by simp [Px.names], by simp [Px.names], nm2 oa ob⟩ trivial
theorem sc_Between_init : SupScope ["self", "a", "b", "c", "names"] ["self", "a", "b", "c"] (defScope (inC 31 0)) := ⟨rfl, rfl, rfl, by decide +kernel, rfl, by decide +kernel, by decide +kernel, sup_free (by decide +kernel), by decide +kernel, by decide +kernel⟩
theorem w_Between_init (T : Txt P K mg) {xa xb xc : Str} : FnN P w K mg base (2 + 1) T.i_Between (spPlain T (.between xa xb xc) [.str xa, .str xb, .str xc] ((∀ z ∈ [xa, xb, xc], NameOk z) ∧ [xa, xb, xc].Nodup)) := by
  refine fn_sup (k := 2) T.fi_Between sc_Between_init (fun _ _ _ _ _ us hl => match us, hl with | [_, _, _, _], _ => rfl) (fun vs H Q h => by obtain ⟨f, rfl, h⟩ := h; rfl) fun A outer s H vs Q hr h => ?_
  have hu := hu_of hr
  have sc := sc_Between_init
  obtain ⟨f, rfl, h⟩ := h
  refine ⟨_, (psa_cons (ps_set (i := 4) sc.nd rfl (.inl rfl) (pe_cal (by rfl) (pa_cons (pe_lst (pa_cons (pv 1) (pa_cons (pv 2) (pa_cons (pv 3) pa_nil)))) pa_nil)))
    (psa_cons (ps_expr (pe_cal (by rfl) (pa_cons (pv 4) pa_nil)))
    (psa_sup rfl rfl rfl sc (by decide +kernel) T.fi_Between.txt (pa_cons (pe_op op_add_str (pe_op op_add_str (pe_op op_add_str (pe_op op_add_str (pe_op op_add_str pe_str (pv 1)) pe_str) (pv 2)) pe_str) (pv 3)) (pa_cons (pv 4) (pa_cons pe_int pa_nil))) (by decide) (by decide +kernel) (by rfl)))), ?_⟩
  obtain ⟨dx, hf, ⟨ok, nd⟩, q⟩ := h
  have l1 := (ok xa (by simp)).hi
  have l2 := (ok xb (by simp)).hi
  have l3 := (ok xc (by simp)).hi
  refine ⟨spChecked, cal_checked T hr, _, rfl, _, rfl, _, rfl, (by show 3 ≤ sizeLine; decide), fun p hp => ⟨p, [xa, xb, xc], rfl, upd_same, ok, (by show 3 ≤ 1000; decide), fun p2 H1 hp2 hs1 hl1 => ?_⟩⟩
  have s1 := same_trans (same_new (o := .lst [.str xa, .str xb, .str xc]) hp) hs1
  refine ⟨spDist, cal_distinct T (hr.mono (by decide)), _, rfl, p2, [xa, xb, xc], rfl, hl1, nd, (by show 3 ≤ 1000; decide), fun H2 hs2 => ?_⟩
  have s2 := same_trans s1 hs2
  refine ⟨f, _, dx, [], T.i_Fact, 1, spFactInit, rfl, s2 _ _ hf, T.sm_Between, w_Fact_init T, hr.mono (by decide), ?_⟩
  have e1 : Str.length "between " = 8 := by decide
  refine ⟨_, rfl, _, _, rfl, rfl, szt (by omega), _, _, rfl, rfl, szt (by rw [slen, l_sp]; omega), _, rfl, _, _, rfl, rfl, szt (by simp only [slen, l_sp]; omega), _, _, rfl, rfl, szt (by simp only [slen, l_sp]; omega), _, rfl, _, _, rfl, rfl, szt (by simp only [slen, l_sp]; omega), _, rfl, ?_⟩
  refine ⟨f, _, p2, 1, rfl, _, dx, [], s2 _ _ hf, T.fc_Between.cl, T.fc_Between.n_word_text, T.fc_Between.n_named, T.fc_Between.n_depth, (by show 0 < 100; decide), fun H3 k3 h3 => q _ (fun x u hx e => k3 x u hx (s2 _ _ e)) ?_⟩
  exact hd_plain h3 (by simp only [slen, l_sp]; omega) (k3 _ _ (ne_of (s2 _ _ hf) (hs2 _ _ hl1) (by intro z; cases z)).symm (hs2 _ _ hl1)) ⟨by simp [Px.names], by simp [Px.names], ok⟩ trivial
def spHigh (T : Txt P K mg) (xa : Str) (xs : List Str) : SpN := fun vs H Q => ∃ f t, vs = [.ref f, .str xa, .ref t] ∧ ∃ dx, H f = some (.ins T.C_Highest dx []) ∧ H t = some (.tup (xs.map V.str)) ∧ (∀ z ∈ xa :: xs, NameOk z) ∧ (xa :: xs).Nodup ∧ (xa :: xs).length ≤ 30 ∧
  ∀ H', (∀ x u, x ≠ f → H x = some u → H' x = some u) → PlainAt T H' f (.highest xa xs) → Q .non H'
theorem sc_Highest_init : SupScope ["self", "a", "others", "names"] ["self", "a", "others"] (defScope (inC 32 0)) := ⟨rfl, rfl, rfl, by decide +kernel, rfl, by decide +kernel, by decide +kernel, sup_free (by decide +kernel), by decide +kernel, by decide +kernel⟩
theorem w_Highest_init (T : Txt P K mg) {xa : Str} {xs : List Str} : FnN P w K mg base (2 + 1) T.i_Highest (fun vs H Q => ∃ ws rest, vs = ws ++ rest ∧ ws.length = 2 ∧ rest.length ≤ sizeLine ∧ ∀ p, H p = none → (spHigh T xa xs) (ws ++ [V.ref p]) (upd H p (.tup rest)) Q) := by
  refine fn_sup_star (k := 2) (ps := ["self", "a"]) (pv := "others") (sp := spHigh T xa xs) T.fi_Highest sc_Highest_init (fun _ _ _ _ _ => StX.bind_star2 (B := fun l => bindArgs _ ⟨l, []⟩) (fun _ _  => rfl) (fun _ _ _ _  => rfl)) (fun vs H Q h => by obtain ⟨f, t, rfl, h⟩ := h; rfl) fun A outer s H vs Q hr h => ?_
  have hu := hu_of hr
  have sc := sc_Highest_init
  obtain ⟨f, t, rfl, h⟩ := h
  refine ⟨_, (psa_cons (ps_set (i := 3) sc.nd rfl (.inl rfl) (pe_cal (by rfl) (pa_cons (pe_lst (pa_cons (pv 1) (StX.pa_star (pv 2) pa_nil))) pa_nil)))
    (psa_cons (ps_expr (pe_cal (by rfl) (pa_cons (pv 3) pa_nil)))
    (psa_sup rfl rfl rfl sc (by decide +kernel) T.fi_Highest.txt (pa_cons (pe_op op_add_str pe_str (pe_join pe_str (pv 3))) (pa_cons (pv 3) (pa_cons pe_int pa_nil))) (by decide) (by decide +kernel) (by rfl)))), ?_⟩
  obtain ⟨dx, hf, ht, ok, nd, hz, q⟩ := h
  have hz1 : (V.str xa :: (xs.map V.str ++ [])).length ≤ 100000 := by simp at hz ⊢; omega
  refine ⟨spChecked, cal_checked T hr, _, rfl, _, rfl, t, _, rfl, .inl (SqT.of ht), szt hz1, fun p hp => ?_⟩
  rw [List.append_nil] at *
  refine ⟨p, xa :: xs, rfl, upd_same, ok, by omega, fun p2 H1 hp2 hs1 hl1 => ?_⟩
  have s1 := same_trans (same_new (o := .lst (V.str xa :: xs.map V.str)) hp) hs1
  refine ⟨spDist, cal_distinct T (hr.mono (by decide)), _, rfl, p2, xa :: xs, rfl, hl1, nd, by omega, fun H2 hs2 => ?_⟩
  have s2 := same_trans s1 hs2
  refine ⟨f, _, dx, [], T.i_Fact, 1, spFactInit, rfl, s2 _ _ hf, T.sm_Highest, w_Fact_init T, hr.mono (by decide), ?_⟩
  have e1 : Str.length "highest " = 8 := by decide
  have hsum := names_sum ok
  have hjl := join_len " " (xa :: xs)
  rw [l_sp, Nat.mul_one] at hjl
  refine ⟨⟨_, rfl⟩, _, rfl, " ", p2, xa :: xs, rfl, rfl, .inl (SqL.of (hs2 _ _ hl1)), by rw [l_sp]; omega, _, _, rfl, rfl, szt (by omega), _, rfl, ?_⟩
  refine ⟨f, _, p2, 1, rfl, _, dx, [], s2 _ _ hf, T.fc_Highest.cl, T.fc_Highest.n_word_text, T.fc_Highest.n_named, T.fc_Highest.n_depth, (by show 0 < 100; decide), fun H3 k3 h3 => q _ (fun x u hx e => k3 x u hx (s2 _ _ e)) ?_⟩
  exact hd_plain h3 (by rw [slen]; omega) (k3 _ _ (ne_of (s2 _ _ hf) (hs2 _ _ hl1) (by intro z; cases z)).symm (hs2 _ _ hl1)) ⟨by simp [Px.names], by simp only [Px.names]; omega, ok⟩ trivial
theorem sc_AsOften_init : SupScope ["self", "a", "b", "c", "d", "names"] ["self", "a", "b", "c", "d"] (defScope (inC 33 0)) := ⟨rfl, rfl, rfl, by decide +kernel, rfl, by decide +kernel, by decide +kernel, sup_free (by decide +kernel), by decide +kernel, by decide +kernel⟩
theorem w_AsOften_init (T : Txt P K mg) {xa xb xc xd : Str} : FnN P w K mg base (2 + 1) T.i_AsOften (spPlain T (.asoften xa xb xc xd) [.str xa, .str xb, .str xc, .str xd] ((∀ z ∈ [xa, xb, xc, xd], NameOk z) ∧ xa ≠ xb ∧ xc ≠ xd)) := by
  refine fn_sup (k := 2) T.fi_AsOften sc_AsOften_init (fun _ _ _ _ _ us hl => match us, hl with | [_, _, _, _, _], _ => rfl) (fun vs H Q h => by obtain ⟨f, rfl, h⟩ := h; rfl) fun A outer s H vs Q hr h => ?_
  have hu := hu_of hr
  have sc := sc_AsOften_init
  obtain ⟨f, rfl, h⟩ := h
  refine ⟨_, (psa_cons (ps_set (i := 5) sc.nd rfl (.inl rfl) (pe_cal (by rfl) (pa_cons (pe_lst (pa_cons (pv 1) (pa_cons (pv 2) (pa_cons (pv 3) (pa_cons (pv 4) pa_nil))))) pa_nil)))
    (psa_cons (ps_expr (pe_cal (by rfl) (pa_cons (pe_lst (pa_cons (pv 1) (pa_cons (pv 2) pa_nil))) pa_nil)))
    (psa_cons (ps_expr (pe_cal (by rfl) (pa_cons (pe_lst (pa_cons (pv 3) (pa_cons (pv 4) pa_nil))) pa_nil)))
    (psa_sup rfl rfl rfl sc (by decide +kernel) T.fi_AsOften.txt (pa_cons (pe_op op_add_str pe_str (pe_join pe_str (pv 5))) (pa_cons (pv 5) (pa_cons pe_int pa_nil))) (by decide) (by decide +kernel) (by rfl))))), ?_⟩
  obtain ⟨dx, hf, ⟨ok, nd1, nd2⟩, q⟩ := h
  refine ⟨spChecked, cal_checked T hr, _, rfl, _, rfl, _, rfl, _, rfl, (by show 4 ≤ sizeLine; decide), fun p hp => ⟨p, [xa, xb, xc, xd], rfl, upd_same, ok, (by show 4 ≤ 1000; decide), fun p2 H1 hp2 hs1 hl1 => ?_⟩⟩
  have s1 := same_trans (same_new (o := .lst [.str xa, .str xb, .str xc, .str xd]) hp) hs1
  refine ⟨spDist, cal_distinct T (hr.mono (by decide)), _, rfl, _, rfl, (by show 2 ≤ sizeLine; decide), fun p3 hp3 => ⟨p3, [xa, xb], rfl, upd_same, (by simp [nd1]), (by show 2 ≤ 1000; decide), fun H2 hs2 => ?_⟩⟩
  have s2 := same_trans (same_new (o := .lst [.str xa, .str xb]) hp3) hs2
  refine ⟨spDist, cal_distinct T (hr.mono (by decide)), _, rfl, _, rfl, (by show 2 ≤ sizeLine; decide), fun p4 hp4 => ⟨p4, [xc, xd], rfl, upd_same, (by simp [nd2]), (by show 2 ≤ 1000; decide), fun H3 hs3 => ?_⟩⟩
  have s3 := same_trans s2 (same_trans (same_new (o := .lst [.str xc, .str xd]) hp4) hs3)
  have s4 := same_trans s1 s3
  refine ⟨f, _, dx, [], T.i_Fact, 1, spFactInit, rfl, s4 _ _ hf, T.sm_AsOften, w_Fact_init T, hr.mono (by decide), ?_⟩
  have e1 : Str.length "asoften " = 8 := by decide
  have hsum := names_sum ok
  have hjl := join_len " " [xa, xb, xc, xd]
  have e4 : [xa, xb, xc, xd].length = 4 := rfl
  rw [l_sp, e4] at hjl
  rw [e4] at hsum
  refine ⟨⟨_, rfl⟩, _, rfl, " ", p2, [xa, xb, xc, xd], rfl, rfl, .inl (SqL.of (s3 _ _ hl1)), by rw [l_sp, e4]; omega, _, _, rfl, rfl, szt (by omega), _, rfl, ?_⟩
  refine ⟨f, _, p2, 1, rfl, _, dx, [], s4 _ _ hf, T.fc_AsOften.cl, T.fc_AsOften.n_word_text, T.fc_AsOften.n_named, T.fc_AsOften.n_depth, (by show 0 < 100; decide), fun H5 k5 h5 => q _ (fun x u hx e => k5 x u hx (s4 _ _ e)) ?_⟩
  exact hd_plain h5 (by rw [slen]; omega) (k5 _ _ (ne_of (s4 _ _ hf) (s3 _ _ hl1) (by intro z; cases z)).symm (s3 _ _ hl1)) ⟨by simp [Px.names], by simp [Px.names], ok⟩ trivial
theorem sc_MoreOften_init : SupScope ["self", "a", "b", "c", "d", "names"] ["self", "a", "b", "c", "d"] (defScope (inC 34 0)) := ⟨rfl, rfl, rfl, by decide +kernel, rfl, by decide +kernel, by decide +kernel, sup_free (by decide +kernel), by decide +kernel, by decide +kernel⟩
theorem w_MoreOften_init (T : Txt P K mg) {xa xb xc xd : Str} : FnN P w K mg base (2 + 1) T.i_MoreOften (spPlain T (.more xa xb xc xd) [.str xa, .str xb, .str xc, .str xd] ((∀ z ∈ [xa, xb, xc, xd], NameOk z) ∧ xa ≠ xb ∧ xc ≠ xd)) := by
  refine fn_sup (k := 2) T.fi_MoreOften sc_MoreOften_init (fun _ _ _ _ _ us hl => match us, hl with | [_, _, _, _, _], _ => rfl) (fun vs H Q h => by obtain ⟨f, rfl, h⟩ := h; rfl) fun A outer s H vs Q hr h => ?_
  have hu := hu_of hr
  have sc := sc_MoreOften_init
  obtain ⟨f, rfl, h⟩ := h
  refine ⟨_, (psa_cons (ps_set (i := 5) sc.nd rfl (.inl rfl) (pe_cal (by rfl) (pa_cons (pe_lst (pa_cons (pv 1) (pa_cons (pv 2) (pa_cons (pv 3) (pa_cons (pv 4) pa_nil))))) pa_nil)))
    (psa_cons (ps_expr (pe_cal (by rfl) (pa_cons (pe_lst (pa_cons (pv 1) (pa_cons (pv 2) pa_nil))) pa_nil)))
    (psa_cons (ps_expr (pe_cal (by rfl) (pa_cons (pe_lst (pa_cons (pv 3) (pa_cons (pv 4) pa_nil))) pa_nil)))
    (psa_sup rfl rfl rfl sc (by decide +kernel) T.fi_MoreOften.txt (pa_cons (pe_op op_add_str pe_str (pe_join pe_str (pv 5))) (pa_cons (pv 5) (pa_cons pe_int pa_nil))) (by decide) (by decide +kernel) (by rfl))))), ?_⟩
  obtain ⟨dx, hf, ⟨ok, nd1, nd2⟩, q⟩ := h
  refine ⟨spChecked, cal_checked T hr, _, rfl, _, rfl, _, rfl, _, rfl, (by show 4 ≤ sizeLine; decide), fun p hp => ⟨p, [xa, xb, xc, xd], rfl, upd_same, ok, (by show 4 ≤ 1000; decide), fun p2 H1 hp2 hs1 hl1 => ?_⟩⟩
  have s1 := same_trans (same_new (o := .lst [.str xa, .str xb, .str xc, .str xd]) hp) hs1
  refine ⟨spDist, cal_distinct T (hr.mono (by decide)), _, rfl, _, rfl, (by show 2 ≤ sizeLine; decide), fun p3 hp3 => ⟨p3, [xa, xb], rfl, upd_same, (by simp [nd1]), (by show 2 ≤ 1000; decide), fun H2 hs2 => ?_⟩⟩
  have s2 := same_trans (same_new (o := .lst [.str xa, .str xb]) hp3) hs2
  refine ⟨spDist, cal_distinct T (hr.mono (by decide)), _, rfl, _, rfl, (by show 2 ≤ sizeLine; decide), fun p4 hp4 => ⟨p4, [xc, xd], rfl, upd_same, (by simp [nd2]), (by show 2 ≤ 1000; decide), fun H3 hs3 => ?_⟩⟩
  have s3 := same_trans s2 (same_trans (same_new (o := .lst [.str xc, .str xd]) hp4) hs3)
  have s4 := same_trans s1 s3
  refine ⟨f, _, dx, [], T.i_Fact, 1, spFactInit, rfl, s4 _ _ hf, T.sm_MoreOften, w_Fact_init T, hr.mono (by decide), ?_⟩
  have e1 : Str.length "moreoften " = 10 := by decide
  have hsum := names_sum ok
  have hjl := join_len " " [xa, xb, xc, xd]
  have e4 : [xa, xb, xc, xd].length = 4 := rfl
  rw [l_sp, e4] at hjl
  rw [e4] at hsum
  refine ⟨⟨_, rfl⟩, _, rfl, " ", p2, [xa, xb, xc, xd], rfl, rfl, .inl (SqL.of (s3 _ _ hl1)), by rw [l_sp, e4]; omega, _, _, rfl, rfl, szt (by omega), _, rfl, ?_⟩
  refine ⟨f, _, p2, 1, rfl, _, dx, [], s4 _ _ hf, T.fc_MoreOften.cl, T.fc_MoreOften.n_word_text, T.fc_MoreOften.n_named, T.fc_MoreOften.n_depth, (by show 0 < 100; decide), fun H5 k5 h5 => q _ (fun x u hx e => k5 x u hx (s4 _ _ e)) ?_⟩
  exact hd_plain h5 (by rw [slen]; omega) (k5 _ _ (ne_of (s4 _ _ hf) (s3 _ _ hl1) (by intro z; cases z)).symm (s3 _ _ hl1)) ⟨by simp [Px.names], by simp [Px.names], ok⟩ trivial
end
end Fb
set_option maxHeartbeats 4000000
/-! Forkbeats: Trio; facts' common methods; compounds. -/
namespace Fb
open PySem PySem.Spec PyProof.Rows L2
section
variable {P : Program} {w : World} {K : PySem.W.Frag} {mg : Str → Option Value} {base : Heap}
def big : Int := 1000000000
theorem int_len {n : Int} (h0 : 0 ≤ n) (h1 : n ≤ big) : (Str.ofString (toString n)).length ≤ 11 := by
  rw [PySem.ofString_length]
  exact int_text_length_le10 (k := 10) (by decide) (by unfold big at h1; omega)
theorem int_log {n : Int} (h0 : 0 ≤ n) (h1 : n ≤ big) : n.natAbs.log2 < 1920 := by
  have h : n.natAbs < 2 ^ 30 := by unfold big at h1; omega
  by_cases e : n.natAbs = 0
  · rw [e]; decide
  · exact Nat.lt_of_lt_of_le ((Nat.log2_lt e).mpr h) (by decide)
def spTrio (T : Txt P K mg) (xa xb xc : Str) (n1 n2 n3 : Int) : SpN := fun vs H Q => ∃ f bt, vs = [.ref f, .str xa, .str xb, .str xc, .ref bt] ∧ ∃ dx, H f = some (.ins T.C_Trio dx []) ∧ H bt = some (.tup [.int n1, .int n2, .int n3]) ∧ (∀ z ∈ [xa, xb, xc], NameOk z) ∧ [xa, xb, xc].Nodup ∧ (∀ n ∈ [n1, n2, n3], 0 ≤ n ∧ n ≤ big) ∧
  ∀ rs H', (∀ x u, x ≠ f → H x = some u → H' x = some u) → PlainAt T H' f (.trio xa xb xc rs) → Q .non H'
theorem sc_Trio_init : SupScope ["self", "a", "b", "c", "beats", "names", "count", "words"] ["self", "a", "b", "c", "beats"] (defScope (inC 35 0)) := ⟨rfl, rfl, rfl, by decide +kernel, rfl, by decide +kernel, by decide +kernel, sup_free (by decide +kernel), by decide +kernel, by decide +kernel⟩
theorem w_Trio_init (T : Txt P K mg) {xa xb xc : Str} {n1 n2 n3 : Int} : FnK P w K mg base (2 + 1) T.i_Trio "beats" (spTrio T xa xb xc n1 n2 n3) := by
  refine fn_supk (k := 2) T.fi_Trio sc_Trio_init (fun _ _ _ _ _ us u hl => match us, hl with | [_, _, _, _], _ => rfl) (fun vs H Q h => by obtain ⟨f, bt, rfl, h⟩ := h; rfl) fun A outer s H vs Q hr h => ?_
  have hu := hu_of hr
  have sc := sc_Trio_init
  obtain ⟨f, bt, rfl, h⟩ := h
  refine ⟨_, (psa_cons (ps_set (i := 5) sc.nd rfl (.inl rfl) (pe_cal (by rfl) (pa_cons (pe_lst (pa_cons (pv 1) (pa_cons (pv 2) (pa_cons (pv 3) pa_nil)))) pa_nil)))
    (psa_cons (ps_expr (pe_cal (by rfl) (pa_cons (pv 5) pa_nil)))
    (psa_cons (ps_for PassesOwn.never rfl (pi_tup (pv 4)) (pg_name (i := 6) sc.nd rfl (.inl rfl))
    (pss_one (ps_if (PW.pt (pw_or (pt_cmpR op_lt (pv 6) pe_int (nomark _)) (pw_or1 (pt_cmpR op_gt (pv 6) (ClX.pe_cval (pe_glob (v := .ref T.C_Fact) (by rfl) T.g_Fact rfl)) (nomark _)))))
    (pss_one ps_never)
    pss_nil)))
    (psa_cons (ps_fld (pv 0) (pe_callB cr_sortedI (by rfl) T.n_sorted (by decide +kernel) (pa_cons (pe_callTy call_list_of (by rfl) T.n_list (by decide +kernel) (pa_cons (pv 4) pa_nil)) pa_nil)) rfl)
    (psa_cons (ps_set (i := 7) sc.nd rfl (.inl rfl) (pe_op op_cat (pv 5) (pe_lc (own := [("count", 6)]) rfl sc.nd (pi_list (pe_fld (pv 0) rfl)) (blkOk_by (N := ["self", "a", "b", "c", "beats", "names", "count", "words"]) (sc := (defScope (inC 35 0))) (by decide +kernel)) (fun _ _ _ _ _ => (pg_name (i := 6) sc.nd rfl (.inl rfl) (.inr rfl))) (fun _ _ _ _ _ => pts_nil) (fun _ _ _ _ _ => (pe_callTy call_str_int (by rfl) T.n_str (by decide +kernel) (pa_cons (pv 6) pa_nil))))))
    (psa_sup rfl rfl rfl sc (by decide +kernel) T.fi_Trio.txt (pa_cons (pe_op op_add_str pe_str (pe_join pe_str (pv 7))) (pa_cons (pv 5) (pa_cons pe_int pa_nil))) (by decide) (by decide +kernel) (by rfl))))))), ?_⟩
  obtain ⟨dx, hf, hbt, ok, nd, hn, q⟩ := h
  refine ⟨spChecked, cal_checked T hr, _, rfl, _, rfl, _, rfl, (by show 3 ≤ sizeLine; decide), fun p hp => ⟨p, [xa, xb, xc], rfl, upd_same, ok, (by show 3 ≤ 1000; decide), fun p2 H1 hp2 hs1 hl1 => ?_⟩⟩
  have s1 := same_trans (same_new (o := .lst [.str xa, .str xb, .str xc]) hp) hs1
  refine ⟨spDist, cal_distinct T (hr.mono (by decide)), _, rfl, p2, [xa, xb, xc], rfl, hl1, nd, (by show 3 ≤ 1000; decide), fun H2 hs2 => ?_⟩
  have s2 := same_trans s1 hs2
  refine ⟨_, rfl, bt, rfl, ⟨_, SqT.of (s2 _ _ hbt)⟩, for_it (walk_tup (xs := [n1, n2, n3].map V.int)) (fun i σ H' => H' = H2 ∧ ∃ l m, σ = [some (.ref f), some (.str xa), some (.str xb), some (.str xc), some (.ref bt), some (.ref p2), l, m]) ⟨rfl, _, _, rfl⟩ (fun _ _ _ _ h => by rw [h.1]; exact SqT.of (s2 _ _ hbt)) ?_ ?_⟩
  · rintro i x σ H3 H4 hi ⟨rfl, l, m, rfl⟩ ⟨rfl, hx⟩
    obtain ⟨n, en, rfl⟩ := map_get hx
    obtain ⟨h0, h1⟩ := hn n (List.mem_of_getElem? en)
    refine ⟨_, rfl, _, _, rfl, rfl, _, rfl, ifN (by omega) ?_⟩
    refine ⟨_, rfl, T.C_Fact, T.mc_Fact, _, _, rfl, T.rd_Fact, T.c_Fact_MOST_COUNT, _, _, rfl, rfl, _, rfl, ifN (by unfold big at h1; omega) ⟨rfl, _, _, rfl⟩⟩
  · rintro σ H3 ⟨rfl, l, m, rfl⟩
    refine ⟨_, rfl, bt, _, rfl, .inr (SqT.of (s2 _ _ hbt)), fun p3 hp3 => ⟨p3, [n1, n2, n3], rfl, SqL.of upd_same, fun ns' p4 hpm hsd hp4 => ?_⟩⟩
    have s3 := same_trans (same_new (o := .lst [.int n1, .int n2, .int n3]) hp3) (same_new (o := .lst (ns'.map V.int)) hp4)
    have s4 := same_trans s2 s3
    have hf4 := s4 _ _ hf
    have hp4f : p4 ≠ f := fun z => by rw [z, same_new hp3 _ _ (s2 _ _ hf)] at hp4; cases hp4
    refine ⟨_, rfl, f, _, dx, _, rfl, hf4, T.fc_Trio.cl, T.fc_Trio.n_ranked, by decide, ?_⟩
    -- words
    have hp2l := s3 _ _ (hs2 _ _ hl1)
    have hp2f : p2 ≠ f := ne_of hp2l hf4 (by intro z; cases z)
    have hb : ∀ n ∈ ns', 0 ≤ n ∧ n ≤ big := fun n hm => hn n (hpm.mem_iff.mp hm)
    have hnl : ns'.length = 3 := hpm.length_eq
    refine ⟨_, rfl, _, rfl, f, _, dx, _, _, rfl, upd_same, T.fc_Trio.cl, T.fc_Trio.n_ranked, rfl, p4, rfl, ⟨_, SqL.of (by rw [upd_ne hp4f, upd_same])⟩, fun D hD => ?_⟩
    refine lc_it (walk_list (xs := ns'.map V.int)) (fun i H' => (∀ x u, upd (upd (upd H3 p3 (.lst [.int n1, .int n2, .int n3])) p4 (.lst (ns'.map V.int))) f (.ins T.C_Trio dx (putF "ranked" (.ref p4) [])) x = some u → H' x = some u) ∧ H' D = some (.lst ((ns'.take i).map fun n => V.str (Str.ofString (toString n)))))
      ⟨same_new hD, upd_same⟩ (fun _ _ _ h => SqL.of (h.1 _ _ (by rw [upd_ne hp4f, upd_same]))) ?_ ?_
    · rintro i x G1 G2 hi ⟨hk, hl⟩ ⟨rfl, hx⟩
      obtain ⟨n, en, rfl⟩ := map_get hx
      obtain ⟨h0, h1⟩ := hb n (List.mem_of_getElem? en)
      refine ⟨rfl, _, rfl, n, rfl, int_log h0 h1, _, hl, ?_, fun x u e => same_mut hk hD x u e, ?_⟩
      · rw [List.length_map, List.length_take]
        exact Nat.lt_of_le_of_lt (Nat.min_le_right _ _) (by rw [hnl]; decide)
      · rw [upd_same, List.take_add_one, en, List.map_append]; rfl
    · rintro G1 ⟨hk, hl⟩
      rw [List.length_map, List.take_length] at hl
      have up : ∀ x u, x ≠ f → upd (upd H3 p3 (.lst [.int n1, .int n2, .int n3])) p4 (.lst (ns'.map V.int)) x = some u → G1 x = some u := fun x u hx e => hk x u (by rw [upd_ne hx]; exact e)
      have hl2 : LsT G1 p2 [xa, xb, xc] := up _ _ hp2f hp2l
      have e0 : ([xa, xb, xc].map V.str ++ ns'.map fun n => V.str (Str.ofString (toString n))) = ([xa, xb, xc] ++ ns'.map fun n => Str.ofString (toString n)).map V.str := by rw [List.map_append, List.map_map]; rfl
      refine ⟨p2, D, _, _, rfl, rfl, hl2, hl, by rw [List.length_map, List.length_map, hnl]; show 6 ≤ sizeLine; decide, fun p5 hp5 => ?_⟩
      rw [e0] at *
      have s5 := same_new (o := .lst (([xa, xb, xc] ++ ns'.map fun n => Str.ofString (toString n)).map V.str)) hp5
      have hf5 : G1 f = some (.ins T.C_Trio dx [("ranked", .ref p4)]) := hk _ _ (by rw [upd_same]; rfl)
      refine ⟨f, _, dx, [("ranked", .ref p4)], T.i_Fact, 1, spFactInit, rfl, s5 _ _ hf5, T.sm_Trio, w_Fact_init T, hr.mono (by decide), ?_⟩
      have e1 : Str.length "trio " = 5 := by decide
      have hsum := names_sum ok
      have e4 : [xa, xb, xc].length = 3 := rfl
      rw [e4] at hsum
      have hs2' : ∀ l : List Int, (∀ n ∈ l, 0 ≤ n ∧ n ≤ big) → ((l.map fun n => Str.ofString (toString n)).map (·.length)).sum ≤ 11 * l.length := fun l => by
        induction l with
        | nil => intro _; simp
        | cons n l ih =>
          intro h
          have h1 := int_len (h n (List.mem_cons_self ..)).1 (h n (List.mem_cons_self ..)).2
          have h2 := ih fun m hm => h m (List.mem_cons_of_mem _ hm)
          simp only [List.map_cons, List.sum_cons, List.length_cons] at *
          omega
      have hsum2 := hs2' ns' hb
      rw [hnl] at hsum2
      have hsumT : (([xa, xb, xc] ++ ns'.map fun n => Str.ofString (toString n)).map (·.length)).sum ≤ 69 := by
        rw [List.map_append, List.sum_append]; omega
      have hlenT : ([xa, xb, xc] ++ ns'.map fun n => Str.ofString (toString n)).length = 6 := by rw [List.length_append, List.length_map, hnl]; rfl
      have hjl := join_len " " ([xa, xb, xc] ++ ns'.map fun n => Str.ofString (toString n))
      rw [l_sp, hlenT] at hjl
      refine ⟨⟨_, rfl⟩, _, rfl, " ", p5, _, rfl, rfl, .inl (SqL.of upd_same), by rw [l_sp, hlenT]; omega, _, _, rfl, rfl, szt (by omega), _, rfl, ?_⟩
      refine ⟨f, _, p2, 1, rfl, _, dx, _, s5 _ _ hf5, T.fc_Trio.cl, T.fc_Trio.n_word_text, T.fc_Trio.n_named, T.fc_Trio.n_depth, (by show 1 < 100; decide), fun H6 k6 h6 => q ns' _ (fun x u hx e => k6 x u hx (s5 _ _ (up _ _ hx (s4 _ _ e)))) ?_⟩
      refine ⟨dx, _, p2, _, h6, rfl, by rw [slen]; omega, rfl, k6 _ _ hp2f (s5 _ _ hl2), rfl, rfl, rfl, rfl, ⟨by simp [Px.names], by simp [Px.names], ok⟩, p4, rfl, ?_⟩
      exact k6 _ _ hp4f (s5 _ _ (up _ _ hp4f upd_same))
end
end Fb
set_option maxHeartbeats 4000000
/-! Forkbeats: facts' common methods; compounds. -/
namespace Fb
open PySem PySem.Spec PyProof.Rows L2
inductive Fx where
  | plain (p : Px)
  | not (p : Px)
  | both (p q : Px)
  | either (p q : Px)
def Fx.names : Fx → List Str
  | .plain p => p.names
  | .not p => dedup p.names
  | .both p q => dedup (dedup p.names ++ dedup q.names)
  | .either p q => dedup (dedup p.names ++ dedup q.names)
def Fx.ev : Fx → Lv → Bool
  | .plain p, f => p.ev f
  | .not p, f => !p.ev f
  | .both p q, f => p.ev f && q.ev f
  | .either p q, f => p.ev f || q.ev f
def Fx.dep : Fx → Int
  | .plain _ => 1
  | _ => 2
def Fx.m : Fx → Nat
  | .plain _ => 500
  | _ => 2000
theorem Px.ev_congr {p : Px} {f g : Lv} (h : ∀ z ∈ p.names, f z = g z) : p.ev f = p.ev g := by
  cases p with
  | highest a ns =>
    have ha := h a (by simp [Px.names])
    simp only [Px.ev]
    rw [ha]
    have go : ∀ l : List Str, (∀ z ∈ l, f z = g z) → (l.all fun z => decide (f z < g a)) = l.all fun z => decide (g z < g a) := fun l => by
      induction l with
      | nil => intro _; rfl
      | cons y l ih =>
        intro h
        simp only [List.all_cons]
        rw [h y (List.mem_cons_self ..), ih fun z hz => h z (List.mem_cons_of_mem _ hz)]
    exact go ns fun z hz => h z (by simp [Px.names, hz])
  | _ => simp only [Px.names, List.mem_cons, List.not_mem_nil, or_false, forall_eq_or_imp, forall_eq] at h; simp only [Px.ev, h]
theorem Fx.ev_congr {x : Fx} {f g : Lv} (h : ∀ z ∈ x.names, f z = g z) : x.ev f = x.ev g := by
  cases x with
  | plain p => exact Px.ev_congr h
  | not p => simp only [Fx.ev]; rw [Px.ev_congr fun z hz => h z (dedup_mem.mpr hz)]
  | both p q =>
    simp only [Fx.ev]
    rw [Px.ev_congr (p := p) (fun z hz => h z (dedup_mem.mpr (List.mem_append_left _ (dedup_mem.mpr hz)))), Px.ev_congr (p := q) (fun z hz => h z (dedup_mem.mpr (List.mem_append_right _ (dedup_mem.mpr hz))))]
  | either p q =>
    simp only [Fx.ev]
    rw [Px.ev_congr (p := p) (fun z hz => h z (dedup_mem.mpr (List.mem_append_left _ (dedup_mem.mpr hz)))), Px.ev_congr (p := q) (fun z hz => h z (dedup_mem.mpr (List.mem_append_right _ (dedup_mem.mpr hz))))]
section
variable {P : Program} {w : World} {K : PySem.W.Frag} {mg : Str → Option Value} {base : Heap}
def Fx.cls (T : Txt P K mg) : Fx → Addr
  | .plain p => p.cls T
  | .not _ => T.C_Not
  | .both .. => T.C_Both
  | .either .. => T.C_Either
def Fx.xtra (T : Txt P K mg) (H : Hp) : Fx → List (Str × V) → Prop
  | .plain p, fs => p.xtra H fs
  | .not p, fs => ∃ a, fs.lookup ("left" : Str) = some (.ref a) ∧ PlainAt T H a p
  | .both p q, fs => ∃ a b, fs.lookup ("left" : Str) = some (.ref a) ∧ PlainAt T H a p ∧ fs.lookup ("right" : Str) = some (.ref b) ∧ PlainAt T H b q
  | .either p q, fs => ∃ a b, fs.lookup ("left" : Str) = some (.ref a) ∧ PlainAt T H a p ∧ fs.lookup ("right" : Str) = some (.ref b) ∧ PlainAt T H b q
def FactAt (T : Txt P K mg) (H : Hp) (f : Addr) (x : Fx) : Prop := Hd H f (x.cls T) x.names x.dep x.m (x.xtra T H)
theorem FactAt.at {T : Txt P K mg} {H H' : Hp} {f : Addr} {x : Fx} (h : FactAt T H f x) (k : Kept H H') : FactAt T H' f x := Hd.at h k fun fs h => by
  cases x with
  | plain p => exact Px.xtra_at k h
  | not p => obtain ⟨a, h1, h2⟩ := h; exact ⟨a, h1, h2.at k⟩
  | both p q => obtain ⟨a, b, h1, h2, h3, h4⟩ := h; exact ⟨a, b, h1, h2.at k, h3, h4.at k⟩
  | either p q => obtain ⟨a, b, h1, h2, h3, h4⟩ := h; exact ⟨a, b, h1, h2.at k, h3, h4.at k⟩
theorem Fx.fact (T : Txt P K mg) : ∀ x : Fx, FactOf T (x.cls T)
  | .plain p => p.fact T
  | .not _ => ⟨_, T.fc_Not⟩
  | .both .. => ⟨_, T.fc_Both⟩
  | .either .. => ⟨_, T.fc_Either⟩
theorem cal_dedup (T : Txt P K mg) {A : Around} (hr : Room 1 A) : Cal ⟨P, w, K, mg, base, A⟩ "without_duplicates" spDedup := ⟨_, 1, T.g_without_duplicates, T.f_without_duplicates.kp, w_without_duplicates T, hr⟩
theorem mth_keptP (T : Txt P K mg) {A : Around} (hr : Room 4 A) : ∀ p : Px, Mth ⟨P, w, K, mg, base, A⟩ (p.cls T) "kept" (spKeptP T p)
  | .above .. => ⟨T.fc_Above.cl, _, 3, T.fc_Above.kept, w_kept_Above T, hr.mono (by decide)⟩
  | .intune .. => ⟨T.fc_InTune.cl, _, 3, T.fc_InTune.kept, w_kept_InTune T, hr.mono (by decide)⟩
  | .between .. => ⟨T.fc_Between.cl, _, 3, T.fc_Between.kept, w_kept_Between T, hr.mono (by decide)⟩
  | .highest .. => ⟨T.fc_Highest.cl, _, 3, T.fc_Highest.kept, w_kept_Highest T, hr.mono (by decide)⟩
  | .asoften .. => ⟨T.fc_AsOften.cl, _, 4, T.fc_AsOften.kept, w_kept_AsOften T, hr⟩
  | .more .. => ⟨T.fc_MoreOften.cl, _, 4, T.fc_MoreOften.kept, w_kept_MoreOften T, hr⟩
  | .trio .. => ⟨T.fc_Trio.cl, _, 4, T.fc_Trio.kept, w_kept_Trio T, hr⟩
def spForks (T : Txt P K mg) : SpN := fun vs H Q => ∃ f, vs = [.ref f] ∧ ∃ C ns d m more, FactOf T C ∧ Hd H f C ns d m more ∧ ∀ p H', H p = none → Same H H' → LsT H' p (dedup ns) → Q (.ref p) H'
theorem sc_Fact_forks : FnScope ["self"] ["self"] (defScope (inC 28 3)) := ⟨rfl, rfl, rfl, by decide +kernel, rfl, by decide +kernel, by decide +kernel⟩
theorem w_Fact_forks (T : Txt P K mg) : FnN P w K mg base (1 + 1) (T.a_Fact_forks) (spForks T) := by
  refine fn_mk (k := 1) (T.f_Fact_forks) sc_Fact_forks (fun _ _ _ _ _ _ us hl => match us, hl with | [_], _ => rfl) (fun vs H Q h => by obtain ⟨f, rfl, h⟩ := h; rfl) fun cdv A outer s H vs Q hr h => ?_
  have hu := hu_of hr
  have sc := sc_Fact_forks
  obtain ⟨f, rfl, h⟩ := h
  refine ⟨_, (pss_one (ps_ret (pe_cal (by rfl) (pa_cons (pe_fld (pv 0) rfl) pa_nil)))), ?_⟩
  obtain ⟨C, ns, d, m, more, ⟨ka, fc⟩, ⟨dx, fs, l, tx, h1, h2, h3, h4, h5, h6, h7, h8, h9, hn, h10⟩, q⟩ := h
  refine ⟨spDedup, cal_dedup T hr, _, rfl, f, C, dx, fs, _, rfl, h1, fc.cl, fc.n_named, h4, l, ns, rfl, h5, by omega, q⟩
def spFStr (T : Txt P K mg) : SpN := fun vs H Q => ∃ f, vs = [.ref f] ∧ ∃ C ns d m more, FactOf T C ∧ Hd H f C ns d m more ∧ m ≤ 10000 ∧ ∀ tx : Str, tx.length ≤ m → Q (.str tx) H
theorem sc_Fact_str : FnScope ["self"] ["self"] (defScope (inC 28 9)) := ⟨rfl, rfl, rfl, by decide +kernel, rfl, by decide +kernel, by decide +kernel⟩
theorem w_Fact_str (T : Txt P K mg) : FnN P w K mg base (0 + 1) (T.a_Fact_str) (spFStr T) := by
  refine fn_mk (k := 0) (T.f_Fact_str) sc_Fact_str (fun _ _ _ _ _ _ us hl => match us, hl with | [_], _ => rfl) (fun vs H Q h => by obtain ⟨f, rfl, h⟩ := h; rfl) fun cdv A outer s H vs Q hr h => ?_
  have hu := hu_of hr
  have sc := sc_Fact_str
  obtain ⟨f, rfl, h⟩ := h
  refine ⟨_, (pss_one (ps_ret (pe_joined1 (pe_fmt (pe_fld (pv 0) rfl))))), ?_⟩
  obtain ⟨C, ns, d, m, more, ⟨ka, fc⟩, ⟨dx, fs, l, tx, h1, h2, h3, h4, h5, h6, h7, h8, h9, hn, h10⟩, hm, q⟩ := h
  exact ⟨_, rfl, f, C, dx, fs, _, rfl, h1, fc.cl, fc.n_word_text, h2, .inl ⟨tx, rfl, szt (by omega), q tx h3⟩⟩
def spDeeper (T : Txt P K mg) : SpN := fun vs H Q => ∃ l, vs = [.ref l] ∧ ∃ fs, H l = some (.lst (fs.map V.ref)) ∧ fs ≠ [] ∧ fs.length ≤ 10 ∧ (∀ f ∈ fs, ∃ p, PlainAt T H f p) ∧ ∀ H', Same H H' → Q (.int 2) H'
theorem sc_deeper : FnScope ["parts", "depth", "piece"] ["parts"] (defScope (top 36)) := ⟨rfl, rfl, rfl, by decide +kernel, rfl, by decide +kernel, by decide +kernel⟩
theorem w_deeper (T : Txt P K mg) : FnN P w K mg base (0 + 1) (T.a_deeper) (spDeeper T) := by
  refine fn_mk (k := 0) (T.f_deeper) sc_deeper (fun _ _ _ _ _ _ us hl => match us, hl with | [_], _ => rfl) (fun vs H Q h => by obtain ⟨l, rfl, h⟩ := h; rfl) fun cdv A outer s H vs Q hr h => ?_
  have hu := hu_of hr
  have sc := sc_deeper
  obtain ⟨l, rfl, h⟩ := h
  refine ⟨_, (pss_cons (ps_set (i := 1) sc.nd rfl (.inl rfl) (pe_op op_add pe_int (pe_callB (cr_max rfl) (by rfl) T.n_max (by decide +kernel) (pa_cons (pe_lc (own := [("piece", 2)]) rfl sc.nd (pi_list (pv 0)) (blkOk_by (N := ["parts", "depth", "piece"]) (sc := (defScope (top 36))) (by decide +kernel)) (fun _ _ _ _ _ => (pg_name (i := 2) sc.nd rfl (.inl rfl) (.inr rfl))) (fun _ _ _ _ _ => pts_nil) (fun _ _ _ _ _ => (pe_fldc (pv 2) rfl))) pa_nil))))
    (pss_cons (ps_if (pt_cmpR op_gt (pv 1) (ClX.pe_cval (pe_glob (v := .ref T.C_Fact) (by rfl) T.g_Fact rfl)) (nomark _))
    (pss_one ps_never)
    pss_nil)
    (pss_one (ps_ret (pv 1))))), ?_⟩
  obtain ⟨fs, hl, hne, hz, hf, q⟩ := h
  refine ⟨_, rfl, l, rfl, ⟨_, SqL.of hl⟩, fun D hD => lc_it (walk_list (xs := fs.map V.ref)) (fun i H' => Same H H' ∧ H' D = some (.lst ((List.replicate i (1 : Int)).map V.int))) ⟨same_new hD, upd_same⟩ (fun _ _ _ h => SqL.of (h.1 _ _ hl)) ?_ ?_⟩
  · rintro i x H1 H2 hi ⟨hs, hd⟩ ⟨rfl, hx⟩
    obtain ⟨f, ef, rfl⟩ := map_get hx
    obtain ⟨p, dx, fs2, l2, tx, h1, h2, h3, h4, h5, h6, _⟩ := hf f (List.mem_of_getElem? ef)
    obtain ⟨ka, fc⟩ := p.fact T
    refine ⟨rfl, _, rfl, f, _, dx, fs2, _, rfl, hs _ _ h1, fc.cl, fc.n_depth, h6, _, hd, ?_, same_mut hs hD, ?_⟩
    · rw [List.length_map, List.length_replicate]
      simp at hi
      exact Nat.lt_trans (Nat.lt_of_lt_of_le hi hz) (by decide)
    · rw [upd_same, List.replicate_succ', List.map_append]; rfl
  · rintro H1 ⟨hs, hd⟩
    refine ⟨D, _, rfl, SqL.of hd, ?_, fun m hm _ => ?_⟩
    · rw [List.length_replicate, List.length_map]; exact List.length_pos_iff.mpr hne
    · obtain rfl : m = 1 := List.eq_of_mem_replicate hm
      refine ⟨_, _, rfl, rfl, _, rfl, T.C_Fact, T.mc_Fact, _, _, rfl, T.rd_Fact, T.c_Fact_MOST_DEPTH, _, _, rfl, rfl, _, rfl, ifN (by decide) ⟨_, rfl, q _ hs⟩⟩
theorem cal_deeper (T : Txt P K mg) {A : Around} (hr : Room 1 A) : Cal ⟨P, w, K, mg, base, A⟩ "deeper" (spDeeper T) := ⟨_, 1, T.g_deeper, T.f_deeper.kp, w_deeper T, hr⟩
theorem PlainAt.ok {T : Txt P K mg} {H : Hp} {f : Addr} {p : Px} (h : PlainAt T H f p) : p.names ≠ [] ∧ p.names.length ≤ 100 ∧ ∀ z ∈ p.names, NameOk z := by
  obtain ⟨_, _, _, _, _, _, _, _, _, _, _, _, _, hn, _⟩ := h
  exact hn
theorem PlainAt.hd {T : Txt P K mg} {H : Hp} {f : Addr} {p : Px} (h : PlainAt T H f p) : ∃ dx fs, H f = some (.ins (p.cls T) dx fs) ∧ fs.lookup ("forks" : Str) = none ∧ fs.lookup ("kept" : Str) = none := by
  obtain ⟨dx, fs, _, _, h1, _, _, _, _, _, h7, h8, _⟩ := h
  exact ⟨dx, fs, h1, h7, h8⟩
theorem mth_forks (T : Txt P K mg) {A : Around} (hr : Room 2 A) {C : Addr} (h : FactOf T C) : Mth ⟨P, w, K, mg, base, A⟩ C "forks" (spForks T) := by
  obtain ⟨ka, fc⟩ := h
  exact ⟨fc.cl, _, 2, fc.forks, w_Fact_forks T, hr⟩
theorem dedup_ok {ns : List Str} (h : ns ≠ [] ∧ ns.length ≤ 100 ∧ ∀ z ∈ ns, NameOk z) : dedup ns ≠ [] ∧ (dedup ns).length ≤ 100 ∧ ∀ z ∈ dedup ns, NameOk z :=
  ⟨dedup_ne h.1, Nat.le_trans (dedup_len _) h.2.1, fun z hz => h.2.2 z (dedup_mem.mp hz)⟩
def spNotI (T : Txt P K mg) (p : Px) : SpN := fun vs H Q => ∃ f a, vs = [.ref f, .ref a] ∧ ∃ dx, H f = some (.ins T.C_Not dx []) ∧ PlainAt T H a p ∧ ∀ H', (∀ x u, x ≠ f → H x = some u → H' x = some u) → FactAt T H' f (.not p) → Q .non H'
theorem PlainAt.but {T : Txt P K mg} {H H' : Hp} {f a : Addr} {p : Px} {o : HO} (h : PlainAt T H a p) (k : ∀ x u, x ≠ f → H x = some u → H' x = some u) (hf : H f = some o) (hs : ∀ dx fs, o = .ins (p.cls T) dx fs → fs.lookup ("word_text" : Str) = none) (hl : ∀ xs, o ≠ .lst xs) : PlainAt T H' a p := by
  obtain ⟨dx, fs, l, tx, h1, h2, h3, h4, h5, h6, h7, h8, h9, hn, h10⟩ := h
  have hax : a ≠ f := fun z => by
    rw [z, hf] at h1
    have := hs dx fs (Option.some.inj h1)
    rw [this] at h2; cases h2
  have hlf : ∀ {x : Addr} {xs : List V}, H x = some (.lst xs) → x ≠ f := fun e z => by
    rw [z, hf] at e
    exact hl _ (Option.some.inj e)
  refine ⟨dx, fs, l, tx, k _ _ hax h1, h2, h3, h4, k _ _ (hlf h5) h5, h6, h7, h8, h9, hn, ?_⟩
  cases p with
  | trio a b c rs => obtain ⟨r, e1, e2⟩ := h10; exact ⟨r, e1, k _ _ (hlf e2) e2⟩
  | _ => exact trivial
theorem sc_Not_init : SupScope ["self", "fact", "depth"] ["self", "fact"] (defScope (inC 37 0)) := ⟨rfl, rfl, rfl, by decide +kernel, rfl, by decide +kernel, by decide +kernel, sup_free (by decide +kernel), by decide +kernel, by decide +kernel⟩
theorem w_Not_init (T : Txt P K mg) {xp : Px} : FnN P w K mg base (3 + 1) T.i_Not (spNotI T xp) := by
  refine fn_sup (k := 3) T.fi_Not sc_Not_init (fun _ _ _ _ _ us hl => match us, hl with | [_, _], _ => rfl) (fun vs H Q h => by obtain ⟨f, a, rfl, h⟩ := h; rfl) fun A outer s H vs Q hr h => ?_
  have hu := hu_of hr
  have sc := sc_Not_init
  obtain ⟨f, a, rfl, h⟩ := h
  refine ⟨_, (psa_cons (ps_set (i := 2) sc.nd rfl (.inl rfl) (pe_cal (by rfl) (pa_cons (pe_lst (pa_cons (pv 1) pa_nil)) pa_nil)))
    (psa_cons (ps_fld (pv 0) (pv 1) rfl)
    (psa_sup rfl rfl rfl sc (by decide +kernel) T.fi_Not.txt (pa_cons (pe_op op_add_str (pe_op op_add_str pe_str (pe_callTy call_strO (by rfl) T.n_str (by decide +kernel) (pa_cons (pv 1) pa_nil))) pe_str) (pa_cons (pe_met0 (pv 1)) (pa_cons (pv 2) pa_nil))) (by decide) (by decide +kernel) (by rfl)))), ?_⟩
  obtain ⟨dx, hf, ha, q⟩ := h
  obtain ⟨da, fa, ha1, ha2, ha3⟩ := ha.hd
  obtain ⟨ka, fc⟩ := id (xp.fact T)
  have hfa : a ≠ f := fun z => by
    obtain ⟨dx2, fs, l, tx, h1, h2, _⟩ := ha
    rw [z, hf] at h1
    have e := Option.some.inj h1
    injection e with e1 e2 e3
    rw [← e3] at h2; cases h2
  refine ⟨spDeeper T, cal_deeper T (hr.mono (by decide)), _, rfl, (by show 1 ≤ sizeLine; decide), fun p hp => ⟨p, rfl, [a], upd_same, (by simp), (by show 1 ≤ 10; decide), (fun g hg => ?_), fun H1 hs1 => ?_⟩⟩
  · rw [List.mem_singleton.mp hg]
    exact ⟨xp, ha.at (same_kept (same_new hp))⟩
  have s1 := same_trans (same_new (o := .lst [.ref a]) hp) hs1
  refine ⟨_, rfl, _, rfl, f, _, dx, [], rfl, s1 _ _ hf, T.fc_Not.cl, T.fc_Not.n_left, by decide, ?_⟩
  have hf2 : upd H1 f (.ins T.C_Not dx (putF "left" (.ref a) [])) f = some (.ins T.C_Not dx [("left", .ref a)]) := by rw [upd_same]; rfl
  have ha2' : PlainAt T (upd H1 f (.ins T.C_Not dx (putF "left" (.ref a) []))) a xp := (ha.at (same_kept s1)).but (f := f) (fun x u hx e => by rw [upd_ne hx]; exact e) (s1 _ _ hf) (fun _ _ e => by injection e with _ _ e; rw [← e]; rfl) (fun _ e => by cases e)
  obtain ⟨da2, fa2, hb1, hb2, hb3⟩ := ha2'.hd
  refine ⟨f, _, dx, _, T.i_Fact, 1, spFactInit, rfl, hf2, T.sm_Not, w_Fact_init T, hr.mono (by decide), ?_⟩
  refine ⟨_, rfl, a, _, da2, fa2, T.a_Fact_str, 1, spFStr T, rfl, hb1, fc.str.spc, w_Fact_str T, hr.mono (by decide), a, rfl, _, _, _, _, _, ⟨ka, fc⟩, ha2', (by decide), fun tx htx => ⟨tx, rfl, ?_⟩⟩
  have e1 : Str.length "not (" = 5 := by decide
  have e2 : Str.length ")" = 1 := by decide
  refine ⟨_, _, rfl, rfl, szt (by omega), _, _, rfl, rfl, szt (by rw [slen]; omega), ?_⟩
  refine ⟨_, rfl, a, _, da2, fa2, spForks T, rfl, hb1, hb2, mth_forks T (hr.mono (by decide)) ⟨ka, fc⟩, a, rfl, _, _, _, _, _, ⟨ka, fc⟩, ha2', fun p2 H3 hp2 hs3 hl3 => ?_⟩
  have hp2f : p2 ≠ f := fun z => by rw [z, hf2] at hp2; cases hp2
  refine ⟨_, rfl, f, _, p2, 2, rfl, _, dx, [("left", .ref a)], hs3 _ _ hf2, T.fc_Not.cl, T.fc_Not.n_word_text, T.fc_Not.n_named, T.fc_Not.n_depth, (by show 1 < 100; decide), fun H4 k4 h4 => q _ (fun x u hx e => k4 x u hx (hs3 _ _ (by rw [upd_ne hx]; exact s1 _ _ e))) ?_⟩
  refine ⟨dx, _, p2, _, h4, rfl, by simp only [slen, Fx.m]; omega, rfl, k4 _ _ hp2f hl3, rfl, rfl, rfl, rfl, dedup_ok ha.ok, a, rfl, ?_⟩
  exact (ha2'.at (same_kept hs3)).but (f := f) k4 (hs3 _ _ hf2) (fun _ _ e => by injection e with _ _ e; rw [← e]; rfl) (fun _ e => by cases e)
def spTwoI (T : Txt P K mg) (C : Addr) (x : Fx) (p q : Px) : SpN := fun vs H Q => ∃ f a b, vs = [.ref f, .ref a, .ref b] ∧ ∃ dx, H f = some (.ins C dx []) ∧ PlainAt T H a p ∧ PlainAt T H b q ∧ p.names.length + q.names.length ≤ 100 ∧ ∀ H', (∀ x u, x ≠ f → H x = some u → H' x = some u) → FactAt T H' f x → Q .non H'
theorem sc_Both_init : SupScope ["self", "first", "second", "depth", "names"] ["self", "first", "second"] (defScope (inC 38 0)) := ⟨rfl, rfl, rfl, by decide +kernel, rfl, by decide +kernel, by decide +kernel, sup_free (by decide +kernel), by decide +kernel, by decide +kernel⟩
theorem w_Both_init (T : Txt P K mg) {xp xq : Px} : FnN P w K mg base (3 + 1) T.i_Both (spTwoI T T.C_Both (.both xp xq) xp xq) := by
  refine fn_sup (k := 3) T.fi_Both sc_Both_init (fun _ _ _ _ _ us hl => match us, hl with | [_, _, _], _ => rfl) (fun vs H Q h => by obtain ⟨f, a, b, rfl, h⟩ := h; rfl) fun A outer s H vs Q hr h => ?_
  have hu := hu_of hr
  have sc := sc_Both_init
  obtain ⟨f, a, b, rfl, h⟩ := h
  refine ⟨_, (psa_cons (ps_set (i := 3) sc.nd rfl (.inl rfl) (pe_cal (by rfl) (pa_cons (pe_lst (pa_cons (pv 1) (pa_cons (pv 2) pa_nil))) pa_nil)))
    (psa_cons (ps_fld (pv 0) (pv 1) rfl)
    (psa_cons (ps_fld (pv 0) (pv 2) rfl)
    (psa_cons (ps_set (i := 4) sc.nd rfl (.inl rfl) (pe_cal (by rfl) (pa_cons (pe_op op_cat (pe_met0 (pv 1)) (pe_met0 (pv 2))) pa_nil)))
    (psa_sup rfl rfl rfl sc (by decide +kernel) T.fi_Both.txt (pa_cons (pe_op op_add_str (pe_op op_add_str (pe_op op_add_str (pe_op op_add_str pe_str (pe_callTy call_strO (by rfl) T.n_str (by decide +kernel) (pa_cons (pv 1) pa_nil))) pe_str) (pe_callTy call_strO (by rfl) T.n_str (by decide +kernel) (pa_cons (pv 2) pa_nil))) pe_str) (pa_cons (pv 4) (pa_cons (pv 3) pa_nil))) (by decide) (by decide +kernel) (by rfl)))))), ?_⟩
  obtain ⟨dx, hf, ha, hb, hlen, q⟩ := h
  obtain ⟨ka, fca⟩ := id (xp.fact T)
  obtain ⟨kb, fcb⟩ := id (xq.fact T)
  refine ⟨spDeeper T, cal_deeper T (hr.mono (by decide)), _, rfl, _, rfl, (by show 2 ≤ sizeLine; decide), fun p hp => ⟨p, rfl, [a, b], upd_same, (by simp), (by show 2 ≤ 10; decide), (fun g hg => ?_), fun H1 hs1 => ?_⟩⟩
  · rcases List.mem_cons.mp hg with e | e
    · rw [e]; exact ⟨xp, ha.at (same_kept (same_new hp))⟩
    · rw [List.mem_singleton.mp e]; exact ⟨xq, hb.at (same_kept (same_new hp))⟩
  have s1 := same_trans (same_new (o := .lst [.ref a, .ref b]) hp) hs1
  refine ⟨_, rfl, _, rfl, f, _, dx, [], rfl, s1 _ _ hf, T.fc_Both.cl, T.fc_Both.n_left, by decide, ?_⟩
  refine ⟨_, rfl, _, rfl, f, _, dx, _, rfl, upd_same, T.fc_Both.cl, T.fc_Both.n_right, (by show 1 < 1000; decide), ?_⟩
  generalize hG : upd (upd H1 f (.ins T.C_Both dx (putF "left" (.ref a) []))) f (.ins T.C_Both dx (putF "right" (.ref b) (putF "left" (.ref a) []))) = G
  have kG : ∀ x u, x ≠ f → H1 x = some u → G x = some u := fun x u hx e => by rw [← hG, upd_ne hx, upd_ne hx]; exact e
  have hf2 : G f = some (.ins T.C_Both dx [("left", .ref a), ("right", .ref b)]) := by rw [← hG, upd_same]; rfl
  have haG : PlainAt T G a xp := (ha.at (same_kept s1)).but (f := f) kG (s1 _ _ hf) (fun _ _ e => by injection e with _ _ e; rw [← e]; rfl) (fun _ e => by cases e)
  have hbG : PlainAt T G b xq := (hb.at (same_kept s1)).but (f := f) kG (s1 _ _ hf) (fun _ _ e => by injection e with _ _ e; rw [← e]; rfl) (fun _ e => by cases e)
  obtain ⟨da, fa, a1, a2, _⟩ := haG.hd
  refine ⟨spDedup, cal_dedup T (hr.mono (by decide)), ?_⟩
  refine ⟨_, rfl, a, _, da, fa, spForks T, rfl, a1, a2, mth_forks T (hr.mono (by decide)) ⟨ka, fca⟩, a, rfl, _, _, _, _, _, ⟨ka, fca⟩, haG, fun p1 G1 hp1 hsA hlA => ?_⟩
  have hbG1 := hbG.at (same_kept hsA)
  obtain ⟨db, fb, b1, b2, _⟩ := hbG1.hd
  refine ⟨_, rfl, b, _, db, fb, spForks T, rfl, b1, b2, mth_forks T (hr.mono (by decide)) ⟨kb, fcb⟩, b, rfl, _, _, _, _, _, ⟨kb, fcb⟩, hbG1, fun p2 G2 hp2 hsB hlB => ?_⟩
  have l1 := dedup_len xp.names
  have l2 := dedup_len xq.names
  have hlA2 := hsB _ _ hlA
  refine ⟨p1, p2, _, _, rfl, rfl, hlA2, hlB, by rw [List.length_map, List.length_map]; exact szt (by omega), fun p3 hp3 => ?_⟩
  have e0 : ((dedup xp.names).map V.str ++ (dedup xq.names).map V.str) = (dedup xp.names ++ dedup xq.names).map V.str := List.map_append.symm
  rw [e0] at *
  refine ⟨p3, _, rfl, upd_same, by rw [List.length_append]; omega, fun p4 G4 hp4 hs4 hl4 => ?_⟩
  have sG := same_trans hsA (same_trans hsB (same_trans (same_new (o := .lst ((dedup xp.names ++ dedup xq.names).map V.str)) hp3) hs4))
  refine ⟨f, _, dx, _, T.i_Fact, 1, spFactInit, rfl, sG _ _ hf2, T.sm_Both, w_Fact_init T, hr.mono (by decide), ?_⟩
  have haG4 := haG.at (same_kept sG)
  have hbG4 := hbG.at (same_kept sG)
  obtain ⟨da4, fa4, a14, _, _⟩ := haG4.hd
  obtain ⟨db4, fb4, b14, _, _⟩ := hbG4.hd
  have e1 : Str.length "both (" = 6 := by decide
  have e2 : Str.length ") (" = 3 := by decide
  have e3 : Str.length ")" = 1 := by decide
  refine ⟨_, rfl, a, _, da4, fa4, T.a_Fact_str, 1, spFStr T, rfl, a14, fca.str.spc, w_Fact_str T, hr.mono (by decide), a, rfl, _, _, _, _, _, ⟨ka, fca⟩, haG4, (by decide), fun ta hta => ⟨ta, rfl, ?_⟩⟩
  refine ⟨_, _, rfl, rfl, szt (by omega), _, _, rfl, rfl, szt (by rw [slen]; omega), ?_⟩
  refine ⟨_, rfl, b, _, db4, fb4, T.a_Fact_str, 1, spFStr T, rfl, b14, fcb.str.spc, w_Fact_str T, hr.mono (by decide), b, rfl, _, _, _, _, _, ⟨kb, fcb⟩, hbG4, (by decide), fun tb htb => ⟨tb, rfl, ?_⟩⟩
  refine ⟨_, _, rfl, rfl, szt (by simp only [slen]; omega), _, _, rfl, rfl, szt (by simp only [slen]; omega), ?_⟩
  have hp4f : p4 ≠ f := fun z => by rw [z, same_new hp3 _ _ (hsB _ _ (hsA _ _ hf2))] at hp4; cases hp4
  refine ⟨_, rfl, _, rfl, f, _, p4, 2, rfl, _, dx, _, sG _ _ hf2, T.fc_Both.cl, T.fc_Both.n_word_text, T.fc_Both.n_named, T.fc_Both.n_depth, (by show 2 < 100; decide), fun H5 k5 h5 => q _ (fun x u hx e => k5 x u hx (sG _ _ (kG _ _ hx (s1 _ _ e)))) ?_⟩
  refine ⟨dx, _, p4, _, h5, rfl, by simp only [slen, Fx.m]; omega, rfl, k5 _ _ hp4f hl4, rfl, rfl, rfl, rfl, dedup_ok ⟨?_, ?_, ?_⟩, a, b, rfl, ?_, rfl, ?_⟩
  · exact fun z => dedup_ne ha.ok.1 (List.append_eq_nil_iff.mp z).1
  · rw [List.length_append]; omega
  · intro z hz
    rcases List.mem_append.mp hz with h | h
    · exact ha.ok.2.2 z (dedup_mem.mp h)
    · exact hb.ok.2.2 z (dedup_mem.mp h)
  · exact haG4.but (f := f) k5 (sG _ _ hf2) (fun _ _ e => by injection e with _ _ e; rw [← e]; rfl) (fun _ e => by cases e)
  · exact hbG4.but (f := f) k5 (sG _ _ hf2) (fun _ _ e => by injection e with _ _ e; rw [← e]; rfl) (fun _ e => by cases e)
theorem sc_Either_init : SupScope ["self", "first", "second", "depth", "names"] ["self", "first", "second"] (defScope (inC 39 0)) := ⟨rfl, rfl, rfl, by decide +kernel, rfl, by decide +kernel, by decide +kernel, sup_free (by decide +kernel), by decide +kernel, by decide +kernel⟩
theorem w_Either_init (T : Txt P K mg) {xp xq : Px} : FnN P w K mg base (3 + 1) T.i_Either (spTwoI T T.C_Either (.either xp xq) xp xq) := by
  refine fn_sup (k := 3) T.fi_Either sc_Either_init (fun _ _ _ _ _ us hl => match us, hl with | [_, _, _], _ => rfl) (fun vs H Q h => by obtain ⟨f, a, b, rfl, h⟩ := h; rfl) fun A outer s H vs Q hr h => ?_
  have hu := hu_of hr
  have sc := sc_Either_init
  obtain ⟨f, a, b, rfl, h⟩ := h
  refine ⟨_, (psa_cons (ps_set (i := 3) sc.nd rfl (.inl rfl) (pe_cal (by rfl) (pa_cons (pe_lst (pa_cons (pv 1) (pa_cons (pv 2) pa_nil))) pa_nil)))
    (psa_cons (ps_fld (pv 0) (pv 1) rfl)
    (psa_cons (ps_fld (pv 0) (pv 2) rfl)
    (psa_cons (ps_set (i := 4) sc.nd rfl (.inl rfl) (pe_cal (by rfl) (pa_cons (pe_op op_cat (pe_met0 (pv 1)) (pe_met0 (pv 2))) pa_nil)))
    (psa_sup rfl rfl rfl sc (by decide +kernel) T.fi_Either.txt (pa_cons (pe_op op_add_str (pe_op op_add_str (pe_op op_add_str (pe_op op_add_str pe_str (pe_callTy call_strO (by rfl) T.n_str (by decide +kernel) (pa_cons (pv 1) pa_nil))) pe_str) (pe_callTy call_strO (by rfl) T.n_str (by decide +kernel) (pa_cons (pv 2) pa_nil))) pe_str) (pa_cons (pv 4) (pa_cons (pv 3) pa_nil))) (by decide) (by decide +kernel) (by rfl)))))), ?_⟩
  obtain ⟨dx, hf, ha, hb, hlen, q⟩ := h
  obtain ⟨ka, fca⟩ := id (xp.fact T)
  obtain ⟨kb, fcb⟩ := id (xq.fact T)
  refine ⟨spDeeper T, cal_deeper T (hr.mono (by decide)), _, rfl, _, rfl, (by show 2 ≤ sizeLine; decide), fun p hp => ⟨p, rfl, [a, b], upd_same, (by simp), (by show 2 ≤ 10; decide), (fun g hg => ?_), fun H1 hs1 => ?_⟩⟩
  · rcases List.mem_cons.mp hg with e | e
    · rw [e]; exact ⟨xp, ha.at (same_kept (same_new hp))⟩
    · rw [List.mem_singleton.mp e]; exact ⟨xq, hb.at (same_kept (same_new hp))⟩
  have s1 := same_trans (same_new (o := .lst [.ref a, .ref b]) hp) hs1
  refine ⟨_, rfl, _, rfl, f, _, dx, [], rfl, s1 _ _ hf, T.fc_Either.cl, T.fc_Either.n_left, by decide, ?_⟩
  refine ⟨_, rfl, _, rfl, f, _, dx, _, rfl, upd_same, T.fc_Either.cl, T.fc_Either.n_right, (by show 1 < 1000; decide), ?_⟩
  generalize hG : upd (upd H1 f (.ins T.C_Either dx (putF "left" (.ref a) []))) f (.ins T.C_Either dx (putF "right" (.ref b) (putF "left" (.ref a) []))) = G
  have kG : ∀ x u, x ≠ f → H1 x = some u → G x = some u := fun x u hx e => by rw [← hG, upd_ne hx, upd_ne hx]; exact e
  have hf2 : G f = some (.ins T.C_Either dx [("left", .ref a), ("right", .ref b)]) := by rw [← hG, upd_same]; rfl
  have haG : PlainAt T G a xp := (ha.at (same_kept s1)).but (f := f) kG (s1 _ _ hf) (fun _ _ e => by injection e with _ _ e; rw [← e]; rfl) (fun _ e => by cases e)
  have hbG : PlainAt T G b xq := (hb.at (same_kept s1)).but (f := f) kG (s1 _ _ hf) (fun _ _ e => by injection e with _ _ e; rw [← e]; rfl) (fun _ e => by cases e)
  obtain ⟨da, fa, a1, a2, _⟩ := haG.hd
  refine ⟨spDedup, cal_dedup T (hr.mono (by decide)), ?_⟩
  refine ⟨_, rfl, a, _, da, fa, spForks T, rfl, a1, a2, mth_forks T (hr.mono (by decide)) ⟨ka, fca⟩, a, rfl, _, _, _, _, _, ⟨ka, fca⟩, haG, fun p1 G1 hp1 hsA hlA => ?_⟩
  have hbG1 := hbG.at (same_kept hsA)
  obtain ⟨db, fb, b1, b2, _⟩ := hbG1.hd
  refine ⟨_, rfl, b, _, db, fb, spForks T, rfl, b1, b2, mth_forks T (hr.mono (by decide)) ⟨kb, fcb⟩, b, rfl, _, _, _, _, _, ⟨kb, fcb⟩, hbG1, fun p2 G2 hp2 hsB hlB => ?_⟩
  have l1 := dedup_len xp.names
  have l2 := dedup_len xq.names
  have hlA2 := hsB _ _ hlA
  refine ⟨p1, p2, _, _, rfl, rfl, hlA2, hlB, by rw [List.length_map, List.length_map]; exact szt (by omega), fun p3 hp3 => ?_⟩
  have e0 : ((dedup xp.names).map V.str ++ (dedup xq.names).map V.str) = (dedup xp.names ++ dedup xq.names).map V.str := List.map_append.symm
  rw [e0] at *
  refine ⟨p3, _, rfl, upd_same, by rw [List.length_append]; omega, fun p4 G4 hp4 hs4 hl4 => ?_⟩
  have sG := same_trans hsA (same_trans hsB (same_trans (same_new (o := .lst ((dedup xp.names ++ dedup xq.names).map V.str)) hp3) hs4))
  refine ⟨f, _, dx, _, T.i_Fact, 1, spFactInit, rfl, sG _ _ hf2, T.sm_Either, w_Fact_init T, hr.mono (by decide), ?_⟩
  have haG4 := haG.at (same_kept sG)
  have hbG4 := hbG.at (same_kept sG)
  obtain ⟨da4, fa4, a14, _, _⟩ := haG4.hd
  obtain ⟨db4, fb4, b14, _, _⟩ := hbG4.hd
  have e1 : Str.length "either (" = 8 := by decide
  have e2 : Str.length ") (" = 3 := by decide
  have e3 : Str.length ")" = 1 := by decide
  refine ⟨_, rfl, a, _, da4, fa4, T.a_Fact_str, 1, spFStr T, rfl, a14, fca.str.spc, w_Fact_str T, hr.mono (by decide), a, rfl, _, _, _, _, _, ⟨ka, fca⟩, haG4, (by decide), fun ta hta => ⟨ta, rfl, ?_⟩⟩
  refine ⟨_, _, rfl, rfl, szt (by omega), _, _, rfl, rfl, szt (by rw [slen]; omega), ?_⟩
  refine ⟨_, rfl, b, _, db4, fb4, T.a_Fact_str, 1, spFStr T, rfl, b14, fcb.str.spc, w_Fact_str T, hr.mono (by decide), b, rfl, _, _, _, _, _, ⟨kb, fcb⟩, hbG4, (by decide), fun tb htb => ⟨tb, rfl, ?_⟩⟩
  refine ⟨_, _, rfl, rfl, szt (by simp only [slen]; omega), _, _, rfl, rfl, szt (by simp only [slen]; omega), ?_⟩
  have hp4f : p4 ≠ f := fun z => by rw [z, same_new hp3 _ _ (hsB _ _ (hsA _ _ hf2))] at hp4; cases hp4
  refine ⟨_, rfl, _, rfl, f, _, p4, 2, rfl, _, dx, _, sG _ _ hf2, T.fc_Either.cl, T.fc_Either.n_word_text, T.fc_Either.n_named, T.fc_Either.n_depth, (by show 2 < 100; decide), fun H5 k5 h5 => q _ (fun x u hx e => k5 x u hx (sG _ _ (kG _ _ hx (s1 _ _ e)))) ?_⟩
  refine ⟨dx, _, p4, _, h5, rfl, by simp only [slen, Fx.m]; omega, rfl, k5 _ _ hp4f hl4, rfl, rfl, rfl, rfl, dedup_ok ⟨?_, ?_, ?_⟩, a, b, rfl, ?_, rfl, ?_⟩
  · exact fun z => dedup_ne ha.ok.1 (List.append_eq_nil_iff.mp z).1
  · rw [List.length_append]; omega
  · intro z hz
    rcases List.mem_append.mp hz with h | h
    · exact ha.ok.2.2 z (dedup_mem.mp h)
    · exact hb.ok.2.2 z (dedup_mem.mp h)
  · exact haG4.but (f := f) k5 (sG _ _ hf2) (fun _ _ e => by injection e with _ _ e; rw [← e]; rfl) (fun _ e => by cases e)
  · exact hbG4.but (f := f) k5 (sG _ _ hf2) (fun _ _ e => by injection e with _ _ e; rw [← e]; rfl) (fun _ e => by cases e)
end
end Fb
set_option maxHeartbeats 4000000
/-! Forkbeats: compounds kept; facts called; ~, &, |. -/
namespace Fb
open PySem PySem.Spec PyProof.Rows L2
theorem mem_of_some {l : List (Str × Int)} {z : Str} (h : (l.lookup z).isSome = true) : z ∈ l.map (·.1) := by
  by_cases e : z ∈ l.map (·.1)
  · exact e
  · rw [lookup_none e] at h; cases h
section
variable {P : Program} {w : World} {K : PySem.W.Frag} {mg : Str → Option Value} {base : Heap}
def spKept (T : Txt P K mg) (x : Fx) : SpN := fun vs H Q => ∃ f t, vs = [.ref f, .ref t] ∧ ∃ l, FactAt T H f x ∧ TunAt H T.C_Tuning t l ∧ (∀ z ∈ x.names, (l.lookup z).isSome = true) ∧ ∀ H', Same H H' → Q (.bl (x.ev (lvOf l))) H'
theorem sc_kept_Not : FnScope ["self", "tuning"] ["self", "tuning"] (defScope (inC 37 1)) := ⟨rfl, rfl, rfl, by decide +kernel, rfl, by decide +kernel, by decide +kernel⟩
theorem w_kept_Not (T : Txt P K mg) {xp : Px} : FnN P w K mg base (4 + 1) (T.k_Not) (spKept T (.not xp)) := by
  refine fn_mk (k := 4) (T.fk_Not) sc_kept_Not (fun _ _ _ _ _ _ us hl => match us, hl with | [_, _], _ => rfl) (fun vs H Q h => by obtain ⟨f, t, rfl, h⟩ := h; rfl) fun cdv A outer s H vs Q hr h => ?_
  have hu := hu_of hr
  have sc := sc_kept_Not
  obtain ⟨f, t, rfl, h⟩ := h
  refine ⟨_, (pss_one (ps_ret (pe_not (pe_met (pe_fld (pv 0) rfl) (pa_cons (pv 1) pa_nil))))), ?_⟩
  obtain ⟨l, ⟨dx, fs, ln, tx, h1, _, _, _, _, _, _, _, _, _, a, h2, ha⟩, ht, hz, q⟩ := h
  obtain ⟨da, fa, a1, _, a3⟩ := ha.hd
  refine ⟨_, rfl, f, _, dx, fs, _, rfl, h1, T.fc_Not.cl, T.fc_Not.n_left, h2, a, _, da, fa, _, rfl, a1, a3, mth_keptP T hr xp, _, rfl, a, t, rfl, l, ha, ht, fun z hm => hz z (dedup_mem.mpr hm), fun H1 hs => ⟨_, rfl, q _ hs⟩⟩
theorem sc_kept_Both : FnScope ["self", "tuning"] ["self", "tuning"] (defScope (inC 38 1)) := ⟨rfl, rfl, rfl, by decide +kernel, rfl, by decide +kernel, by decide +kernel⟩
theorem w_kept_Both (T : Txt P K mg) {xp xq : Px} : FnN P w K mg base (4 + 1) (T.k_Both) (spKept T (.both xp xq)) := by
  refine fn_mk (k := 4) (T.fk_Both) sc_kept_Both (fun _ _ _ _ _ _ us hl => match us, hl with | [_, _], _ => rfl) (fun vs H Q h => by obtain ⟨f, t, rfl, h⟩ := h; rfl) fun cdv A outer s H vs Q hr h => ?_
  have hu := hu_of hr
  have sc := sc_kept_Both
  obtain ⟨f, t, rfl, h⟩ := h
  refine ⟨_, (pss_one (ps_ret (pe_and (pe_met (pe_fld (pv 0) rfl) (pa_cons (pv 1) pa_nil)) (pe_one (pe_met (pe_fld (pv 0) rfl) (pa_cons (pv 1) pa_nil)))))), ?_⟩
  obtain ⟨l, ⟨dx, fs, ln, tx, h1, _, _, _, _, _, _, _, _, _, a, b, h2, ha, h3, hb⟩, ht, hz, q⟩ := h
  obtain ⟨da, fa, a1, _, a3⟩ := ha.hd
  refine ⟨_, rfl, f, _, dx, fs, _, rfl, h1, T.fc_Both.cl, T.fc_Both.n_left, h2, a, _, da, fa, _, rfl, a1, a3, mth_keptP T hr xp, _, rfl, a, t, rfl, l, ha, ht, fun z hm => hz z (dedup_mem.mpr (List.mem_append_left _ (dedup_mem.mpr hm))), fun H1 hs => ⟨_, rfl, ?_⟩⟩
  cases e : xp.ev (lvOf l) with
  | false =>
    have e2 : (Fx.both xp xq).ev (lvOf l) = false := by simp [Fx.ev, e]
    rw [e2] at q
    exact iteF (q _ hs)
  | true =>
    have e2 : (Fx.both xp xq).ev (lvOf l) = xq.ev (lvOf l) := by simp [Fx.ev, e]
    rw [e2] at q
    obtain ⟨db, fb, b1, _, b3⟩ := (hb.at (same_kept hs)).hd
    refine iteT ⟨_, rfl, f, _, dx, fs, _, rfl, hs _ _ h1, T.fc_Both.cl, T.fc_Both.n_right, h3, b, _, db, fb, _, rfl, b1, b3, mth_keptP T hr xq, _, rfl, b, t, rfl, l, hb.at (same_kept hs), ht.same hs, fun z hm => hz z (dedup_mem.mpr (List.mem_append_right _ (dedup_mem.mpr hm))), fun H2 hs2 => q _ (same_trans hs hs2)⟩
theorem sc_kept_Either : FnScope ["self", "tuning"] ["self", "tuning"] (defScope (inC 39 1)) := ⟨rfl, rfl, rfl, by decide +kernel, rfl, by decide +kernel, by decide +kernel⟩
theorem w_kept_Either (T : Txt P K mg) {xp xq : Px} : FnN P w K mg base (4 + 1) (T.k_Either) (spKept T (.either xp xq)) := by
  refine fn_mk (k := 4) (T.fk_Either) sc_kept_Either (fun _ _ _ _ _ _ us hl => match us, hl with | [_, _], _ => rfl) (fun vs H Q h => by obtain ⟨f, t, rfl, h⟩ := h; rfl) fun cdv A outer s H vs Q hr h => ?_
  have hu := hu_of hr
  have sc := sc_kept_Either
  obtain ⟨f, t, rfl, h⟩ := h
  refine ⟨_, (pss_one (ps_ret (pe_or (pe_met (pe_fld (pv 0) rfl) (pa_cons (pv 1) pa_nil)) (pe_one (pe_met (pe_fld (pv 0) rfl) (pa_cons (pv 1) pa_nil)))))), ?_⟩
  obtain ⟨l, ⟨dx, fs, ln, tx, h1, _, _, _, _, _, _, _, _, _, a, b, h2, ha, h3, hb⟩, ht, hz, q⟩ := h
  obtain ⟨da, fa, a1, _, a3⟩ := ha.hd
  refine ⟨_, rfl, f, _, dx, fs, _, rfl, h1, T.fc_Either.cl, T.fc_Either.n_left, h2, a, _, da, fa, _, rfl, a1, a3, mth_keptP T hr xp, _, rfl, a, t, rfl, l, ha, ht, fun z hm => hz z (dedup_mem.mpr (List.mem_append_left _ (dedup_mem.mpr hm))), fun H1 hs => ⟨_, rfl, ?_⟩⟩
  cases e : xp.ev (lvOf l) with
  | true =>
    have e2 : (Fx.either xp xq).ev (lvOf l) = true := by simp [Fx.ev, e]
    rw [e2] at q
    exact iteT (q _ hs)
  | false =>
    have e2 : (Fx.either xp xq).ev (lvOf l) = xq.ev (lvOf l) := by simp [Fx.ev, e]
    rw [e2] at q
    obtain ⟨db, fb, b1, _, b3⟩ := (hb.at (same_kept hs)).hd
    refine iteF ⟨_, rfl, f, _, dx, fs, _, rfl, hs _ _ h1, T.fc_Either.cl, T.fc_Either.n_right, h3, b, _, db, fb, _, rfl, b1, b3, mth_keptP T hr xq, _, rfl, b, t, rfl, l, hb.at (same_kept hs), ht.same hs, fun z hm => hz z (dedup_mem.mpr (List.mem_append_right _ (dedup_mem.mpr hm))), fun H2 hs2 => q _ (same_trans hs hs2)⟩
theorem spKept_plain {T : Txt P K mg} {p : Px} {vs : List V} {H : Hp} {Q : VK} (h : spKept T (.plain p) vs H Q) : spKeptP T p vs H Q := h
theorem mth_kept (T : Txt P K mg) {A : Around} (hr : Room 5 A) : ∀ x : Fx, Mth ⟨P, w, K, mg, base, A⟩ (x.cls T) "kept" (spKept T x)
  | .plain p => by
    obtain ⟨h1, g, k, h2, h3, h4⟩ := mth_keptP (w := w) (base := base) T (hr.mono (by decide : 4 ≤ 5)) p
    exact ⟨h1, g, k, h2, h3, h4⟩
  | .not p => ⟨T.fc_Not.cl, _, 5, T.fc_Not.kept, w_kept_Not T, hr⟩
  | .both p q => ⟨T.fc_Both.cl, _, 5, T.fc_Both.kept, w_kept_Both T, hr⟩
  | .either p q => ⟨T.fc_Either.cl, _, 5, T.fc_Either.kept, w_kept_Either T, hr⟩
theorem FactAt.hd {T : Txt P K mg} {H : Hp} {f : Addr} {x : Fx} (h : FactAt T H f x) : ∃ dx fs, H f = some (.ins (x.cls T) dx fs) ∧ fs.lookup ("forks" : Str) = none ∧ fs.lookup ("kept" : Str) = none := by
  obtain ⟨dx, fs, _, _, h1, _, _, _, _, _, h7, h8, _⟩ := h
  exact ⟨dx, fs, h1, h7, h8⟩
theorem FactAt.ok {T : Txt P K mg} {H : Hp} {f : Addr} {x : Fx} (h : FactAt T H f x) : x.names ≠ [] ∧ x.names.length ≤ 100 ∧ ∀ z ∈ x.names, NameOk z := by
  obtain ⟨_, _, _, _, _, _, _, _, _, _, _, _, _, hn, _⟩ := h
  exact hn
theorem sc_Fact_call : FnScope ["self", "tuning", "name"] ["self", "tuning"] (defScope (inC 28 5)) := ⟨rfl, rfl, rfl, by decide +kernel, rfl, by decide +kernel, by decide +kernel⟩
theorem w_Fact_call (T : Txt P K mg) {x : Fx} : FnN P w K mg base (5 + 1) (T.a_Fact_call) (spKept T x) := by
  refine fn_mk (k := 5) (T.f_Fact_call) sc_Fact_call (fun _ _ _ _ _ _ us hl => match us, hl with | [_, _], _ => rfl) (fun vs H Q h => by obtain ⟨f, t, rfl, h⟩ := h; rfl) fun cdv A outer s H vs Q hr h => ?_
  have hu := hu_of hr
  have sc := sc_Fact_call
  obtain ⟨f, t, rfl, h⟩ := h
  refine ⟨_, (pss_cons (ps_for PassesOwn.never rfl (pi_list (pe_met0 (pv 0))) (pg_name (i := 2) sc.nd rfl (.inl rfl))
    (pss_one (ps_if (pt_cmpR op_ninO (pv 2) (pv 1) (by rfl))
    (pss_one ps_never)
    pss_nil)))
    (pss_one (ps_ret (pe_met (pv 0) (pa_cons (pv 1) pa_nil))))), ?_⟩
  obtain ⟨l, hf, ht, hz, q⟩ := h
  obtain ⟨df, ff, f1, f2, f3⟩ := hf.hd
  have hfc := x.fact T
  refine ⟨_, rfl, f, _, df, ff, _, rfl, f1, f2, mth_forks T (hr.mono (by decide)) hfc, f, rfl, _, _, _, _, _, hfc, hf, fun p H1 hp hs1 hl => ⟨p, rfl, ⟨_, SqL.of hl⟩, ?_⟩⟩
  have ht1 := ht.same hs1
  refine for_it (walk_list (xs := (dedup x.names).map V.str)) (fun i σ H' => Same H1 H' ∧ ∃ l, σ = [some (.ref f), some (.ref t), l]) ⟨same_refl, _, rfl⟩ (fun _ _ _ _ h => SqL.of (h.1 _ _ hl)) ?_ ?_
  · rintro i y σ H2 H3 hi ⟨hs2, m, rfl⟩ ⟨rfl, hy⟩
    obtain ⟨z, ez, rfl⟩ := map_get hy
    obtain ⟨dt, ft, t1, _⟩ := (ht1.same hs2).ins
    have hzl := mem_of_some (hz z (dedup_mem.mp (List.mem_of_getElem? ez)))
    refine ⟨_, rfl, _, rfl, t, _, dt, ft, _, 1, spContains T.C_Tuning, rfl, t1, T.s_Tuning_contains.spc, w_Tuning_contains T, hr.mono (by decide), t, z, rfl, l, ht1.same hs2, fun H4 hs4 => ⟨_, rfl, _, rfl, ?_⟩⟩
    show if (!decide _) = true then _ else _
    exact ifnN hzl ⟨same_trans hs2 hs4, _, rfl⟩
  · rintro σ H2 ⟨hs2, m, rfl⟩
    have hs := same_trans hs1 hs2
    obtain ⟨df2, ff2, g1, g2, g3⟩ := (hf.at (same_kept hs)).hd
    exact ⟨_, rfl, f, _, df2, ff2, _, rfl, g1, g3, mth_kept T hr x, _, rfl, f, t, rfl, l, hf.at (same_kept hs), ht.same hs, hz, fun H3 hs3 => q _ (same_trans hs hs3)⟩
theorem new_ins {H : Hp} {y dx : Addr} {o1 o2 : HO} (hy : H y = none) (hd : H dx = none) (hne : dx ≠ y) : Same H (upd (upd H dx o1) y o2) := same_trans (same_new hd) (same_new (by rw [upd_ne hne.symm]; exact hy))
def spInv (T : Txt P K mg) : SpN := fun vs H Q => ∃ f, vs = [.ref f] ∧ ∃ p, PlainAt T H f p ∧ ∀ y H', H y = none → Same H H' → FactAt T H' y (.not p) → Q (.ref y) H'
theorem out_same {H : Hp} {y dx : Addr} {o1 o2 : HO} {H' : Hp} (hy : H y = none) (hd : H dx = none) (hne : dx ≠ y) (k : ∀ x u, x ≠ y → upd (upd H dx o1) y o2 x = some u → H' x = some u) : Same H H' := fun x u e =>
  k x u (ne_of_none e hy) (new_ins hy hd hne x u e)
theorem sc_Fact_invert : FnScope ["self"] ["self"] (defScope (inC 28 6)) := ⟨rfl, rfl, rfl, by decide +kernel, rfl, by decide +kernel, by decide +kernel⟩
theorem w_Fact_invert (T : Txt P K mg) : FnN P w K mg base (5 + 1) (T.a_Fact_invert) (spInv T) := by
  refine fn_mk (k := 5) (T.f_Fact_invert) sc_Fact_invert (fun _ _ _ _ _ _ us hl => match us, hl with | [_], _ => rfl) (fun vs H Q h => by obtain ⟨f, rfl, h⟩ := h; rfl) fun cdv A outer s H vs Q hr h => ?_
  have hu := hu_of hr
  have sc := sc_Fact_invert
  obtain ⟨f, rfl, h⟩ := h
  refine ⟨_, (pss_one (ps_ret (pe_mkr (by rfl) (pa_cons (pv 0) pa_nil)))), ?_⟩
  obtain ⟨p, hf, q⟩ := h
  refine ⟨T.C_Not, spNotI T p, ⟨T.g_Not, _, 4, T.mk_Not, w_Not_init T, hr⟩, _, rfl, fun y dx hy hdx hne => ⟨y, f, rfl, dx, upd_same, hf.at (same_kept (new_ins hy hdx hne)), fun H' k hfa => ⟨rfl, q y H' hy (out_same hy hdx hne k) hfa⟩⟩⟩
def spBin (T : Txt P K mg) (c : Px → Px → Fx) : SpN := fun vs H Q => ∃ f g, vs = [.ref f, .ref g] ∧ ∃ p r, PlainAt T H f p ∧ PlainAt T H g r ∧ p.names.length + r.names.length ≤ 100 ∧ ∀ y H', H y = none → Same H H' → FactAt T H' y (c p r) → Q (.ref y) H'
theorem sc_Fact_and : FnScope ["self", "other"] ["self", "other"] (defScope (inC 28 7)) := ⟨rfl, rfl, rfl, by decide +kernel, rfl, by decide +kernel, by decide +kernel⟩
theorem w_Fact_and (T : Txt P K mg) : FnN P w K mg base (5 + 1) (T.a_Fact_and) (spBin T .both) := by
  refine fn_mk (k := 5) (T.f_Fact_and) sc_Fact_and (fun _ _ _ _ _ _ us hl => match us, hl with | [_, _], _ => rfl) (fun vs H Q h => by obtain ⟨f, g, rfl, h⟩ := h; rfl) fun cdv A outer s H vs Q hr h => ?_
  have hu := hu_of hr
  have sc := sc_Fact_and
  obtain ⟨f, g, rfl, h⟩ := h
  refine ⟨_, (pss_one (ps_ret (pe_mkr (by rfl) (pa_cons (pv 0) (pa_cons (pv 1) pa_nil))))), ?_⟩
  obtain ⟨p, r, hf, hg, hl, q⟩ := h
  refine ⟨T.C_Both, spTwoI T T.C_Both (.both p r) p r, ⟨T.g_Both, _, 4, T.mk_Both, w_Both_init T, hr⟩, _, rfl, _, rfl, fun y dx hy hdx hne => ⟨y, f, g, rfl, dx, upd_same, hf.at (same_kept (new_ins hy hdx hne)), hg.at (same_kept (new_ins hy hdx hne)), hl, fun H' k hfa => ⟨rfl, q y H' hy (out_same hy hdx hne k) hfa⟩⟩⟩
theorem sc_Fact_or : FnScope ["self", "other"] ["self", "other"] (defScope (inC 28 8)) := ⟨rfl, rfl, rfl, by decide +kernel, rfl, by decide +kernel, by decide +kernel⟩
theorem w_Fact_or (T : Txt P K mg) : FnN P w K mg base (5 + 1) (T.a_Fact_or) (spBin T .either) := by
  refine fn_mk (k := 5) (T.f_Fact_or) sc_Fact_or (fun _ _ _ _ _ _ us hl => match us, hl with | [_, _], _ => rfl) (fun vs H Q h => by obtain ⟨f, g, rfl, h⟩ := h; rfl) fun cdv A outer s H vs Q hr h => ?_
  have hu := hu_of hr
  have sc := sc_Fact_or
  obtain ⟨f, g, rfl, h⟩ := h
  refine ⟨_, (pss_one (ps_ret (pe_mkr (by rfl) (pa_cons (pv 0) (pa_cons (pv 1) pa_nil))))), ?_⟩
  obtain ⟨p, r, hf, hg, hl, q⟩ := h
  refine ⟨T.C_Either, spTwoI T T.C_Either (.either p r) p r, ⟨T.g_Either, _, 4, T.mk_Either, w_Either_init T, hr⟩, _, rfl, _, rfl, fun y dx hy hdx hne => ⟨y, f, g, rfl, dx, upd_same, hf.at (same_kept (new_ins hy hdx hne)), hg.at (same_kept (new_ins hy hdx hne)), hl, fun H' k hfa => ⟨rfl, q y H' hy (out_same hy hdx hne k) hfa⟩⟩⟩
end
end Fb
set_option maxHeartbeats 4000000
/-! Forkbeats: the bench. -/
namespace Fb
open PySem PySem.Spec PyProof.Rows L2
section
variable {P : Program} {w : World} {K : PySem.W.Frag} {mg : Str → Option Value} {base : Heap}
/-- a def with defaults, all parameters written -/
theorem fn_mkD {x qual : Str} {st : Stmt} {f : Addr} {dvs : List V} {N ps : List Str} {k : Nat} {sp : SpN} (hd : dvs ≠ []) (F : ∃ fd, FunD K x qual (defArgs st) (defBody st) (defScope st) dvs [] f fd) (S : FnScope N ps (defScope st))
    (hb : ∀ (T : Addr) (kV doc pm : Value) (an : Option Addr) (cdv ct : Value) (us its : List Value), us.length = ps.length → its.length = dvs.length →
      ∃ k, bindArgs (PySem.W.fnOf x qual (defArgs st) (defBody st) (defScope st) (.ref T) kV doc pm an cdv ct) ⟨us, []⟩ = seqItems? (.ref T) >>= k ∧ k (some its.toArray) = pure (ps.zip us))
    (len : ∀ vs H Q, sp vs H Q → vs.length = ps.length)
    (hbody : ∀ (cdv : Value) (A : Around) (outer : List Env) (s : Shared) (H : Hp) (vs : List V) (Q : VK), Room k (A.deeper (envOfC qual (defScope st) s.heap.objs.size f cdv)) → sp vs H Q →
      ∃ t, PSs (cxOf CX0 P w K mg base N qual (defScope st) f cdv A outer s H E0).nox (defBody st) t ∧ t { nx := fun _ H' => Q .non H', rt := Q } (start N vs) H) : FnN P w K mg base (k + 1) f sp := by
  obtain ⟨fd, F⟩ := F
  intro A outer s H us vs Q E hr e0 r hs
  have hl : us.length = ps.length := by rw [← r.length]; exact len _ _ _ hs
  have G : FnOk P w K mg base CX0 (k + 1) f fd ps (fun vs H Q E => sp vs H Q ∧ E = E0) :=
    F.ok S (fun vs H Q E h => len vs H Q h.1) fun cdv A outer s H vs Q E hr h => by
      obtain ⟨h, rfl⟩ := h
      obtain ⟨t, ht, hq⟩ := hbody cdv A outer s H vs Q hr h
      exact ⟨t, ht.nox, hq⟩
  obtain ⟨ds, rd, hB⟩ := F.binds1 (ps := ps) ps.length dvs.length hd (by omega) (fun T kV doc pm an cdv ct us its h1 h2 => by
    obtain ⟨k, e1, e2⟩ := hb T kV doc pm an cdv ct us its h1 h2
    refine ⟨k, e1, ?_⟩
    rw [e2, ← h2, List.drop_length, List.append_nil])
  rw [List.drop_length] at rd
  cases rd
  have KX : K.In s.heap := e0.mod.kin.keeps fun b o e => (e0.bs b o e).1
  have hbt := hB s us KX (by rw [List.append_nil]; exact hl)
  rw [List.append_nil] at hbt
  refine codeAny_mono (G.run A outer s H ⟨us, []⟩ us vs Q E0 hr e0 hbt r ⟨hs, rfl⟩) fun r s' hq => ?_
  cases r with
  | error e => exact hq.elim
  | ok fl => exact hq
/-- a def with a star parameter -/
theorem fn_mkV {x qual pv : Str} {st : Stmt} {f : Addr} {N ps : List Str} {k : Nat} {sp : SpN} (F : FunP K x qual st f) (S : FnScope N (ps ++ [pv]) (defScope st))
    (hb : ∀ (kV doc pm : Value) (an : Option Addr) (cdv ct : Value) (us rest : List Value), us.length = ps.length → bindArgs (PySem.W.fnOf x qual (defArgs st) (defBody st) (defScope st) .none kV doc pm an cdv ct) ⟨us ++ rest, []⟩ = (newTuple rest >>= fun t => pure (ps.zip us ++ [(pv, t)])))
    (hbody : ∀ (cdv : Value) (A : Around) (outer : List Env) (s : Shared) (H : Hp) (vs : List V) (Q : VK), Room k (A.deeper (envOfC qual (defScope st) s.heap.objs.size f cdv)) → sp vs H Q →
      ∃ t, PSs (cxOf CX0 P w K mg base N qual (defScope st) f cdv A outer s H E0).nox (defBody st) t ∧ t { nx := fun _ H' => Q .non H', rt := Q } (start N vs) H) :
    FnN P w K mg base (k + 1) f (fun vs H Q => ∃ ws rest, vs = ws ++ rest ∧ ws.length = ps.length ∧ rest.length ≤ sizeLine ∧ ∀ p, H p = none → sp (ws ++ [V.ref p]) (upd H p (.tup rest)) Q) := by
  obtain ⟨fd, F⟩ := F
  obtain ⟨oc, od, dV, kV, doc, pm, an, cdv, ct, osl, rfl, lk, hcd, hD, _⟩ := F.ex
  rcases hD with ⟨_, rfl⟩ | ⟨e, _⟩
  · intro A outer s H us vs Q E hr e0 r hs
    have G := StX.fn_star (P := P) (w := w) (mg := mg) (base := base) (CX := CX0) (k := k) (sp := fun vs H Q E => sp vs H Q ∧ E = E0) (pv := pv) lk hcd S (fun _ _ _ _ _ _ _ _ _ _ _ z => z) (hb kV doc pm an cdv ct) fun A outer s H vs Q E hr h => by
      obtain ⟨h, rfl⟩ := h
      obtain ⟨t, ht, hq⟩ := hbody cdv A outer s H vs Q hr h
      exact ⟨t, ht.nox, hq⟩
    obtain ⟨ws, rest, h1, h2, h3, h4⟩ := hs
    refine codeAny_mono (G A outer s H us vs Q E0 hr e0 r ⟨ws, rest, h1, h2, h3, fun p hp => ⟨h4 p hp, rfl⟩⟩) fun r s' hq => ?_
    cases r with
    | error e => exact hq.elim
    | ok fl => exact hq
  · exact absurd rfl e
theorem catA {H : Hp} {a b : Addr} {xs ys : List V} {Q : VK} (ha : SqT K H a xs) (hb : SqT K H b ys) (ra : H a = some (.tup xs)) (rb : H b = some (.tup ys)) (hz : xs.length + ys.length ≤ 100000) (q : ∀ p H', Same H H' → H' p = some (.tup (xs ++ ys)) → Q (.ref p) H') : rCatA K (.ref a) (.ref b) H Q := by
  refine ⟨a, b, xs, ys, rfl, rfl, ha, hb, sz hz, fun e => ?_, fun _ e => ?_, fun _ _ p hp => q p _ (same_new hp) upd_same⟩
  · subst e; exact q b H same_refl rb
  · subst e; refine q a H same_refl ?_; rw [List.append_nil]; exact ra
/-- all but b stands -/
abbrev But (b : Addr) (H H' : Hp) : Prop := ∀ x u, x ≠ b → H x = some u → H' x = some u
theorem But.same {b : Addr} {H H1 H2 : Hp} (h : But b H H1) (k : Same H1 H2) : But b H H2 := fun x u hx e => k _ _ (h x u hx e)
theorem But.trans {b : Addr} {H H1 H2 : Hp} (h : But b H H1) (k : But b H1 H2) : But b H H2 := fun x u hx e => k x u hx (h x u hx e)
theorem same_but {b : Addr} {H H' : Hp} (h : Same H H') : But b H H' := fun x u _ e => h x u e
theorem But.put {b : Addr} {H H1 : Hp} {o : HO} (h : But b H H1) : But b H (upd H1 b o) := fun x u hx e => by rw [upd_ne hx]; exact h x u hx e
/-- strikes, as the text holds them -/
abbrev Sk := Str × Str × Int
abbrev TripAt (H : Hp) (r : Addr) (q : Sk) : Prop := H r = some (.tup [.str q.1, .str q.2.1, .int q.2.2])
structure St where
  fk : List Str
  sk : List Sk
  fc : List (Addr × Fx)
def StAt (T : Txt P K mg) (H : Hp) (S : Addr) (st : St) : Prop := ∃ a b c rs, H S = some (.tup [.ref a, .ref b, .ref c, .int 0]) ∧ H a = some (.tup (st.fk.map V.str)) ∧ H b = some (.tup (rs.map V.ref)) ∧ Paired (TripAt H) rs st.sk ∧ H c = some (.tup (st.fc.map fun q => V.ref q.1)) ∧ ∀ q ∈ st.fc, FactAt T H q.1 q.2
theorem StAt.at {T : Txt P K mg} {H H' : Hp} {S : Addr} {st : St} (h : StAt T H S st) (k : Kept H H') : StAt T H' S st := by
  obtain ⟨a, b, c, rs, h1, h2, h3, h4, h5, h6⟩ := h
  exact ⟨a, b, c, rs, k _ _ trivial h1, k _ _ trivial h2, k _ _ trivial h3, paired_imp (fun _ q e => k _ (.tup [.str q.1, .str q.2.1, .int q.2.2]) trivial e) h4, k _ _ trivial h5, fun q hq => (h6 q hq).at k⟩
/-- a bench: its state, its past, what is undone -/
def BnAt (T : Txt P K mg) (H : Hp) (b S : Addr) (ps fs : List V) : Prop := ∃ dx Pp Fu, H b = some (.ins T.C_Bench dx [("state", .ref S), ("past", .ref Pp), ("future", .ref Fu)]) ∧ H Pp = some (.tup ps) ∧ H Fu = some (.tup fs)
theorem BnAt.but {T : Txt P K mg} {H : Hp} {b S : Addr} {ps fs : List V} {H' : Hp} (h : BnAt T H b S ps fs) (k : But b H H') : Kept H H' := fun x u s e => by
  obtain ⟨dx, Pp, Fu, h1, _⟩ := h
  refine k x u (fun z => ?_) e
  rw [z, h1] at e
  cases e
  simp [Stay, List.lookup] at s
theorem BnAt.same {T : Txt P K mg} {H : Hp} {b S : Addr} {ps fs : List V} {H' : Hp} (h : BnAt T H b S ps fs) (k : Same H H') : BnAt T H' b S ps fs := by
  obtain ⟨dx, Pp, Fu, h1, h2, h3⟩ := h
  exact ⟨dx, Pp, Fu, k _ _ h1, k _ _ h2, k _ _ h3⟩
def spBenchInit (T : Txt P K mg) : SpN := fun vs H Q => ∃ b, vs = [.ref b, .int 0] ∧ ∃ dx, H b = some (.ins T.C_Bench dx []) ∧ ∀ S H', But b H H' → BnAt T H' b S [] [] → StAt T H' S ⟨[], [], []⟩ → Q .non H'
theorem sc_Bench_init : FnScope ["self", "limit"] ["self", "limit"] (defScope (inC 42 4)) := ⟨rfl, rfl, rfl, by decide +kernel, rfl, by decide +kernel, by decide +kernel⟩
theorem w_Bench_init (T : Txt P K mg) : FnN P w K mg base (1 + 1) (T.i_Bench) (spBenchInit T) := by
  refine fn_mkD (k := 1) (by simp) (T.f_Bench_init) sc_Bench_init (fun _ _ _ _ _ _ _ us its hl hl2 => match us, hl, its, hl2 with | [_, _], _, [_], _ => ⟨_, rfl, rfl⟩) (fun vs H Q h => by obtain ⟨b, rfl, h⟩ := h; rfl) fun cdv A outer s H vs Q hr h => ?_
  have hu := hu_of hr
  have sc := sc_Bench_init
  obtain ⟨b, rfl, h⟩ := h
  refine ⟨_, (pss_cons (ps_if (PW.pt (pw_or (pt_cmpR op_lt (pv 1) pe_int (nomark _)) (pw_or1 (pt_cmpR op_gt (pv 1) (ClX.pe_cval (pe_glob (v := .ref T.C_Bench) (by rfl) T.g_Bench rfl)) (nomark _)))))
    (pss_one ps_never)
    pss_nil)
    (pss_cons (ps_fld (pv 0) (pe_tup (pa_cons (pe_tup pa_nil) (pa_cons (pe_tup pa_nil) (pa_cons (pe_tup pa_nil) (pa_cons (pv 1) pa_nil))))) rfl)
    (pss_cons (ps_fld (pv 0) (pe_tup pa_nil) rfl)
    (pss_one (ps_fld (pv 0) (pe_tup pa_nil) rfl))))), ?_⟩
  obtain ⟨dx, hb, q⟩ := h
  refine ⟨_, rfl, _, _, rfl, rfl, _, rfl, ifN (by decide) ⟨_, rfl, T.C_Bench, T.mc_Bench, _, _, rfl, T.rd_Bench, T.c_Bench_MOST_LIMIT, _, _, rfl, rfl, _, rfl, ifN (by decide) ?_⟩⟩
  refine ⟨Nat.zero_le _, fun p1 h1 => ⟨Nat.zero_le _, fun p2 h2 => ⟨Nat.zero_le _, fun p3 h3 => ⟨_, rfl, (by show 4 ≤ sizeLine; decide), fun p4 h4 => ?_⟩⟩⟩⟩
  have s1 := same_trans (same_trans (same_trans (same_new (o := .tup []) h1) (same_new (o := .tup []) h2)) (same_new (o := .tup []) h3)) (same_new (o := .tup [.ref p1, .ref p2, .ref p3, .int 0]) h4)
  have e1 := same_trans (same_trans (same_new (o := .tup []) h2) (same_new (o := .tup []) h3)) (same_new (o := .tup [.ref p1, .ref p2, .ref p3, .int 0]) h4) p1 _ upd_same
  have e2 := same_trans (same_new (o := .tup []) h3) (same_new (o := .tup [.ref p1, .ref p2, .ref p3, .int 0]) h4) p2 _ upd_same
  have e3 := same_new (o := .tup [.ref p1, .ref p2, .ref p3, .int 0]) h4 p3 _ upd_same
  have hb4 := s1 _ _ hb
  refine ⟨_, rfl, b, _, dx, _, rfl, hb4, T.cl_Bench, T.n_Bench_state, by decide, ?_⟩
  refine ⟨Nat.zero_le _, fun p5 h5 => ⟨_, rfl, b, _, dx, _, rfl, same_new h5 _ _ upd_same, T.cl_Bench, T.n_Bench_past, (by show 1 < 1000; decide), ?_⟩⟩
  refine ⟨Nat.zero_le _, fun p6 h6 => ⟨_, rfl, b, _, dx, _, rfl, same_new h6 _ _ upd_same, T.cl_Bench, T.n_Bench_future, (by show 2 < 1000; decide), ?_⟩⟩
  have k1 : But b H _ := ((((same_but s1).put (o := .ins T.C_Bench dx (putF "state" (.ref p4) []))).same (same_new (o := .tup []) h5)).put (o := .ins T.C_Bench dx (putF "past" (.ref p5) (putF "state" (.ref p4) [])))).same (same_new (o := .tup []) h6)
  have k2 : But b _ _ := (((same_but (b := b) same_refl).put (o := .ins T.C_Bench dx (putF "state" (.ref p4) []))).same (same_new (o := .tup []) h5)).put (o := .ins T.C_Bench dx (putF "past" (.ref p5) (putF "state" (.ref p4) [])))
  have k3 := (k2.same (same_new (o := .tup []) h6)).put (o := .ins T.C_Bench dx (putF "future" (.ref p6) (putF "past" (.ref p5) (putF "state" (.ref p4) []))))
  have n1 : ∀ {x : Addr} {ys : List V}, upd (upd (upd (upd H p1 (.tup [])) p2 (.tup [])) p3 (.tup [])) p4 (.tup [.ref p1, .ref p2, .ref p3, .int 0]) x = some (.tup ys) → x ≠ b := fun {x ys} e => ne_of e hb4 (by intro z; cases z)
  have hp5 : p5 ≠ b := fun z => by rw [z, upd_same] at h5; cases h5
  have hp6 : p6 ≠ b := fun z => by rw [z, upd_same] at h6; cases h6
  refine q p4 _ (k1.put (o := .ins T.C_Bench dx (putF "future" (.ref p6) (putF "past" (.ref p5) (putF "state" (.ref p4) []))))) ⟨dx, p5, p6, upd_same, ?_, ?_⟩ ⟨p1, p2, p3, [], ?_, ?_, ?_, .nil, ?_, by simp⟩
  · rw [upd_ne hp5]; refine same_new h6 _ _ ?_; rw [upd_ne hp5, upd_same]
  · rw [upd_ne hp6, upd_same]
  · exact k3 _ _ (n1 upd_same) upd_same
  · exact k3 _ _ (n1 e1) e1
  · exact k3 _ _ (n1 e2) e2
  · exact k3 _ _ (n1 e3) e3
def spEnter (T : Txt P K mg) : SpN := fun vs H Q => ∃ b tx S', vs = [.ref b, .str tx, .ref S'] ∧ ∃ S ps fs, BnAt T H b S ps fs ∧ ps.length ≤ 1000 ∧ ∀ r H', But b H H' → BnAt T H' b S' (ps ++ [.ref r]) [] → H' r = some (.tup [.str tx, .ref S]) → Q .non H'
theorem sc_Bench_enter : FnScope ["self", "text", "state"] ["self", "text", "state"] (defScope (inC 42 6)) := ⟨rfl, rfl, rfl, by decide +kernel, rfl, by decide +kernel, by decide +kernel⟩
theorem w_Bench_enter (T : Txt P K mg) : FnN P w K mg base (1 + 1) (T.a_Bench_enter) (spEnter T) := by
  refine fn_mk (k := 1) (T.f_Bench_enter) sc_Bench_enter (fun _ _ _ _ _ _ us hl => match us, hl with | [_, _, _], _ => rfl) (fun vs H Q h => by obtain ⟨b, tx, S', rfl, h⟩ := h; rfl) fun cdv A outer s H vs Q hr h => ?_
  have hu := hu_of hr
  have sc := sc_Bench_enter
  obtain ⟨b, tx, S', rfl, h⟩ := h
  refine ⟨_, (pss_cons (ps_fld (pv 0) (pe_op op_catA (pe_fld (pv 0) rfl) (pe_tup (pa_cons (pe_tup (pa_cons (pv 1) (pa_cons (pe_fld (pv 0) rfl) pa_nil))) pa_nil))) rfl)
    (pss_cons (ps_fld (pv 0) (pv 2) rfl)
    (pss_one (ps_fld (pv 0) (pe_tup pa_nil) rfl)))), ?_⟩
  obtain ⟨S, ps, fs, ⟨dx, Pp, Fu, h1, h2, h3⟩, hz, q⟩ := h
  refine ⟨_, rfl, b, _, dx, _, _, rfl, h1, T.cl_Bench, T.n_Bench_past, rfl, _, rfl, _, rfl, b, _, dx, _, _, rfl, h1, T.cl_Bench, T.n_Bench_state, rfl, by show 2 ≤ sizeLine; decide, fun p1 hp1 => ⟨by show 1 ≤ sizeLine; decide, fun p2 hp2 => ?_⟩⟩
  have s1 : Same H (upd (upd H p1 (.tup [.str tx, .ref S])) p2 (.tup [.ref p1])) := same_trans (same_new hp1) (same_new hp2)
  have r1 := same_new hp2 (o := .tup [.ref p1]) p1 _ upd_same
  refine catA (SqT.of (s1 _ _ h2)) (SqT.of upd_same) (s1 _ _ h2) upd_same (by simp; omega) fun p3 H3 s3 hp3 => ?_
  have s13 := same_trans s1 s3
  have hb3 := s13 _ _ h1
  have r3 := s3 _ _ r1
  refine ⟨_, rfl, b, _, dx, _, rfl, hb3, T.cl_Bench, T.n_Bench_past, (by show 3 < 1000; decide), _, rfl, _, rfl, b, _, dx, _, rfl, upd_same, T.cl_Bench, T.n_Bench_state, (by show 3 < 1000; decide), ?_⟩
  refine ⟨Nat.zero_le _, fun p4 h4 => ⟨_, rfl, b, _, dx, _, rfl, same_new h4 _ _ upd_same, T.cl_Bench, T.n_Bench_future, (by show 3 < 1000; decide), ?_⟩⟩
  have hp4 : p4 ≠ b := fun z => by rw [z, upd_same] at h4; cases h4
  have k3 : But b H3 _ := (((((same_but (b := b) (same_refl (H := H3))).put (o := .ins T.C_Bench dx (putF "past" (.ref p3) [("state", .ref S), ("past", .ref Pp), ("future", .ref Fu)]))).put (o := .ins T.C_Bench dx (putF "state" (.ref S') (putF "past" (.ref p3) [("state", .ref S), ("past", .ref Pp), ("future", .ref Fu)])))).same (same_new (o := .tup []) h4)).put (o := .ins T.C_Bench dx (putF "future" (.ref p4) (putF "state" (.ref S') (putF "past" (.ref p3) [("state", .ref S), ("past", .ref Pp), ("future", .ref Fu)])))))
  have n1 : ∀ {x : Addr} {ys : List V}, H3 x = some (.tup ys) → x ≠ b := fun {x ys} e => ne_of e hb3 (by intro z; cases z)
  refine q p1 _ ((same_but s13).trans k3) ⟨dx, p3, p4, upd_same, k3 _ _ (n1 hp3) hp3, ?_⟩ (k3 _ _ (n1 r3) r3)
  rw [upd_ne hp4, upd_same]
/-- names of strikes lie on the bench -/
def spCheckFork (T : Txt P K mg) : SpN := fun vs H Q => ∃ b z, vs = [.ref b, .str z] ∧ ∃ S ps fs st, BnAt T H b S ps fs ∧ StAt T H S st ∧ z ∈ st.fk ∧ Q .non H
theorem sc_Bench_check_fork : FnScope ["self", "name"] ["self", "name"] (defScope (inC 42 11)) := ⟨rfl, rfl, rfl, by decide +kernel, rfl, by decide +kernel, by decide +kernel⟩
theorem w_Bench_check_fork (T : Txt P K mg) : FnN P w K mg base (1 + 1) (T.a_Bench_check_fork) (spCheckFork T) := by
  refine fn_mk (k := 1) (T.f_Bench_check_fork) sc_Bench_check_fork (fun _ _ _ _ _ _ us hl => match us, hl with | [_, _], _ => rfl) (fun vs H Q h => by obtain ⟨b, z, rfl, h⟩ := h; rfl) fun cdv A outer s H vs Q hr h => ?_
  have hu := hu_of hr
  have sc := sc_Bench_check_fork
  obtain ⟨b, z, rfl, h⟩ := h
  refine ⟨_, (pss_one (ps_if (pt_cmpR op_notIn_seq (pv 1) (pe_ix ix_tup (pe_fld (pv 0) rfl) pe_int (fun _ _ => rfl)) (by rfl))
    (pss_one ps_never)
    pss_nil)), ?_⟩
  obtain ⟨S, ps, fs, st, ⟨dx, Pp, Fu, h1, h2, h3⟩, ⟨a, b2, c, rs, g1, g2, g3, g4, g5, g6⟩, hz, q⟩ := h
  refine ⟨_, rfl, _, rfl, b, _, dx, _, _, rfl, h1, T.cl_Bench, T.n_Bench_state, rfl, S, _, _, .ref a, rfl, rfl, SqT.of g1, rfl, a, _, rfl, .inr (SqT.of g2), rfl, flat_strs _, _, rfl, ?_⟩
  rw [inV_strs]
  exact ifnN hz q
def spCheckPair (T : Txt P K mg) : SpN := fun vs H Q => ∃ b x y, vs = [.ref b, .str x, .str y] ∧ ∃ S ps fs st, BnAt T H b S ps fs ∧ StAt T H S st ∧ x ∈ st.fk ∧ y ∈ st.fk ∧ x ≠ y ∧ Q .non H
theorem sc_Bench_check_pair : FnScope ["self", "a", "b"] ["self", "a", "b"] (defScope (inC 42 10)) := ⟨rfl, rfl, rfl, by decide +kernel, rfl, by decide +kernel, by decide +kernel⟩
theorem w_Bench_check_pair (T : Txt P K mg) : FnN P w K mg base (2 + 1) (T.a_Bench_check_pair) (spCheckPair T) := by
  refine fn_mk (k := 2) (T.f_Bench_check_pair) sc_Bench_check_pair (fun _ _ _ _ _ _ us hl => match us, hl with | [_, _, _], _ => rfl) (fun vs H Q h => by obtain ⟨b, x, y, rfl, h⟩ := h; rfl) fun cdv A outer s H vs Q hr h => ?_
  have hu := hu_of hr
  have sc := sc_Bench_check_pair
  obtain ⟨b, x, y, rfl, h⟩ := h
  refine ⟨_, (pss_cons (ps_expr (pe_met (pv 0) (pa_cons (pv 1) pa_nil)))
    (pss_cons (ps_expr (pe_met (pv 0) (pa_cons (pv 2) pa_nil)))
    (pss_one (ps_if (pt_cmpR op_eq (pv 1) (pv 2) (nomark _))
    (pss_one ps_never)
    pss_nil)))), ?_⟩
  obtain ⟨S, ps, fs, st, hb, hs, hx, hy, hne, q⟩ := h
  obtain ⟨dx, Pp, Fu, h1, h2, h3⟩ := id hb
  have M : Mth ⟨P, w, K, mg, base, _⟩ T.C_Bench "check_fork" (spCheckFork T) := ⟨T.cl_Bench, _, 2, T.m_Bench_check_fork, w_Bench_check_fork T, hr⟩
  refine ⟨_, rfl, b, _, dx, _, _, rfl, h1, rfl, M, _, rfl, b, x, rfl, S, ps, fs, st, hb, hs, hx, ?_⟩
  refine ⟨_, rfl, b, _, dx, _, _, rfl, h1, rfl, M, _, rfl, b, y, rfl, S, ps, fs, st, hb, hs, hy, ?_⟩
  exact ⟨_, rfl, _, rfl, rfl, _, rfl, ifN (by simp [hne]) q⟩
end
end Fb
set_option maxHeartbeats 4000000
/-! Forkbeats: the bench, struck, added to, undone. -/
namespace Fb
open PySem PySem.Spec PyProof.Rows L2
section
variable {P : Program} {w : World} {K : PySem.W.Frag} {mg : Str → Option Value} {base : Heap}
theorem BnAt.ins {T : Txt P K mg} {H : Hp} {b S : Addr} {ps fs : List V} (h : BnAt T H b S ps fs) : ∃ dx gs, H b = some (.ins T.C_Bench dx gs) ∧ gs.lookup ("state" : Str) = some (.ref S) ∧ gs.lookup ("check_pair" : Str) = none ∧ gs.lookup ("check_fork" : Str) = none ∧ gs.lookup ("check_fact" : Str) = none ∧ gs.lookup ("enter" : Str) = none ∧ gs.lookup ("add_all" : Str) = none ∧ gs.lookup ("forks" : Str) = none ∧ gs.lookup ("strikes" : Str) = none ∧ gs.lookup ("told" : Str) = none := by
  obtain ⟨dx, Pp, Fu, h1, _⟩ := h
  exact ⟨dx, _, h1, rfl, rfl, rfl, rfl, rfl, rfl, rfl, rfl, rfl⟩
theorem at_last (ps : List V) (r : V) : atI (ps ++ [r]) (-1) = some r := by
  unfold atI ixN
  rw [if_neg (by omega), if_pos (by simp; omega)]
  have e : (ps ++ [r]).length = ps.length + 1 := by simp
  have e2 : ((-1 : Int) + ((ps.length + 1 : Nat) : Int)).toNat = ps.length := by omega
  rw [e, e2]
  simp
theorem hi_last (n : Nat) : HT.sIx (n + 1) (n + 1) (some (-1)) = n := by
  show (if (-1 : Int) < 0 then (-1 + ((n + 1 : Nat) : Int)).toNat else min (-1 : Int).toNat (n + 1)) = n
  rw [if_pos (by omega)]
  omega
theorem cut_last (ps : List V) (r : V) : cutV (ps ++ [r]) none (some (-1)) = ps := by
  unfold cutV
  have e : (ps ++ [r]).length = ps.length + 1 := by simp
  rw [HT.sIx_none, e, hi_last]
  simp
theorem len_empty : Str.length Str.empty = 0 := rfl
def spStrike (T : Txt P K mg) : SpN := fun vs H Q => ∃ b x y n, vs = [.ref b, .str x, .str y, .int n] ∧ ∃ S ps fs st, BnAt T H b S ps fs ∧ StAt T H S st ∧ ps.length ≤ 1000 ∧ x ∈ st.fk ∧ y ∈ st.fk ∧ x ≠ y ∧ NameOk x ∧ NameOk y ∧ 0 ≤ n ∧ n ≤ big ∧ st.sk.length < 20 ∧
  ∀ S' r tx H', But b H H' → BnAt T H' b S' (ps ++ [.ref r]) [] → StAt T H' S' { st with sk := st.sk ++ [(x, y, n)] } → H' r = some (.tup [.str tx, .ref S]) → Q (.int st.sk.length) H'
theorem sc_Bench_strike : FnScope ["self", "a", "b", "count", "forks", "strikes", "facts", "limit"] ["self", "a", "b", "count"] (defScope (inC 42 9)) := ⟨rfl, rfl, rfl, by decide +kernel, rfl, by decide +kernel, by decide +kernel⟩
theorem w_Bench_strike (T : Txt P K mg) : FnN P w K mg base (3 + 1) (T.a_Bench_strike) (spStrike T) := by
  refine fn_mk (k := 3) (T.f_Bench_strike) sc_Bench_strike (fun _ _ _ _ _ _ us hl => match us, hl with | [_, _, _, _], _ => rfl) (fun vs H Q h => by obtain ⟨b, x, y, n, rfl, h⟩ := h; rfl) fun cdv A outer s H vs Q hr h => ?_
  have hu := hu_of hr
  have sc := sc_Bench_strike
  obtain ⟨b, x, y, n, rfl, h⟩ := h
  refine ⟨_, (pss_cons (ps_asg (pe_fld (pv 0) rfl) (pg_tup rfl (pgs_cons (pg_name (i := 4) sc.nd rfl (.inl rfl)) (pgs_cons (pg_name (i := 5) sc.nd rfl (.inl rfl)) (pgs_cons (pg_name (i := 6) sc.nd rfl (.inl rfl)) (pgs_cons (pg_name (i := 7) sc.nd rfl (.inl rfl)) pgs_nil))))))
    (pss_cons (ps_expr (pe_met (pv 0) (pa_cons (pv 1) (pa_cons (pv 2) pa_nil))))
    (pss_cons (ps_if (PW.pt (pw_or (pt_cmpR op_lt (pv 3) pe_int (nomark _)) (pw_or1 (pt_cmpR op_gt (pv 3) (ClX.pe_cval (pe_glob (v := .ref T.C_Fact) (by rfl) T.g_Fact rfl)) (nomark _)))))
    (pss_one ps_never)
    pss_nil)
    (pss_cons (ps_if (pt_cmpR op_ge (pe_callB call_len_seq (by rfl) T.n_len PySem.boot_len (pa_cons (pv 5) pa_nil)) (ClX.pe_cval (pe_glob (v := .ref T.C_Bench) (by rfl) T.g_Bench rfl)) (nomark _))
    (pss_one ps_never)
    pss_nil)
    (pss_cons (ps_expr (pe_met (pv 0) (pa_cons (pe_joined (.cons pe_str (.cons (pe_fmt (pv 1)) (.cons pe_str (.cons (pe_fmt (pv 2)) (.cons pe_str (.cons (pe_fmt (pv 3)) .nil))))))) (pa_cons (pe_tup (pa_cons (pv 4) (pa_cons (pe_op op_catA (pv 5) (pe_tup (pa_cons (pe_tup (pa_cons (pv 1) (pa_cons (pv 2) (pa_cons (pv 3) pa_nil)))) pa_nil))) (pa_cons (pv 6) (pa_cons (pv 7) pa_nil))))) pa_nil))))
    (pss_one (ps_ret (pe_callB call_len_seq (by rfl) T.n_len PySem.boot_len (pa_cons (pv 5) pa_nil))))))))), ?_⟩
  obtain ⟨S, ps, fs, st, hb, hs, hz, hx, hy, hne, ox, oy, hn0, hn1, hsz, q⟩ := h
  obtain ⟨dx, gs, h1, l1, l2, _, _, l5, _⟩ := hb.ins
  obtain ⟨a, b2, c, rs, g1, g2, g3, g4, g5, g6⟩ := id hs
  have hrl := Paired.length g4
  refine ⟨_, rfl, b, _, dx, _, _, rfl, h1, T.cl_Bench, T.n_Bench_state, l1, S, _, rfl, SqT.of g1, rfl, _, _, rfl, _, _, rfl, _, _, rfl, _, _, rfl, rfl, ?_⟩
  refine ⟨_, rfl, b, _, dx, _, _, rfl, h1, l2, ⟨T.cl_Bench, _, 3, T.m_Bench_check_pair, w_Bench_check_pair T, hr⟩, _, rfl, _, rfl, b, x, y, rfl, S, ps, fs, st, hb, hs, hx, hy, hne, ?_⟩
  refine ⟨_, rfl, _, _, rfl, rfl, _, rfl, ifN (by omega) ?_⟩
  refine ⟨_, rfl, T.C_Fact, T.mc_Fact, _, _, rfl, T.rd_Fact, T.c_Fact_MOST_COUNT, _, _, rfl, rfl, _, rfl, ifN (by unfold big at hn1; omega) ?_⟩
  refine ⟨_, rfl, b2, _, rfl, .inr (SqT.of g3), T.C_Bench, T.mc_Bench, _, _, rfl, T.rd_Bench, T.c_Bench_MOST_STRIKES, _, _, rfl, rfl, _, rfl, ifN (by simp; omega) ?_⟩
  have z1 := ox.hi
  have z2 := oy.hi
  have z3 := int_len hn0 hn1
  have e1 : Str.length "strike " = 7 := by decide
  refine ⟨_, rfl, b, _, dx, _, _, rfl, h1, l5, ⟨T.cl_Bench, _, 2, T.m_Bench_enter, w_Bench_enter T, hr.mono (by decide)⟩, ?_⟩
  refine ⟨_, rfl, szt (by simp only [slen, len_empty]; omega), _, rfl, .inl ⟨x, rfl, szt (by omega), _, rfl, szt (by simp only [slen, len_empty]; omega), _, rfl, szt (by simp only [slen, len_empty, l_sp]; omega), _, rfl, .inl ⟨y, rfl, szt (by omega), _, rfl, szt (by simp only [slen, len_empty, l_sp]; omega), _, rfl, szt (by simp only [slen, len_empty, l_sp]; omega), _, rfl, .inr ⟨n, rfl, int_log hn0 hn1, _, rfl, szt (by simp only [slen, len_empty, l_sp]; have : Str.length (Str.ofString (toString n)) ≤ 11 := z3; omega), ?_⟩⟩⟩⟩
  refine ⟨_, rfl, _, rfl, _, rfl, _, rfl, _, rfl, (by show 3 ≤ sizeLine; decide), fun p1 hp1 => ⟨(by show 1 ≤ sizeLine; decide), fun p2 hp2 => ?_⟩⟩
  have s2 := same_trans (same_new (o := .tup [.str x, .str y, .int n]) hp1) (same_new (o := .tup [.ref p1]) hp2)
  have r1 := same_new hp2 (o := .tup [.ref p1]) p1 _ upd_same
  refine catA (SqT.of (s2 _ _ g3)) (SqT.of upd_same) (s2 _ _ g3) upd_same (by simp; omega) fun p3 H3 s3 h3 => ?_
  refine ⟨_, rfl, _, rfl, (by show 4 ≤ sizeLine; decide), fun p4 hp4 => ?_⟩
  have s4 := same_trans (same_trans s2 s3) (same_new (o := .tup [.ref a, .ref p3, .ref c, .int 0]) hp4)
  have hst : StAt T _ p4 { st with sk := st.sk ++ [(x, y, n)] } := ⟨a, p3, c, rs ++ [p1], upd_same, s4 _ _ g2, by rw [List.map_append]; exact same_new hp4 _ _ h3, paired_snoc (paired_imp (fun _ q e => s4 _ _ e) g4) (same_new hp4 _ _ (s3 _ _ r1)), s4 _ _ g5, fun q hq => (g6 q hq).at (same_kept s4)⟩
  have hb4 := hb.same s4
  refine ⟨b, _, p4, rfl, S, ps, fs, hb4, hz, fun r H5 k5 hb5 hr5 => ?_⟩
  refine ⟨_, rfl, b2, _, rfl, .inr (SqT.of (hb4.but k5 _ _ trivial (s4 _ _ g3))), ?_⟩
  have e5 : (rs.map V.ref).length = st.sk.length := by rw [List.length_map]; exact hrl
  show Q (V.int ((rs.map V.ref).length : Nat)) H5
  rw [e5]
  exact q p4 r _ H5 ((same_but s4).trans k5) hb5 (hst.at (hb4.but k5)) hr5
def spUndo (T : Txt P K mg) : SpN := fun vs H Q => ∃ b, vs = [.ref b] ∧ ∃ S S' ps fs r tx, BnAt T H b S (ps ++ [.ref r]) fs ∧ H r = some (.tup [.str tx, .ref S']) ∧ ps.length ≤ 1000 ∧ fs.length ≤ 1000 ∧ ∀ fs' H', But b H H' → BnAt T H' b S' ps fs' → Q (.str tx) H'
theorem sc_Bench_undo : FnScope ["self", "text", "state"] ["self"] (defScope (inC 42 18)) := ⟨rfl, rfl, rfl, by decide +kernel, rfl, by decide +kernel, by decide +kernel⟩
theorem w_Bench_undo (T : Txt P K mg) : FnN P w K mg base (1 + 1) (T.a_Bench_undo) (spUndo T) := by
  refine fn_mk (k := 1) (T.f_Bench_undo) sc_Bench_undo (fun _ _ _ _ _ _ us hl => match us, hl with | [_], _ => rfl) (fun vs H Q h => by obtain ⟨b, rfl, h⟩ := h; rfl) fun cdv A outer s H vs Q hr h => ?_
  have hu := hu_of hr
  have sc := sc_Bench_undo
  obtain ⟨b, rfl, h⟩ := h
  refine ⟨_, (pss_cons (ps_if (pt_cmpR op_eq (pe_callB call_len_seq (by rfl) T.n_len PySem.boot_len (pa_cons (pe_fld (pv 0) rfl) pa_nil)) pe_int (nomark _))
    (pss_one ps_never)
    pss_nil)
    (pss_cons (ps_asg (pe_ix ix_tup (pe_fld (pv 0) rfl) (pe_un un_neg pe_int) (fun _ _ => rfl)) (pg_tup rfl (pgs_cons (pg_name (i := 1) sc.nd rfl (.inl rfl)) (pgs_cons (pg_name (i := 2) sc.nd rfl (.inl rfl)) pgs_nil))))
    (pss_cons (ps_fld (pv 0) (pe_op op_catA (pe_fld (pv 0) rfl) (pe_tup (pa_cons (pe_tup (pa_cons (pv 1) (pa_cons (pe_fld (pv 0) rfl) pa_nil))) pa_nil))) rfl)
    (pss_cons (ps_fld (pv 0) (pe_slice sl_tupA (pe_fld (pv 0) rfl) po_none (po_some (pe_un un_neg pe_int))) rfl)
    (pss_cons (ps_fld (pv 0) (pv 2) rfl)
    (pss_one (ps_ret (pv 1)))))))), ?_⟩
  obtain ⟨S, S', ps, fs, r, tx, ⟨dx, Pp, Fu, h1, h2, h3⟩, hr1, hz, hz2, q⟩ := h
  have lp : (ps ++ [V.ref r]).length = ps.length + 1 := by simp
  refine ⟨_, rfl, b, _, dx, _, _, rfl, h1, T.cl_Bench, T.n_Bench_past, rfl, Pp, _, rfl, .inr (SqT.of h2), rfl, _, rfl, ifN (by rw [lp]; simp; omega) ?_⟩
  have at1 : atI (ps ++ [V.ref r]) (-1) = some (V.ref r) := at_last _ _
  refine ⟨_, rfl, b, _, dx, _, _, rfl, h1, T.cl_Bench, T.n_Bench_past, rfl, _, rfl, Pp, _, _, .ref r, rfl, rfl, SqT.of h2, at1, r, _, rfl, SqT.of hr1, rfl, _, _, rfl, _, _, rfl, rfl, ?_⟩
  refine ⟨_, rfl, b, _, dx, _, _, rfl, h1, T.cl_Bench, T.n_Bench_future, rfl, _, rfl, _, rfl, b, _, dx, _, _, rfl, h1, T.cl_Bench, T.n_Bench_state, rfl, (by show 2 ≤ sizeLine; decide), fun p1 hp1 => ⟨(by show 1 ≤ sizeLine; decide), fun p2 hp2 => ?_⟩⟩
  have s1 : Same H (upd (upd H p1 (.tup [.str tx, .ref S])) p2 (.tup [.ref p1])) := same_trans (same_new hp1) (same_new hp2)
  refine catA (SqT.of (s1 _ _ h3)) (SqT.of upd_same) (s1 _ _ h3) upd_same (by simp; omega) fun p3 H3 s3 hp3 => ?_
  have s13 := same_trans s1 s3
  have hb3 := s13 _ _ h1
  refine ⟨_, rfl, b, _, dx, _, rfl, hb3, T.cl_Bench, T.n_Bench_future, (by show 3 < 1000; decide), ?_⟩
  have n1 : ∀ {x : Addr} {ys : List V}, H3 x = some (.tup ys) → x ≠ b := fun {x ys} e => ne_of e hb3 (by intro z; cases z)
  have k1 : But b H3 _ := (same_but (b := b) (same_refl (H := H3))).put (o := .ins T.C_Bench dx (putF "future" (.ref p3) [("state", .ref S), ("past", .ref Pp), ("future", .ref Fu)]))
  have hP := s13 _ _ h2
  refine ⟨_, rfl, b, _, dx, _, _, rfl, upd_same, T.cl_Bench, T.n_Bench_past, rfl, _, rfl, _, rfl, Pp, _, rfl, SqT.of (k1 _ _ (n1 hP) hP), fun e => ?_, fun _ p4 hp4 => ?_⟩
  · have e2 := e.2
    rw [lp, hi_last] at e2
    omega
  rw [cut_last]
  have n4 : p4 ≠ b := fun z => by rw [z, upd_same] at hp4; cases hp4
  refine ⟨_, rfl, b, _, dx, _, rfl, same_new hp4 _ _ upd_same, T.cl_Bench, T.n_Bench_past, (by show 3 < 1000; decide), _, rfl, _, rfl, b, _, dx, _, rfl, upd_same, T.cl_Bench, T.n_Bench_state, (by show 3 < 1000; decide), _, rfl, ?_⟩
  have k2 : But b H3 _ := ((k1.same (same_new (o := .tup ps) hp4)).put (o := .ins T.C_Bench dx (putF "past" (.ref p4) (putF "future" (.ref p3) [("state", .ref S), ("past", .ref Pp), ("future", .ref Fu)])))).put (o := .ins T.C_Bench dx (putF "state" (.ref S') (putF "past" (.ref p4) (putF "future" (.ref p3) [("state", .ref S), ("past", .ref Pp), ("future", .ref Fu)]))))
  refine q _ _ ((same_but s13).trans k2) ⟨dx, p4, p3, upd_same, ?_, k2 _ _ (n1 hp3) hp3⟩
  rw [upd_ne n4, upd_ne n4, upd_same]
/-! ### readers -/
def spForksB (T : Txt P K mg) : SpN := fun vs H Q => ∃ b, vs = [.ref b] ∧ ∃ S ps fs st, BnAt T H b S ps fs ∧ StAt T H S st ∧ ∀ l H', H l = none → Same H H' → LsT H' l st.fk → Q (.ref l) H'
theorem sc_Bench_forks : FnScope ["self"] ["self"] (defScope (inC 42 21)) := ⟨rfl, rfl, rfl, by decide +kernel, rfl, by decide +kernel, by decide +kernel⟩
theorem w_Bench_forks (T : Txt P K mg) : FnN P w K mg base (0 + 1) (T.a_Bench_forks) (spForksB T) := by
  refine fn_mk (k := 0) (T.f_Bench_forks) sc_Bench_forks (fun _ _ _ _ _ _ us hl => match us, hl with | [_], _ => rfl) (fun vs H Q h => by obtain ⟨b, rfl, h⟩ := h; rfl) fun cdv A outer s H vs Q hr h => ?_
  have hu := hu_of hr
  have sc := sc_Bench_forks
  obtain ⟨b, rfl, h⟩ := h
  refine ⟨_, (pss_one (ps_ret (pe_callTy call_list_of (by rfl) T.n_list (by decide +kernel) (pa_cons (pe_ix ix_tup (pe_fld (pv 0) rfl) pe_int (fun _ _ => rfl)) pa_nil)))), ?_⟩
  obtain ⟨S, ps, fs, st, hb, ⟨a, b2, c, rs, g1, g2, g3, g4, g5, g6⟩, q⟩ := h
  obtain ⟨dx, gs, h1, l1, _⟩ := hb.ins
  exact ⟨_, rfl, b, _, dx, _, _, rfl, h1, T.cl_Bench, T.n_Bench_state, l1, S, _, _, .ref a, rfl, rfl, SqT.of g1, rfl, a, _, rfl, .inr (SqT.of g2), fun l hl => q l _ hl (same_new hl) upd_same⟩
/-- a list of strikes -/
abbrev SksAt (H : Hp) (l : Addr) (sk : List Sk) : Prop := ∃ rs, H l = some (.lst (rs.map V.ref)) ∧ Paired (TripAt H) rs sk
def spStrikesB (T : Txt P K mg) : SpN := fun vs H Q => ∃ b, vs = [.ref b] ∧ ∃ S ps fs st, BnAt T H b S ps fs ∧ StAt T H S st ∧ ∀ l H', H l = none → Same H H' → SksAt H' l st.sk → Q (.ref l) H'
theorem sc_Bench_strikes : FnScope ["self"] ["self"] (defScope (inC 42 22)) := ⟨rfl, rfl, rfl, by decide +kernel, rfl, by decide +kernel, by decide +kernel⟩
theorem w_Bench_strikes (T : Txt P K mg) : FnN P w K mg base (0 + 1) (T.a_Bench_strikes) (spStrikesB T) := by
  refine fn_mk (k := 0) (T.f_Bench_strikes) sc_Bench_strikes (fun _ _ _ _ _ _ us hl => match us, hl with | [_], _ => rfl) (fun vs H Q h => by obtain ⟨b, rfl, h⟩ := h; rfl) fun cdv A outer s H vs Q hr h => ?_
  have hu := hu_of hr
  have sc := sc_Bench_strikes
  obtain ⟨b, rfl, h⟩ := h
  refine ⟨_, (pss_one (ps_ret (pe_callTy call_list_of (by rfl) T.n_list (by decide +kernel) (pa_cons (pe_ix ix_tup (pe_fld (pv 0) rfl) pe_int (fun _ _ => rfl)) pa_nil)))), ?_⟩
  obtain ⟨S, ps, fs, st, hb, ⟨a, b2, c, rs, g1, g2, g3, g4, g5, g6⟩, q⟩ := h
  obtain ⟨dx, gs, h1, l1, _⟩ := hb.ins
  exact ⟨_, rfl, b, _, dx, _, _, rfl, h1, T.cl_Bench, T.n_Bench_state, l1, S, _, _, .ref b2, rfl, rfl, SqT.of g1, rfl, b2, _, rfl, .inr (SqT.of g3), fun l hl => q l _ hl (same_new hl) ⟨rs, upd_same, paired_imp (fun _ q e => same_new hl _ _ e) g4⟩⟩
def spTold (T : Txt P K mg) : SpN := fun vs H Q => ∃ b, vs = [.ref b] ∧ ∃ S ps fs st, BnAt T H b S ps fs ∧ StAt T H S st ∧ ∀ t, H t = some (.tup (st.fc.map fun q => V.ref q.1)) → (∀ q ∈ st.fc, FactAt T H q.1 q.2) → Q (.ref t) H
theorem sc_Bench_told : FnScope ["self"] ["self"] (defScope (inC 42 24)) := ⟨rfl, rfl, rfl, by decide +kernel, rfl, by decide +kernel, by decide +kernel⟩
theorem w_Bench_told (T : Txt P K mg) : FnN P w K mg base (0 + 1) (T.a_Bench_told) (spTold T) := by
  refine fn_mk (k := 0) (T.f_Bench_told) sc_Bench_told (fun _ _ _ _ _ _ us hl => match us, hl with | [_], _ => rfl) (fun vs H Q h => by obtain ⟨b, rfl, h⟩ := h; rfl) fun cdv A outer s H vs Q hr h => ?_
  have hu := hu_of hr
  have sc := sc_Bench_told
  obtain ⟨b, rfl, h⟩ := h
  refine ⟨_, (pss_one (ps_ret (pe_ix ix_tup (pe_fld (pv 0) rfl) pe_int (fun _ _ => rfl)))), ?_⟩
  obtain ⟨S, ps, fs, st, hb, ⟨a, b2, c, rs, g1, g2, g3, g4, g5, g6⟩, q⟩ := h
  obtain ⟨dx, gs, h1, l1, _⟩ := hb.ins
  exact ⟨_, rfl, b, _, dx, _, _, rfl, h1, T.cl_Bench, T.n_Bench_state, l1, S, _, _, .ref c, rfl, rfl, SqT.of g1, rfl, q c g5 g6⟩
def spLimit (T : Txt P K mg) : SpN := fun vs H Q => ∃ b, vs = [.ref b] ∧ ∃ S ps fs st, BnAt T H b S ps fs ∧ StAt T H S st ∧ Q (.int 0) H
theorem sc_Bench_limit : FnScope ["self"] ["self"] (defScope (inC 42 15)) := ⟨rfl, rfl, rfl, by decide +kernel, rfl, by decide +kernel, by decide +kernel⟩
theorem w_Bench_limit (T : Txt P K mg) : FnN P w K mg base (0 + 1) (T.a_lim) (spLimit T) := by
  refine fn_mk (k := 0) (T.f_Bench_limit) sc_Bench_limit (fun _ _ _ _ _ _ us hl => match us, hl with | [_], _ => rfl) (fun vs H Q h => by obtain ⟨b, rfl, h⟩ := h; rfl) fun cdv A outer s H vs Q hr h => ?_
  have hu := hu_of hr
  have sc := sc_Bench_limit
  obtain ⟨b, rfl, h⟩ := h
  refine ⟨_, (pss_one (ps_ret (pe_ix ix_tup (pe_fld (pv 0) rfl) pe_int (fun _ _ => rfl)))), ?_⟩
  obtain ⟨S, ps, fs, st, hb, ⟨a, b2, c, rs, g1, g2, g3, g4, g5, g6⟩, q⟩ := h
  obtain ⟨dx, gs, h1, l1, _⟩ := hb.ins
  exact ⟨_, rfl, b, _, dx, _, _, rfl, h1, T.cl_Bench, T.n_Bench_state, l1, S, _, _, .int 0, rfl, rfl, SqT.of g1, rfl, q⟩
def spAddAll (T : Txt P K mg) : SpN := fun vs H Q => ∃ b l, vs = [.ref b, .ref l] ∧ ∃ S ps fs st z, BnAt T H b S ps fs ∧ StAt T H S st ∧ ps.length ≤ 1000 ∧ LsT H l [z] ∧ NameOk z ∧ z ∉ st.fk ∧ st.fk.length < 10 ∧
  ∀ S' r tx H', But b H H' → BnAt T H' b S' (ps ++ [.ref r]) [] → StAt T H' S' { st with fk := st.fk ++ [z] } → H' r = some (.tup [.str tx, .ref S]) → Q .non H'
theorem sc_Bench_add_all : FnScope ["self", "names", "forks", "strikes", "facts", "limit", "at", "name"] ["self", "names"] (defScope (inC 42 8)) := ⟨rfl, rfl, rfl, by decide +kernel, rfl, by decide +kernel, by decide +kernel⟩
theorem w_Bench_add_all (T : Txt P K mg) : FnN P w K mg base (2 + 1) (T.a_Bench_add_all) (spAddAll T) := by
  refine fn_mk (k := 2) (T.f_Bench_add_all) sc_Bench_add_all (fun _ _ _ _ _ _ us hl => match us, hl with | [_, _], _ => rfl) (fun vs H Q h => by obtain ⟨b, l, rfl, h⟩ := h; rfl) fun cdv A outer s H vs Q hr h => ?_
  have hu := hu_of hr
  have sc := sc_Bench_add_all
  obtain ⟨b, l, rfl, h⟩ := h
  refine ⟨_, (pss_cons (ps_asg (pe_fld (pv 0) rfl) (pg_tup rfl (pgs_cons (pg_name (i := 2) sc.nd rfl (.inl rfl)) (pgs_cons (pg_name (i := 3) sc.nd rfl (.inl rfl)) (pgs_cons (pg_name (i := 4) sc.nd rfl (.inl rfl)) (pgs_cons (pg_name (i := 5) sc.nd rfl (.inl rfl)) pgs_nil))))))
    (pss_cons (ps_for PassesOwn.never rfl (pi_enum (by rfl) T.n_enumerate (pa_cons (pv 1) pa_nil)) (pg_tup rfl (pgs_cons (pg_name (i := 6) sc.nd rfl (.inl rfl)) (pgs_cons (pg_name (i := 7) sc.nd rfl (.inl rfl)) pgs_nil)))
    (pss_cons (ps_if (pt_not (pt_val (pe_cal (by rfl) (pa_cons (pv 7) pa_nil))))
    (pss_one ps_never)
    pss_nil)
    (pss_one (ps_if (PW.pt (pw_or (pt_cmpR op_in_seq (pv 7) (pv 2) (by rfl)) (pw_or1 (pt_cmpR op_in_seq (pv 7) (pe_slice sl_list (pv 1) po_none (po_some (pv 6))) (by rfl)))))
    (pss_one ps_never)
    pss_nil))))
    (pss_cons (ps_if (pt_cmpR op_gt (pe_op op_add (pe_callB call_len_seq (by rfl) T.n_len PySem.boot_len (pa_cons (pv 2) pa_nil)) (pe_callB call_len_seq (by rfl) T.n_len PySem.boot_len (pa_cons (pv 1) pa_nil))) (ClX.pe_cval (pe_glob (v := .ref T.C_Bench) (by rfl) T.g_Bench rfl)) (nomark _))
    (pss_one ps_never)
    pss_nil)
    (pss_one (ps_expr (pe_met (pv 0) (pa_cons (pe_join pe_str (pe_lst (pa_cons pe_str (StX.pa_star (pv 1) pa_nil)))) (pa_cons (pe_tup (pa_cons (pe_op op_catA (pv 2) (pe_callTy call_tuple_of (by rfl) T.n_tuple (by decide +kernel) (pa_cons (pv 1) pa_nil))) (pa_cons (pv 3) (pa_cons (pv 4) (pa_cons (pv 5) pa_nil))))) pa_nil)))))))), ?_⟩
  obtain ⟨S, ps, fs, st, z, hb, hs, hz, hl, oz, hnz, hfl, q⟩ := h
  obtain ⟨dx, gs, h1, l1, l2, _, _, l5, _⟩ := hb.ins
  obtain ⟨a, b2, c, rs, g1, g2, g3, g4, g5, g6⟩ := id hs
  refine ⟨_, rfl, b, _, dx, _, _, rfl, h1, T.cl_Bench, T.n_Bench_state, l1, S, _, rfl, SqT.of g1, rfl, _, _, rfl, _, _, rfl, _, _, rfl, _, _, rfl, rfl, ?_⟩
  refine ⟨_, rfl, l, _, rfl, SqL.of hl, for_it (walk_enum (xs := [z].map V.str)) (fun i σ H' => Same H H' ∧ ∃ m1 m2, σ = [some (.ref b), some (.ref l), some (.ref a), some (.ref b2), some (.ref c), some (.int 0), m1, m2])
    ⟨same_refl, _, _, rfl⟩ (fun _ _ _ _ h => SqL.of (h.1 _ _ hl)) ?_ ?_⟩
  · rintro i x σ H1 H2 hi ⟨hs1, m1, m2, rfl⟩ ⟨T1, x1, x2, rfl, hT, rfl, e1, e2⟩
    cases e1
    obtain rfl : i = 0 := by simpa using hi
    obtain rfl : V.str z = x2 := by simpa using e2
    have hs2 := same_trans hs1 (same_new (o := .tup [.int (0 : Nat), .str z]) hT)
    refine ⟨T1, _, rfl, SqT.of upd_same, rfl, _, _, rfl, _, _, rfl, rfl, spIsName, ⟨_, 1, T.g_is_name, T.f_is_name.kp, w_is_name T, hr.mono (by decide)⟩, _, rfl, z, rfl, oz, _, rfl, ?_⟩
    refine ⟨_, rfl, _, rfl, a, _, rfl, .inr (SqT.of (hs2 _ _ g2)), rfl, flat_strs _, _, rfl, ?_⟩
    rw [inV_strs]
    refine ifN hnz ⟨_, rfl, _, rfl, _, rfl, _, rfl, l, _, rfl, SqL.of (hs2 _ _ hl), fun p hp => ⟨p, _, rfl, .inl (SqL.of upd_same), rfl, rfl, _, rfl, ?_⟩⟩
    exact ⟨same_trans hs2 (same_new hp), _, _, rfl⟩
  · rintro σ H1 ⟨hs1, m1, m2, rfl⟩
    refine ⟨_, rfl, a, _, rfl, .inr (SqT.of (hs1 _ _ g2)), _, rfl, l, _, rfl, .inl (SqL.of (hs1 _ _ hl)), _, _, rfl, rfl, T.C_Bench, T.mc_Bench, _, _, rfl, T.rd_Bench, T.c_Bench_MOST_FORKS, _, _, rfl, rfl, _, rfl, ifN (by simp; omega) ?_⟩
    have e1 : Str.length "add" = 3 := by decide
    have z1 := oz.hi
    have h11 := hs1 _ _ h1
    refine ⟨_, rfl, b, _, dx, _, _, rfl, h11, l5, ⟨T.cl_Bench, _, 2, T.m_Bench_enter, w_Bench_enter T, hr⟩, ?_⟩
    refine ⟨⟨_, rfl⟩, _, rfl, l, _, rfl, .inr (SqL.of (hs1 _ _ hl)), (by show 2 ≤ sizeLine; decide), fun p hp => ⟨" ", p, ["add", z], rfl, rfl, .inl (SqL.of upd_same), szt (by simp [e1, l_sp]; omega), ?_⟩⟩
    have s2 := same_trans hs1 (same_new (o := .lst [.str "add", .str z]) hp)
    refine ⟨_, rfl, _, rfl, l, _, rfl, .inl ⟨SqL.of (s2 _ _ hl), fun p2 hp2 => ?_⟩⟩
    have s3 := same_trans s2 (same_new (o := .tup ([z].map V.str)) hp2)
    refine catA (SqT.of (s3 _ _ g2)) (SqT.of upd_same) (s3 _ _ g2) upd_same (by simp; omega) fun p3 H3 k3 h3 => ?_
    refine ⟨_, rfl, _, rfl, _, rfl, (by show 4 ≤ sizeLine; decide), fun p4 hp4 => ?_⟩
    have s4 := same_trans (same_trans s3 k3) (same_new (o := .tup [.ref p3, .ref b2, .ref c, .int 0]) hp4)
    have hst : StAt T _ p4 { st with fk := st.fk ++ [z] } := ⟨p3, b2, c, rs, upd_same, by rw [List.map_append]; exact same_new hp4 _ _ h3, s4 _ _ g3, paired_imp (fun _ q e => s4 _ _ e) g4, s4 _ _ g5, fun q hq => (g6 q hq).at (same_kept s4)⟩
    have hb4 := hb.same s4
    exact ⟨b, _, p4, rfl, S, ps, fs, hb4, hz, fun r H5 k5 hb5 hr5 => q p4 r _ H5 ((same_but s4).trans k5) hb5 (hst.at (hb4.but k5)) hr5⟩
def spAdd (T : Txt P K mg) (z : Str) : SpN := fun vs H Q => ∃ b t, vs = [.ref b, .ref t] ∧ ∃ S ps fs st, BnAt T H b S ps fs ∧ StAt T H S st ∧ ps.length ≤ 1000 ∧ H t = some (.tup [.str z]) ∧ NameOk z ∧ z ∉ st.fk ∧ st.fk.length < 10 ∧
  ∀ S' r tx H', But b H H' → BnAt T H' b S' (ps ++ [.ref r]) [] → StAt T H' S' { st with fk := st.fk ++ [z] } → H' r = some (.tup [.str tx, .ref S]) → Q .non H'
theorem sc_Bench_add : FnScope ["self", "names"] ["self", "names"] (defScope (inC 42 7)) := ⟨rfl, rfl, rfl, by decide +kernel, rfl, by decide +kernel, by decide +kernel⟩
theorem w_Bench_add (T : Txt P K mg) {z : Str} : FnN P w K mg base (3 + 1) (T.a_Bench_add) (fun vs H Q => ∃ ws rest, vs = ws ++ rest ∧ ws.length = 1 ∧ rest.length ≤ sizeLine ∧ ∀ p, H p = none → (spAdd T z) (ws ++ [V.ref p]) (upd H p (.tup rest)) Q) := by
  refine fn_mkV (k := 3) (ps := ["self"]) (pv := "names") (sp := spAdd T z) (T.f_Bench_add) sc_Bench_add (fun _ _ _ _ _ _ => StX.bind_star1 (B := fun l => bindArgs _ ⟨l, []⟩) (fun _  => rfl) (fun _ _ _  => rfl)) fun cdv A outer s H vs Q hr h => ?_
  have hu := hu_of hr
  have sc := sc_Bench_add
  obtain ⟨b, t, rfl, h⟩ := h
  refine ⟨_, (pss_one (ps_expr (pe_met (pv 0) (pa_cons (pe_callTy call_list_of (by rfl) T.n_list (by decide +kernel) (pa_cons (pv 1) pa_nil)) pa_nil)))), ?_⟩
  obtain ⟨S, ps, fs, st, hb, hs, hz, ht, oz, hnz, hfl, q⟩ := h
  obtain ⟨dx, gs, h1, l1, l2, _, _, l5, l6, _⟩ := hb.ins
  refine ⟨_, rfl, b, _, dx, _, _, rfl, h1, l6, ⟨T.cl_Bench, _, 3, T.m_Bench_add_all, w_Bench_add_all T, hr⟩, _, rfl, t, _, rfl, .inr (SqT.of ht), fun l hl => ?_⟩
  have s1 := same_new (o := .lst [.str z]) hl
  exact ⟨b, l, rfl, S, ps, fs, st, z, hb.same s1, hs.at (same_kept s1), hz, upd_same, oz, hnz, hfl, fun S' r tx H' k1 k2 k3 k4 => q S' r tx H' ((same_but s1).trans k1) k2 k3 k4⟩
end
end Fb
set_option maxHeartbeats 4000000
/-! Forkbeats: reached_from; facts told. -/
namespace Fb
open PySem PySem.Spec PyProof.Rows L2
theorem nodup_len {l U : List Str} (nd : l.Nodup) (h : ∀ z ∈ l, z ∈ U) : l.length ≤ U.length := by
  induction l generalizing U with
  | nil => exact Nat.zero_le _
  | cons a l ih =>
    simp only [List.nodup_cons] at nd
    have ha : a ∈ U := h a (List.mem_cons_self ..)
    have h2 := ih (U := U.erase a) nd.2 fun z hz => by
      have : z ≠ a := fun e => nd.1 (e ▸ hz)
      exact (List.mem_erase_of_ne this).mpr (h z (List.mem_cons_of_mem _ hz))
    rw [List.length_erase_of_mem ha] at h2
    have : 0 < U.length := List.length_pos_of_mem ha
    simp only [List.length_cons]
    omega
/-- names that strikes speak of -/
def skN (sk : List Sk) : List Str := sk.flatMap fun q => [q.1, q.2.1]
theorem skN_len (sk : List Sk) : (skN sk).length = 2 * sk.length := by
  induction sk with
  | nil => rfl
  | cons q sk ih => simp only [skN, List.flatMap_cons, List.length_append, List.length_cons, List.length_nil] at *; omega
theorem skN_mem {sk : List Sk} {q : Sk} (h : q ∈ sk) : q.1 ∈ skN sk ∧ q.2.1 ∈ skN sk := by
  constructor <;> exact List.mem_flatMap.mpr ⟨q, h, by simp⟩
/-- what reached_from holds -/
def Grow (sk : List Sk) (x : Str) (f : List Str) : Prop := f.Nodup ∧ x ∈ f ∧ ∀ z ∈ f, z ∈ x :: skN sk
def ClosedTo (sk : List Sk) (f : List Str) (k : Nat) : Prop := ∀ i, i < k → ∀ q ∈ sk, (f[i]? = some q.1 → q.2.1 ∈ f) ∧ (f[i]? = some q.2.1 → q.1 ∈ f)
theorem Grow.snoc {sk : List Sk} {x z : Str} {f : List Str} (h : Grow sk x f) (hz : z ∉ f) (hm : z ∈ skN sk) : Grow sk x (f ++ [z]) := by
  obtain ⟨h1, h2, h3⟩ := h
  refine ⟨?_, List.mem_append_left _ h2, fun y hy => ?_⟩
  · rw [List.nodup_append]
    refine ⟨h1, by simp, fun a ha b hb => ?_⟩
    simp at hb
    rw [hb]
    exact fun e => hz (e ▸ ha)
  · rcases List.mem_append.mp hy with h | h
    · exact h3 y h
    · simp at h; subst h; exact List.mem_cons_of_mem _ hm
theorem Grow.len {sk : List Sk} {x : Str} {f : List Str} (h : Grow sk x f) : f.length ≤ 1 + 2 * sk.length := by
  have := nodup_len h.1 h.2.2
  rw [List.length_cons, skN_len] at this
  omega
theorem at_zero {α : Type} (x : α) (xs : List α) : atI (x :: xs) 0 = some x := by
  unfold atI ixN
  rw [if_pos (by omega), if_pos (by simp)]
  rfl
theorem ls_snoc (H : Hp) (l : Addr) (f : List Str) (z : Str) : LsT (upd H l (.lst (f.map V.str ++ [.str z]))) l (f ++ [z]) := by
  show upd _ l _ l = _
  rw [upd_same, List.map_append]; rfl
section
variable {P : Program} {w : World} {K : PySem.W.Frag} {mg : Str → Option Value} {base : Heap}
def spReached : SpN := fun vs H Q => ∃ x t, vs = [.str x, .ref t] ∧ ∃ rs sk, H t = some (.tup (rs.map V.ref)) ∧ Paired (TripAt H) rs sk ∧ sk.length ≤ 20 ∧ ∀ l f H', Same H H' → LsT H' l f → Grow sk x f → ClosedTo sk f f.length → Q (.ref l) H'
theorem sc_reached_from : FnScope ["start", "strikes", "found", "at", "here", "a", "b", "count"] ["start", "strikes"] (defScope (top 41)) := ⟨rfl, rfl, rfl, by decide +kernel, rfl, by decide +kernel, by decide +kernel⟩
theorem w_reached_from (T : Txt P K mg) : FnN P w K mg base (0 + 1) (T.a_reached_from) (spReached) := by
  refine fn_mk (k := 0) (T.f_reached_from) sc_reached_from (fun _ _ _ _ _ _ us hl => match us, hl with | [_, _], _ => rfl) (fun vs H Q h => by obtain ⟨x, t, rfl, h⟩ := h; rfl) fun cdv A outer s H vs Q hr h => ?_
  have hu := hu_of hr
  have sc := sc_reached_from
  obtain ⟨x, t, rfl, h⟩ := h
  refine ⟨_, (pss_cons (ps_set (i := 2) sc.nd rfl (.inl rfl) (pe_lst (pa_cons (pv 0) pa_nil)))
    (pss_cons (ps_set (i := 3) sc.nd rfl (.inl rfl) pe_int)
    (pss_cons (ps_while PassesOwn.never (pt_cmpR op_lt (pv 3) (pe_callB call_len_seq (by rfl) T.n_len PySem.boot_len (pa_cons (pv 2) pa_nil)) (nomark _))
    (pss_cons (ps_set (i := 4) sc.nd rfl (.inl rfl) (pe_ix ix_list (pv 2) (pv 3) (fun _ _ => rfl)))
    (pss_cons (ps_aug (i := 3) sc.nd rfl (.inl rfl) pe_int ip_add)
    (pss_one (ps_for PassesOwn.never rfl (pi_tup (pv 1)) (pg_tup rfl (pgs_cons (pg_name (i := 5) sc.nd rfl (.inl rfl)) (pgs_cons (pg_name (i := 6) sc.nd rfl (.inl rfl)) (pgs_cons (pg_name (i := 7) sc.nd rfl (.inl rfl)) pgs_nil))))
    (pss_cons (ps_if (PW.pt (pw_and (pt_cmpR op_eq (pv 5) (pv 4) (nomark _)) (pw_and1 (pt_cmpR op_notIn_seq (pv 6) (pv 2) (by rfl)))))
    (pss_one (ps_expr (pe_bm PySem.F.plainAttrs_list PySem.F.slot_list_append PySem.F.type_list_append mt_append (pv 2) (pa_cons (pv 6) pa_nil))))
    pss_nil)
    (pss_one (ps_if (PW.pt (pw_and (pt_cmpR op_eq (pv 6) (pv 4) (nomark _)) (pw_and1 (pt_cmpR op_notIn_seq (pv 5) (pv 2) (by rfl)))))
    (pss_one (ps_expr (pe_bm PySem.F.plainAttrs_list PySem.F.slot_list_append PySem.F.type_list_append mt_append (pv 2) (pa_cons (pv 5) pa_nil))))
    pss_nil))))))))
    (pss_one (ps_ret (pv 2)))))), ?_⟩
  obtain ⟨rs, sk, ht, hp, hz, q⟩ := h
  have hrl := Paired.length hp
  refine ⟨_, rfl, (by show 1 ≤ sizeLine; decide), fun l hl => ?_⟩
  refine ⟨fun m σ H' => ∃ f k a b c d, σ = [some (.str x), some (.ref t), some (.ref l), some (.int (k : Nat)), a, b, c, d] ∧ Same H H' ∧ LsT H' l f ∧ Grow sk x f ∧ ClosedTo sk f k ∧ k ≤ f.length ∧ m = 1 + 2 * sk.length - k, ⟨_, [x], 0, _, _, _, _, rfl, same_new hl, upd_same, ⟨by simp, by simp, by simp⟩, fun i hi => absurd hi (Nat.not_lt_zero _), Nat.zero_le _, rfl⟩, ?_⟩
  rintro m σ H1 ⟨f, k, a, b, c, d, rfl, hs, hf, hg, hc, hk, rfl⟩
  refine ⟨_, rfl, _, rfl, l, _, rfl, .inl (SqL.of hf), _, _, rfl, rfl, _, rfl, ?_⟩
  refine ifD (fun hlt => ?_) (fun hge => ?_)
  · have hlt : k < f.length := by simpa using hlt
    refine ⟨fun σ' H' => ∃ f' a b c d, σ' = [some (.str x), some (.ref t), some (.ref l), some (.int ((k + 1 : Nat) : Int)), a, b, c, d] ∧ Same H H' ∧ LsT H' l f' ∧ Grow sk x f' ∧ ClosedTo sk f' (k + 1) ∧ k + 1 ≤ f'.length, ?_, ?_⟩
    · rintro σ' H' ⟨f', a, b, c, d, h1, h2, h3, h4, h5, h6⟩
      have := hg.len
      exact ⟨_, by omega, f', k + 1, a, b, c, d, h1, h2, h3, h4, h5, h6, rfl⟩
    obtain ⟨here, eh⟩ : ∃ here, f[k]? = some here := ⟨_, List.getElem?_eq_getElem hlt⟩
    refine ⟨_, rfl, _, rfl, l, _, _, .str here, rfl, rfl, SqL.of hf, by rw [atI_nat]; simp [eh], _, rfl, _, _, rfl, rfl, ?_⟩
    refine ⟨_, rfl, t, rfl, ⟨_, SqT.of (hs _ _ ht)⟩, for_it (walk_tup (xs := rs.map V.ref)) (fun i σ H' => Same H H' ∧ ∃ f' b c d, σ = [some (.str x), some (.ref t), some (.ref l), some (.int ((k + 1 : Nat) : Int)), some (.str here), b, c, d] ∧ LsT H' l f' ∧ Grow sk x f' ∧ f <+: f' ∧ ∀ j, j < i → ∀ q, sk[j]? = some q → (q.1 = here → q.2.1 ∈ f') ∧ (q.2.1 = here → q.1 ∈ f'))
      ⟨hs, f, _, _, _, rfl, hf, hg, List.prefix_rfl, fun j hj => absurd hj (Nat.not_lt_zero _)⟩ (fun _ _ _ _ h => SqT.of (h.1 _ _ ht)) ?_ ?_⟩
    · rintro i y σ H3 H2 hi ⟨hs2, f', b', c', d', rfl, hf', hg', hpre, hq'⟩ ⟨rfl, hy⟩
      obtain ⟨r, er, rfl⟩ : ∃ r, rs[i]? = some r ∧ V.ref r = y := by simpa using hy
      obtain ⟨⟨qa, qb, qn⟩, eq, hr1⟩ := paired_get hp er
      have hmem := skN_mem (List.mem_of_getElem? eq)
      refine ⟨r, _, rfl, SqT.of (hs2 _ _ hr1), rfl, _, _, rfl, _, _, rfl, _, _, rfl, rfl, ?_⟩
      have fin : ∀ f2 G, Same H G → LsT G l f2 → Grow sk x f2 → f' <+: f2 → (qa = here → qb ∈ f2) → (qb = here → qa ∈ f2) →
          Same H G ∧ ∃ f' b c d, [some (V.str x), some (.ref t), some (.ref l), some (.int ((k + 1 : Nat) : Int)), some (.str here), some (.str qa), some (.str qb), some (.int qn)] = [some (.str x), some (.ref t), some (.ref l), some (.int ((k + 1 : Nat) : Int)), some (.str here), b, c, d] ∧ LsT G l f' ∧ Grow sk x f' ∧ f <+: f' ∧ ∀ j, j < i + 1 → ∀ q, sk[j]? = some q → (q.1 = here → q.2.1 ∈ f') ∧ (q.2.1 = here → q.1 ∈ f') :=
        fun f2 G g1 g2 g3 g4 g5 g6 => ⟨g1, f2, _, _, _, rfl, g2, g3, hpre.trans g4, fun j hj q hq => by
          rcases Nat.lt_succ_iff_lt_or_eq.mp hj with h | h
          · obtain ⟨a1, a2⟩ := hq' j h q hq
            exact ⟨fun e => g4.subset (a1 e), fun e => g4.subset (a2 e)⟩
          · subst h
            rw [eq] at hq
            cases hq
            exact ⟨g5, g6⟩⟩
      refine ⟨_, rfl, _, rfl, rfl, _, rfl, ifD (fun e1 => ?_) (fun e1 => iteF ?_)⟩
      · have e1 : qa = here := by injection e1
        refine ⟨_, rfl, _, rfl, l, _, rfl, .inl (SqL.of hf'), rfl, flat_strs _, _, rfl, ?_⟩
        rw [inV_strs]
        refine ifnD (fun hn => ?_) (fun hm => ?_)
        · have hs4 := same_mut (o := .lst (f'.map V.str ++ [.str qb])) hs2 hl
          have hl4 : LsT (upd H2 l (.lst (f'.map V.str ++ [.str qb]))) l (f' ++ [qb]) := ls_snoc _ _ _ _
          have hg4 := hg'.snoc hn hmem.2
          have hp4 : f' <+: f' ++ [qb] := List.prefix_append _ _
          have hq4 : qa = here → qb ∈ f' ++ [qb] := fun _ => by simp
          refine ⟨_, rfl, .inl ⟨rfl, _, SqL.of hf'⟩, _, rfl, l, _, _, rfl, rfl, hf', ?_, ?_⟩
          · rw [List.length_map]; have := hg'.len; exact Nat.lt_of_le_of_lt (Nat.le_trans this (by omega : _ ≤ 41)) (by decide)
          have ht3 : (upd H2 l (.lst (f'.map V.str ++ [.str qb]))) t = some (.tup (rs.map V.ref)) := hs4 _ _ ht
          refine ⟨_, rfl, _, rfl, rfl, _, rfl, ifD (fun e2 => ?_) (fun e2 => iteF ?_)⟩
          · have e2 : qb = here := by injection e2
            refine ⟨_, rfl, _, rfl, l, _, rfl, .inl (SqL.of hl4), rfl, flat_strs _, _, rfl, ?_⟩
            rw [inV_strs]
            refine ifnD (fun hn => ?_) (fun hm => fin _ _ hs4 hl4 hg4 hp4 hq4 (fun _ => hm))
            refine ⟨_, rfl, .inl ⟨rfl, _, SqL.of hl4⟩, _, rfl, l, _, _, rfl, rfl, hl4, ?_, ?_⟩
            · rw [List.length_map]; have := (hg4).len; exact Nat.lt_of_le_of_lt (Nat.le_trans this (by omega : _ ≤ 41)) (by decide)
            · exact fin _ _ (same_mut hs4 hl) (ls_snoc _ _ _ _) ((hg4).snoc hn hmem.1) ((hp4).trans (List.prefix_append _ _)) (fun e => List.mem_append_left _ (hq4 e)) (fun _ => by simp)
          · have e2 : ¬ qb = here := fun z => e2 (by rw [z])
            exact fin _ _ hs4 hl4 hg4 hp4 hq4 (fun e => absurd e e2)
        · have hq4 : qa = here → qb ∈ f' := fun _ => hm
          have hp4 : f' <+: f' := List.prefix_rfl
          have ht3 : H2 t = some (.tup (rs.map V.ref)) := hs2 _ _ ht
          refine ⟨_, rfl, _, rfl, rfl, _, rfl, ifD (fun e2 => ?_) (fun e2 => iteF ?_)⟩
          · have e2 : qb = here := by injection e2
            refine ⟨_, rfl, _, rfl, l, _, rfl, .inl (SqL.of hf'), rfl, flat_strs _, _, rfl, ?_⟩
            rw [inV_strs]
            refine ifnD (fun hn => ?_) (fun hm => fin _ _ hs2 hf' hg' hp4 hq4 (fun _ => hm))
            refine ⟨_, rfl, .inl ⟨rfl, _, SqL.of hf'⟩, _, rfl, l, _, _, rfl, rfl, hf', ?_, ?_⟩
            · rw [List.length_map]; have := (hg').len; exact Nat.lt_of_le_of_lt (Nat.le_trans this (by omega : _ ≤ 41)) (by decide)
            · exact fin _ _ (same_mut hs2 hl) (ls_snoc _ _ _ _) ((hg').snoc hn hmem.1) ((hp4).trans (List.prefix_append _ _)) (fun e => List.mem_append_left _ (hq4 e)) (fun _ => by simp)
          · have e2 : ¬ qb = here := fun z => e2 (by rw [z])
            exact fin _ _ hs2 hf' hg' hp4 hq4 (fun e => absurd e e2)
      · have hq4 : qa = here → qb ∈ f' := fun e => absurd (by rw [e]) e1
        have hp4 : f' <+: f' := List.prefix_rfl
        have ht3 : H2 t = some (.tup (rs.map V.ref)) := hs2 _ _ ht
        refine ⟨_, rfl, _, rfl, rfl, _, rfl, ifD (fun e2 => ?_) (fun e2 => iteF ?_)⟩
        · have e2 : qb = here := by injection e2
          refine ⟨_, rfl, _, rfl, l, _, rfl, .inl (SqL.of hf'), rfl, flat_strs _, _, rfl, ?_⟩
          rw [inV_strs]
          refine ifnD (fun hn => ?_) (fun hm => fin _ _ hs2 hf' hg' hp4 hq4 (fun _ => hm))
          refine ⟨_, rfl, .inl ⟨rfl, _, SqL.of hf'⟩, _, rfl, l, _, _, rfl, rfl, hf', ?_, ?_⟩
          · rw [List.length_map]; have := (hg').len; exact Nat.lt_of_le_of_lt (Nat.le_trans this (by omega : _ ≤ 41)) (by decide)
          · exact fin _ _ (same_mut hs2 hl) (ls_snoc _ _ _ _) ((hg').snoc hn hmem.1) ((hp4).trans (List.prefix_append _ _)) (fun e => List.mem_append_left _ (hq4 e)) (fun _ => by simp)
        · have e2 : ¬ qb = here := fun z => e2 (by rw [z])
          exact fin _ _ hs2 hf' hg' hp4 hq4 (fun e => absurd e e2)
    · rintro σ H2 ⟨hs2, f', b', c', d', rfl, hf', hg', hpre, hq'⟩
      refine ⟨f', _, b', c', d', rfl, hs2, hf', hg', fun i hi q hq => ?_, Nat.le_trans hlt hpre.length_le⟩
      have hfk : ∀ {i : Nat} {z : Str}, i < f.length → f'[i]? = some z → f[i]? = some z := fun {i z} hi e => by
        obtain ⟨g, rfl⟩ := hpre
        rwa [List.getElem?_append_left hi] at e
      rcases Nat.lt_succ_iff_lt_or_eq.mp hi with h | h
      · obtain ⟨a1, a2⟩ := hc i h q hq
        exact ⟨fun e => hpre.subset (a1 (hfk (by omega) e)), fun e => hpre.subset (a2 (hfk (by omega) e))⟩
      · subst h
        obtain ⟨j, hj, ej⟩ := List.mem_iff_getElem.mp hq
        obtain ⟨a1, a2⟩ := hq' j (by rw [List.length_map, hrl]; exact hj) q (by rw [List.getElem?_eq_getElem hj, ej])
        refine ⟨fun e => a1 ?_, fun e => a2 ?_⟩
        · have := hfk hlt e; rw [eh] at this; exact (Option.some.inj this).symm
        · have := hfk hlt e; rw [eh] at this; exact (Option.some.inj this).symm
  · have hge : f.length ≤ k := by simpa using hge
    obtain rfl : k = f.length := Nat.le_antisymm hk hge
    exact ⟨_, rfl, q l f H1 hs hf hg hc⟩
/-- names that strikes hold together -/
def Together (sk : List Sk) (ns : List Str) : Prop := ∀ y ∈ ns, ∀ f, Grow sk y f → ClosedTo sk f f.length → ∀ z ∈ ns, z ∈ f
def spCheckFact (T : Txt P K mg) : SpN := fun vs H Q => ∃ b f, vs = [.ref b, .ref f] ∧ ∃ S ps fs st x, BnAt T H b S ps fs ∧ StAt T H S st ∧ FactAt T H f x ∧ (∀ z ∈ x.names, z ∈ st.fk) ∧ st.sk.length ≤ 20 ∧ Together st.sk x.names ∧ ∀ H', Same H H' → Q .non H'
theorem sc_Bench_check_fact : FnScope ["self", "fact", "names", "name", "joined_names"] ["self", "fact"] (defScope (inC 42 12)) := ⟨rfl, rfl, rfl, by decide +kernel, rfl, by decide +kernel, by decide +kernel⟩
theorem w_Bench_check_fact (T : Txt P K mg) : FnN P w K mg base (2 + 1) (T.a_Bench_check_fact) (spCheckFact T) := by
  refine fn_mk (k := 2) (T.f_Bench_check_fact) sc_Bench_check_fact (fun _ _ _ _ _ _ us hl => match us, hl with | [_, _], _ => rfl) (fun vs H Q h => by obtain ⟨b, f, rfl, h⟩ := h; rfl) fun cdv A outer s H vs Q hr h => ?_
  have hu := hu_of hr
  have sc := sc_Bench_check_fact
  obtain ⟨b, f, rfl, h⟩ := h
  refine ⟨_, (pss_cons (ps_set (i := 2) sc.nd rfl (.inl rfl) (pe_met0 (pv 1)))
    (pss_cons (ps_for PassesOwn.never rfl (pi_list (pv 2)) (pg_name (i := 3) sc.nd rfl (.inl rfl))
    (pss_one (ps_expr (pe_met (pv 0) (pa_cons (pv 3) pa_nil)))))
    (pss_cons (ps_set (i := 4) sc.nd rfl (.inl rfl) (pe_cal (by rfl) (pa_cons (pe_ix ix_list (pv 2) pe_int (fun _ _ => rfl)) (pa_cons (pe_ix ix_tup (pe_fld (pv 0) rfl) pe_int (fun _ _ => rfl)) pa_nil))))
    (pss_one (ps_for PassesOwn.never rfl (pi_list (pv 2)) (pg_name (i := 3) sc.nd rfl (.inl rfl))
    (pss_one (ps_if (pt_cmpR op_notIn_seq (pv 3) (pv 4) (by rfl))
    (pss_one ps_never)
    pss_nil))))))), ?_⟩
  obtain ⟨S, ps, fs, st, x, hb, hs, hf, hz, hsz, htg, q⟩ := h
  obtain ⟨df, ff, f1, f2, f3⟩ := hf.hd
  have hfc := x.fact T
  obtain ⟨dx, gs, h1, l1, l2, l3, _⟩ := hb.ins
  obtain ⟨a, b2, c, rs, g1, g2, g3, g4, g5, g6⟩ := id hs
  refine ⟨_, rfl, f, _, df, ff, _, rfl, f1, f2, mth_forks T hr hfc, f, rfl, _, _, _, _, _, hfc, hf, fun p H1 hp s1 hl => ?_⟩
  refine ⟨_, rfl, p, rfl, ⟨_, SqL.of hl⟩, ?_⟩
  refine for_it (walk_list (xs := (dedup x.names).map V.str)) (fun i σ H' => H' = H1 ∧ ∃ m n, σ = [some (.ref b), some (.ref f), some (.ref p), m, n]) ⟨rfl, _, _, rfl⟩ (fun _ _ _ _ h => SqL.of (by rw [h.1]; exact hl)) ?_ ?_
  · rintro i y σ H3 H2 hi ⟨rfl, m, n, rfl⟩ ⟨rfl, hy⟩
    obtain ⟨z, ez, rfl⟩ := map_get hy
    exact ⟨_, rfl, b, _, dx, _, _, rfl, s1 _ _ h1, l3, ⟨T.cl_Bench, _, 2, T.m_Bench_check_fork, w_Bench_check_fork T, hr⟩, _, rfl, b, z, rfl, S, ps, fs, st, hb.same s1, hs.at (same_kept s1), hz z (dedup_mem.mp (List.mem_of_getElem? ez)), rfl, _, _, rfl⟩
  · rintro σ H2 ⟨rfl, m, n, rfl⟩
    have hok := dedup_ok hf.ok
    obtain ⟨y, ys, ey⟩ := List.exists_cons_of_ne_nil hok.1
    have hym : y ∈ x.names := dedup_mem.mp (by rw [ey]; simp)
    refine ⟨spReached, ⟨_, 1, T.g_reached_from, T.f_reached_from.kp, w_reached_from T, hr.mono (by decide)⟩, _, rfl, p, _, _, .str y, rfl, rfl, SqL.of hl, by rw [ey]; exact at_zero _ _, ?_⟩
    refine ⟨_, rfl, b, _, dx, _, _, rfl, s1 _ _ h1, T.cl_Bench, T.n_Bench_state, l1, S, _, _, .ref b2, rfl, rfl, SqT.of (s1 _ _ g1), rfl, ?_⟩
    refine ⟨y, b2, rfl, rs, st.sk, s1 _ _ g3, paired_imp (fun _ q e => s1 _ _ e) g4, hsz, fun l fr H3 s3 hl3 hgr hcl => ?_⟩
    refine ⟨_, rfl, p, rfl, ⟨_, SqL.of (s3 _ _ hl)⟩, for_it (walk_list (xs := (dedup x.names).map V.str)) (fun i σ H' => H' = H3 ∧ ∃ m, σ = [some (.ref b), some (.ref f), some (.ref p), m, some (.ref l)]) ⟨rfl, _, rfl⟩ (fun _ _ _ _ h => SqL.of (by rw [h.1]; exact s3 _ _ hl)) ?_ ?_⟩
    · rintro i y2 σ H5 H4 hi ⟨rfl, m, rfl⟩ ⟨rfl, hy⟩
      obtain ⟨z, ez, rfl⟩ := map_get hy
      refine ⟨_, rfl, _, rfl, l, _, rfl, .inl (SqL.of hl3), rfl, flat_strs _, _, rfl, ?_⟩
      rw [inV_strs]
      exact ifnN (htg y hym fr hgr hcl z (dedup_mem.mp (List.mem_of_getElem? ez))) ⟨rfl, _, rfl⟩
    · rintro σ H4 ⟨rfl, m, rfl⟩
      exact q _ (same_trans s1 s3)
def spTell (T : Txt P K mg) : SpN := fun vs H Q => ∃ b f, vs = [.ref b, .ref f] ∧ ∃ S ps fs st x, BnAt T H b S ps fs ∧ StAt T H S st ∧ FactAt T H f x ∧ (∀ z ∈ x.names, z ∈ st.fk) ∧ st.sk.length ≤ 20 ∧ Together st.sk x.names ∧ ps.length ≤ 1000 ∧ st.fc.length < 12 ∧
  ∀ S' r tx H', But b H H' → BnAt T H' b S' (ps ++ [.ref r]) [] → StAt T H' S' { st with fc := st.fc ++ [(f, x)] } → H' r = some (.tup [.str tx, .ref S]) → Q (.int st.fc.length) H'
theorem Fx.m_le (x : Fx) : x.m ≤ 2000 := by cases x <;> simp [Fx.m]
theorem sc_Bench_tell : FnScope ["self", "fact", "forks", "strikes", "facts", "limit"] ["self", "fact"] (defScope (inC 42 13)) := ⟨rfl, rfl, rfl, by decide +kernel, rfl, by decide +kernel, by decide +kernel⟩
theorem w_Bench_tell (T : Txt P K mg) : FnN P w K mg base (3 + 1) (T.a_Bench_tell) (spTell T) := by
  refine fn_mk (k := 3) (T.f_Bench_tell) sc_Bench_tell (fun _ _ _ _ _ _ us hl => match us, hl with | [_, _], _ => rfl) (fun vs H Q h => by obtain ⟨b, f, rfl, h⟩ := h; rfl) fun cdv A outer s H vs Q hr h => ?_
  have hu := hu_of hr
  have sc := sc_Bench_tell
  obtain ⟨b, f, rfl, h⟩ := h
  refine ⟨_, (pss_cons (ps_asg (pe_fld (pv 0) rfl) (pg_tup rfl (pgs_cons (pg_name (i := 2) sc.nd rfl (.inl rfl)) (pgs_cons (pg_name (i := 3) sc.nd rfl (.inl rfl)) (pgs_cons (pg_name (i := 4) sc.nd rfl (.inl rfl)) (pgs_cons (pg_name (i := 5) sc.nd rfl (.inl rfl)) pgs_nil))))))
    (pss_cons (ps_expr (pe_met (pv 0) (pa_cons (pv 1) pa_nil)))
    (pss_cons (ps_if (pt_cmpR op_ge (pe_callB call_len_seq (by rfl) T.n_len PySem.boot_len (pa_cons (pv 4) pa_nil)) (ClX.pe_cval (pe_glob (v := .ref T.C_Bench) (by rfl) T.g_Bench rfl)) (nomark _))
    (pss_one ps_never)
    pss_nil)
    (pss_cons (ps_expr (pe_met (pv 0) (pa_cons (pe_op op_add_str pe_str (pe_callTy call_strO (by rfl) T.n_str (by decide +kernel) (pa_cons (pv 1) pa_nil))) (pa_cons (pe_tup (pa_cons (pv 2) (pa_cons (pv 3) (pa_cons (pe_op op_catA (pv 4) (pe_tup (pa_cons (pv 1) pa_nil))) (pa_cons (pv 5) pa_nil))))) pa_nil))))
    (pss_one (ps_ret (pe_callB call_len_seq (by rfl) T.n_len PySem.boot_len (pa_cons (pv 4) pa_nil)))))))), ?_⟩
  obtain ⟨S, ps, fs, st, x, hb, hs, hf, hz, hsz, htg, hpz, hfz, q⟩ := h
  obtain ⟨dx, gs, h1, l1, l2, l3, l4, l5, _⟩ := hb.ins
  obtain ⟨a, b2, c, rs, g1, g2, g3, g4, g5, g6⟩ := id hs
  obtain ⟨df, ff, f1, f2, f3⟩ := hf.hd
  have hfc := x.fact T
  obtain ⟨ka, fc⟩ := id hfc
  refine ⟨_, rfl, b, _, dx, _, _, rfl, h1, T.cl_Bench, T.n_Bench_state, l1, S, _, rfl, SqT.of g1, rfl, _, _, rfl, _, _, rfl, _, _, rfl, _, _, rfl, rfl, ?_⟩
  refine ⟨_, rfl, b, _, dx, _, _, rfl, h1, l4, ⟨T.cl_Bench, _, 3, T.m_Bench_check_fact, w_Bench_check_fact T, hr⟩, _, rfl, b, f, rfl, S, ps, fs, st, x, hb, hs, hf, hz, hsz, htg, fun H1 s1 => ?_⟩
  refine ⟨_, rfl, c, _, rfl, .inr (SqT.of (s1 _ _ g5)), T.C_Bench, T.mc_Bench, _, _, rfl, T.rd_Bench, T.c_Bench_MOST_FACTS, _, _, rfl, rfl, _, rfl, ifN (by simp; omega) ?_⟩
  refine ⟨_, rfl, b, _, dx, _, _, rfl, s1 _ _ h1, l5, ⟨T.cl_Bench, _, 2, T.m_Bench_enter, w_Bench_enter T, hr.mono (by decide)⟩, ?_⟩
  have e1 : Str.length "tell " = 5 := by decide
  have hm := x.m_le
  refine ⟨_, rfl, f, _, df, ff, _, 1, spFStr T, rfl, s1 _ _ f1, fc.str.spc, w_Fact_str T, hr, f, rfl, _, _, _, _, _, hfc, hf.at (same_kept s1), by omega, fun tx htx => ⟨tx, rfl, _, _, rfl, rfl, szt (by omega), ?_⟩⟩
  refine ⟨_, rfl, _, rfl, _, rfl, _, rfl, (by show 1 ≤ sizeLine; decide), fun p2 hp2 => ?_⟩
  have s2 := same_trans s1 (same_new (o := .tup [.ref f]) hp2)
  refine catA (SqT.of (s2 _ _ g5)) (SqT.of upd_same) (s2 _ _ g5) upd_same (by simp; omega) fun p3 H3 s3 h3 => ?_
  refine ⟨_, rfl, (by show 4 ≤ sizeLine; decide), fun p4 hp4 => ?_⟩
  have s4 := same_trans (same_trans s2 s3) (same_new (o := .tup [.ref a, .ref b2, .ref p3, .int 0]) hp4)
  have hst : StAt T _ p4 { st with fc := st.fc ++ [(f, x)] } := ⟨a, b2, p3, rs, upd_same, s4 _ _ g2, s4 _ _ g3, paired_imp (fun _ q e => s4 _ _ e) g4, by rw [List.map_append]; exact same_new hp4 _ _ h3, fun q hq => by
    rcases List.mem_append.mp hq with h | h
    · exact (g6 q h).at (same_kept s4)
    · simp at h; subst h; exact hf.at (same_kept s4)⟩
  have hb4 := hb.same s4
  refine ⟨b, _, p4, rfl, S, ps, fs, hb4, hpz, fun r H5 k5 hb5 hr5 => ?_⟩
  refine ⟨_, rfl, c, _, rfl, .inr (SqT.of (hb4.but k5 _ _ trivial (s4 _ _ g5))), ?_⟩
  have e5 : (st.fc.map fun q => V.ref q.1).length = st.fc.length := by rw [List.length_map]
  show Q (V.int ((st.fc.map fun q => V.ref q.1).length : Nat)) H5
  rw [e5]
  exact q p4 r _ H5 ((same_but s4).trans k5) hb5 (hst.at (hb4.but k5)) hr5
end
end Fb
set_option maxHeartbeats 4000000
/-! Forkbeats: ties, choices. -/
namespace Fb
open PySem PySem.Spec PyProof.Rows L2
/-- the dict of the placed -/
def plD (pl : List Str) : List (Key × V) := pl.map fun z => (Sum.inr z, V.bl true)
theorem valP (pl : List Str) (z : Str) : (valV (plD pl) (Sum.inr z : Key)) = if z ∈ pl then some (.bl true) else none := by
  induction pl with
  | nil => rfl
  | cons k r ih =>
    by_cases e : k = z
    · subst e
      rw [show plD (k :: r) = (Sum.inr k, V.bl true) :: plD r from rfl, valV_pos rfl]
      simp
    · rw [show plD (k :: r) = (Sum.inr k, V.bl true) :: plD r from rfl, valV_neg (by intro q; injection q with q; exact e q), ih]
      have e2 : ¬ z = k := fun q => e q.symm
      simp [e2]
theorem plD_new {pl : List Str} {z : Str} (h : z ∉ pl) : putK (plD pl) (Sum.inr z : Key) (V.bl true) = plD (pl ++ [z]) := by
  rw [putK_new _ (by rw [valP, if_neg h])]
  simp [plD]
theorem inP {H : Hp} {d : Addr} {pl : List Str} (h : H d = some (.dK (plD pl))) (z : Str) : DGet H d (.str z) (if z ∈ pl then some (.bl true) else none) := by
  have := DGet.k (k := Sum.inr z) h
  rw [valP] at this
  exact this
theorem ifP {z : Str} {pl : List Str} {A B : Prop} (a : z ∈ pl → A) (b : z ∉ pl → B) : if (if z ∈ pl then some (V.bl true) else none : Option V).isSome = true then A else B := by
  by_cases h : z ∈ pl
  · rw [if_pos (by rw [if_pos h]; rfl)]; exact a h
  · rw [if_neg (by rw [if_neg h]; simp)]; exact b h
def tie1 (fr : Str) (pl : List Str) (q : Sk) : List (Str × Int) := if q.1 = fr ∧ q.2.1 ∈ pl then [(q.2.1, q.2.2)] else if q.2.1 = fr ∧ q.1 ∈ pl then [(q.1, q.2.2)] else []
def tiesF (fr : Str) (pl : List Str) (sk : List Sk) : List (Str × Int) := sk.flatMap (tie1 fr pl)
theorem tiesF_len (fr : Str) (pl : List Str) (sk : List Sk) : (tiesF fr pl sk).length ≤ sk.length := by
  induction sk with
  | nil => simp [tiesF]
  | cons q sk ih =>
    have : (tie1 fr pl q).length ≤ 1 := by unfold tie1; split <;> (try split) <;> simp
    simp only [tiesF, List.flatMap_cons, List.length_append, List.length_cons] at *
    omega
theorem tiesF_snoc {fr : Str} {pl : List Str} {sk : List Sk} {i : Nat} {q : Sk} (h : sk[i]? = some q) : tiesF fr pl (sk.take (i + 1)) = tiesF fr pl (sk.take i) ++ tie1 fr pl q := by
  rw [List.take_add_one, h]
  simp [tiesF]
/-- a list of ties -/
def EntL (H : Hp) (l : Addr) (ts : List (Str × Int)) : Prop := ∃ rs, H l = some (.lst (rs.map V.ref)) ∧ Paired (TupSI H) rs ts
theorem EntL.same {H H' : Hp} {l : Addr} {ts : List (Str × Int)} (h : EntL H l ts) (k : Same H H') : EntL H' l ts := by
  obtain ⟨rs, h1, h2⟩ := h
  exact ⟨rs, k _ _ h1, paired_imp (fun _ q e => k _ _ e) h2⟩
theorem EntL.but {b : Addr} {H H' : Hp} {l : Addr} {ts : List (Str × Int)} (h : EntL H l ts) (k : But b H H') (hl : l ≠ b) (hb : ∀ xs, H b ≠ some (.tup xs)) : EntL H' l ts := by
  obtain ⟨rs, h1, h2⟩ := h
  exact ⟨rs, k _ _ hl h1, paired_imp (fun y q e => k _ _ (fun z => hb _ (z ▸ e)) e) h2⟩
theorem EntL.push {H : Hp} {l t : Addr} {rs : List Addr} {ts : List (Str × Int)} {q : Str × Int} (h1 : H l = some (.lst (rs.map V.ref))) (h2 : Paired (TupSI H) rs ts) (ht : H t = none) : EntL (upd (upd H t (.tup [.str q.1, .int q.2])) l (.lst (rs.map V.ref ++ [.ref t]))) l (ts ++ [q]) := by
  have hlt : l ≠ t := ne_of_none h1 ht
  refine ⟨rs ++ [t], by rw [upd_same, List.map_append]; rfl, paired_snoc (paired_imp (fun y q e => ?_) h2) ?_⟩
  · show upd _ l _ y = _
    rw [upd_ne (ne_of e h1 (by intro z; cases z))]
    exact same_new ht _ _ e
  · show upd _ l _ t = _
    rw [upd_ne hlt.symm, upd_same]
theorem sksAt_same {H H' : Hp} {l : Addr} {sk : List Sk} (h : SksAt H l sk) (k : Same H H') : SksAt H' l sk := by
  obtain ⟨rs, h1, h2⟩ := h
  exact ⟨rs, k _ _ h1, paired_imp (fun _ q e => k _ _ e) h2⟩
section
variable {P : Program} {w : World} {K : PySem.W.Frag} {mg : Str → Option Value} {base : Heap}
def spTies : SpN := fun vs H Q => ∃ fr d l, vs = [.str fr, .ref d, .ref l] ∧ ∃ pl sk, H d = some (.dK (plD pl)) ∧ SksAt H l sk ∧ sk.length ≤ 20 ∧ ∀ r H', H r = none → Same H H' → EntL H' r (tiesF fr pl sk) → Q (.ref r) H'
theorem sc_ties : FnScope ["fresh", "placed", "strikes", "found", "a", "b", "count"] ["fresh", "placed", "strikes"] (defScope (top 48)) := ⟨rfl, rfl, rfl, by decide +kernel, rfl, by decide +kernel, by decide +kernel⟩
theorem w_ties (T : Txt P K mg) : FnN P w K mg base (0 + 1) (T.a_ties) (spTies) := by
  refine fn_mk (k := 0) (T.f_ties) sc_ties (fun _ _ _ _ _ _ us hl => match us, hl with | [_, _, _], _ => rfl) (fun vs H Q h => by obtain ⟨fr, d, l, rfl, h⟩ := h; rfl) fun cdv A outer s H vs Q hr h => ?_
  have hu := hu_of hr
  have sc := sc_ties
  obtain ⟨fr, d, l, rfl, h⟩ := h
  refine ⟨_, (pss_cons (ps_set (i := 3) sc.nd rfl (.inl rfl) (pe_lst pa_nil))
    (pss_cons (ps_for PassesOwn.never rfl (pi_list (pv 2)) (pg_tup rfl (pgs_cons (pg_name (i := 4) sc.nd rfl (.inl rfl)) (pgs_cons (pg_name (i := 5) sc.nd rfl (.inl rfl)) (pgs_cons (pg_name (i := 6) sc.nd rfl (.inl rfl)) pgs_nil))))
    (pss_one (ps_if (PW.pt (pw_and (pt_cmpR op_eq (pv 4) (pv 0) (nomark _)) (pw_and1 (pt_cmp (pc_din hu (pv 5) (pv 1))))))
    (pss_one (ps_expr (pe_bm PySem.F.plainAttrs_list PySem.F.slot_list_append PySem.F.type_list_append mt_append (pv 3) (pa_cons (pe_tup (pa_cons (pv 5) (pa_cons (pv 6) pa_nil))) pa_nil))))
    (pss_one (ps_if (PW.pt (pw_and (pt_cmpR op_eq (pv 5) (pv 0) (nomark _)) (pw_and1 (pt_cmp (pc_din hu (pv 4) (pv 1))))))
    (pss_one (ps_expr (pe_bm PySem.F.plainAttrs_list PySem.F.slot_list_append PySem.F.type_list_append mt_append (pv 3) (pa_cons (pe_tup (pa_cons (pv 4) (pa_cons (pv 6) pa_nil))) pa_nil))))
    pss_nil)))))
    (pss_one (ps_ret (pv 3))))), ?_⟩
  obtain ⟨pl, sk, hd, ⟨rs, hl, hp⟩, hz, q⟩ := h
  have hrl := Paired.length hp
  refine ⟨Nat.zero_le _, fun r hr0 => ?_⟩
  refine ⟨_, rfl, l, rfl, ⟨_, SqL.of (same_new hr0 _ _ hl)⟩, for_it (walk_list (xs := rs.map V.ref)) (fun i σ H' => Same H H' ∧ (∃ a b c, σ = [some (.str fr), some (.ref d), some (.ref l), some (.ref r), a, b, c]) ∧ EntL H' r (tiesF fr pl (sk.take i)))
    ⟨same_new hr0, ⟨_, _, _, rfl⟩, [], upd_same, .nil⟩ (fun _ _ _ _ h => SqL.of (h.1 _ _ hl)) ?_ ?_⟩
  · rintro i y σ H3 H2 hi ⟨hs2, ⟨a0, b0, c0, rfl⟩, es, he1, he2⟩ ⟨rfl, hy⟩
    obtain ⟨t, er, rfl⟩ := map_get hy
    obtain ⟨⟨qa, qb, qn⟩, eq, hr1⟩ := paired_get hp er
    have hlen : (es.map V.ref).length < sizeLine := by
      rw [List.length_map, Paired.length he2]
      refine Nat.lt_of_le_of_lt (tiesF_len ..) (Nat.lt_of_le_of_lt ?_ (by decide : 20 < sizeLine))
      rw [List.length_take]; omega
    have hdd := hs2 _ _ hd
    have e0 := tiesF_snoc (fr := fr) (pl := pl) eq
    have nope : tie1 fr pl (qa, qb, qn) = [] → EntL H2 r (tiesF fr pl (sk.take (i + 1))) := fun e => by rw [e0, e, List.append_nil]; exact ⟨es, he1, he2⟩
    have yes : ∀ z, tie1 fr pl (qa, qb, qn) = [(z, qn)] → ∀ t1, H2 t1 = none → Same H (upd (upd H2 t1 (.tup [.str z, .int qn])) r (.lst (es.map V.ref ++ [.ref t1]))) ∧ EntL (upd (upd H2 t1 (.tup [.str z, .int qn])) r (.lst (es.map V.ref ++ [.ref t1]))) r (tiesF fr pl (sk.take (i + 1))) := fun z e t1 ht1 => by
      refine ⟨same_mut (same_trans hs2 (same_new ht1)) hr0, ?_⟩
      rw [e0, e]
      exact EntL.push (q := (z, qn)) he1 he2 ht1
    refine ⟨t, _, rfl, SqT.of (hs2 _ _ hr1), rfl, _, _, rfl, _, _, rfl, _, _, rfl, rfl, ?_⟩
    refine ⟨_, rfl, _, rfl, rfl, _, rfl, ifD (fun e1 => ?_) (fun e1 => iteF ?_)⟩
    · have e1 : qa = fr := by injection e1
      refine ⟨_, rfl, _, rfl, d, _, rfl, inP hdd qb, _, rfl, ifP (fun hm => ?_) (fun hn => ?_)⟩
      · refine ⟨_, rfl, .inl ⟨rfl, _, SqL.of he1⟩, _, rfl, _, rfl, (by show 2 ≤ sizeLine; decide), fun t1 ht1 => ⟨r, _, _, rfl, rfl, same_new ht1 _ _ he1, hlen, ?_⟩⟩
        obtain ⟨y1, y2⟩ := yes qb (by simp [tie1, e1, hm]) t1 ht1
        exact ⟨y1, ⟨_, _, _, rfl⟩, y2⟩
      · refine ⟨_, rfl, _, rfl, rfl, _, rfl, ifD (fun e2 => ?_) (fun e2 => iteF ?_)⟩
        · have e2 : qb = fr := by injection e2
          refine ⟨_, rfl, _, rfl, d, _, rfl, inP hdd qa, _, rfl, ifP (fun hm => ?_) (fun hn2 => ?_)⟩
          · exact absurd hm (by rw [e1, ← e2]; exact hn)
          · exact ⟨hs2, ⟨_, _, _, rfl⟩, nope (by simp [tie1, hn, hn2])⟩
        · have e2 : ¬ qb = fr := fun z => e2 (by rw [z])
          exact ⟨hs2, ⟨_, _, _, rfl⟩, nope (by simp [tie1, hn, e2])⟩
    · have e1 : ¬ qa = fr := fun z => e1 (by rw [z])
      refine ⟨_, rfl, _, rfl, rfl, _, rfl, ifD (fun e2 => ?_) (fun e2 => iteF ?_)⟩
      · have e2 : qb = fr := by injection e2
        refine ⟨_, rfl, _, rfl, d, _, rfl, inP hdd qa, _, rfl, ifP (fun hm => ?_) (fun hn => ?_)⟩
        · refine ⟨_, rfl, .inl ⟨rfl, _, SqL.of he1⟩, _, rfl, _, rfl, (by show 2 ≤ sizeLine; decide), fun t1 ht1 => ⟨r, _, _, rfl, rfl, same_new ht1 _ _ he1, hlen, ?_⟩⟩
          obtain ⟨y1, y2⟩ := yes qa (by simp [tie1, e1, e2, hm]) t1 ht1
          exact ⟨y1, ⟨_, _, _, rfl⟩, y2⟩
        · exact ⟨hs2, ⟨_, _, _, rfl⟩, nope (by simp [tie1, e1, hn])⟩
      · have e2 : ¬ qb = fr := fun z => e2 (by rw [z])
        exact ⟨hs2, ⟨_, _, _, rfl⟩, nope (by simp [tie1, e1, e2])⟩
  · rintro σ H2 ⟨hs2, ⟨a0, b0, c0, rfl⟩, he⟩
    rw [List.length_map, hrl, List.take_length] at he
    exact ⟨_, rfl, q r H2 hr0 hs2 he⟩
end
end Fb
set_option maxHeartbeats 4000000
/-! Forkbeats: choices. -/
namespace Fb
open PySem PySem.Spec PyProof.Rows L2
theorem it_out {J : It} {n : Nat} {G : Hp → Prop} {Y : Nat → Hp → V → Hp → Prop} (w : Walk J n G Y) {B : (Hp → Prop) → V → Hp → Prop} {H0 : Hp} {Qd : Hp → Prop} (Pv : Nat → Hp → Prop) (h0 : Pv 0 H0) (hG : ∀ i H, i ≤ n → Pv i H → G H)
    (hs : ∀ i x H H', i < n → Pv i H → Y i H x H' → B (Pv (i + 1)) x H') (hd : ∀ H, Pv n H → Qd H) :
    ∃ W : Nat → Nat → Hp → Prop, (∃ m, W 0 m H0) ∧ ∀ i m H, W i m H → (J.stop i H ∧ Qd H) ∨ (J.go i H ∧ ∃ Nx : Hp → Prop, (∀ H', Nx H' → ∃ m', m' < m ∧ W (i + 1) m' H') ∧ ∀ x H', J.yld i H x H' → B Nx x H') := by
  refine ⟨fun i m H => m = n - i ∧ i ≤ n ∧ Pv i H, ⟨n, by simp, Nat.zero_le _, h0⟩, ?_⟩
  rintro i m H ⟨rfl, hi, p⟩
  have q := hG i H hi p
  by_cases hlt : i < n
  · exact .inr ⟨w.goes i H hlt q, Pv (i + 1), fun H' p' => ⟨n - (i + 1), by omega, rfl, hlt, p'⟩, fun x H' y => hs i x H H' hlt p (w.yields i H x H' hlt q y)⟩
  · have e : i = n := by omega
    subst e
    exact .inl ⟨w.stops H q, hd H p⟩
theorem sorted_ext : ∀ {l1 l2 : List Int}, l1.Pairwise (· < ·) → l2.Pairwise (· < ·) → (∀ k, k ∈ l1 ↔ k ∈ l2) → l1 = l2
  | [], [], _, _, _ => rfl
  | [], b :: l2, _, _, h => by have := (h b).mpr (List.mem_cons_self ..); cases this
  | a :: l1, [], _, _, h => by have := (h a).mp (List.mem_cons_self ..); cases this
  | a :: l1, b :: l2, h1, h2, h => by
    rw [List.pairwise_cons] at h1 h2
    have hab : a = b := by
      rcases List.mem_cons.mp ((h a).mp (List.mem_cons_self ..)) with e | e
      · exact e
      · rcases List.mem_cons.mp ((h b).mpr (List.mem_cons_self ..)) with e2 | e2
        · exact e2.symm
        · have q1 := h2.1 a e; have q2 := h1.1 b e2; omega
    subst hab
    rw [sorted_ext h1.2 h2.2 fun k => ?_]
    have := h k
    simp only [List.mem_cons] at this
    constructor
    · intro hk
      rcases this.mp (.inr hk) with e | e
      · have := h1.1 k hk; omega
      · exact e
    · intro hk
      rcases this.mpr (.inr hk) with e | e
      · have := h2.1 k hk; omega
      · exact e
def marks (c : Int) : List Int := if c = 0 then [0] else [-c, c]
theorem marks_len (c : Int) : (marks c).length ≤ 2 := by unfold marks; split <;> simp
theorem marks_pw {c : Int} (h : 0 ≤ c) : (marks c).Pairwise (· < ·) := by
  unfold marks
  split
  · simp
  · simp; omega
theorem marks_mem (c : Int) (k : Int) : k ∈ marks c ↔ k = -c ∨ k = c := by
  unfold marks
  split
  · simp; omega
  · simp
def okF (p : Int) (lv ts : List (Str × Int)) : Bool := ts.all fun q => decide (iabs (p - lvOf lv q.1) = q.2)
/-- the pitches that one fork may have -/
def choicesF (lv ts : List (Str × Int)) : List Int := match ts with
  | [] => []
  | q :: r => ((marks q.2).map fun k => lvOf lv q.1 + k).filter fun p => okF p lv (q :: r)
/-- a list of pairs (pitch, 0) -/
def PrL (H : Hp) (l : Addr) (ps : List Int) : Prop := ∃ rs, H l = some (.lst (rs.map V.ref)) ∧ Paired (fun t (p : Int) => H t = some (.tup [.int p, .int 0])) rs ps
theorem lvOf_some {lv : List (Str × Int)} {z : Str} (h : (lv.lookup z).isSome = true) : lv.lookup z = some (lvOf lv z) := by
  unfold lvOf
  cases e : lv.lookup z with
  | none => rw [e] at h; cases h
  | some v => rfl
theorem okF_snoc {p : Int} {lv ts : List (Str × Int)} {i : Nat} {q : Str × Int} (h : ts[i]? = some q) : okF p lv (ts.take (i + 1)) = (okF p lv (ts.take i) && decide (iabs (p - lvOf lv q.1) = q.2)) := by
  rw [List.take_add_one, h]
  simp [okF]
theorem okF_step {p : Int} {lv ts : List (Str × Int)} {i : Nat} {q : Str × Int} {off : Int} (h : ts[i]? = some q) (hq : 0 ≤ q.2) (ho : (off = 0 ∧ okF p lv (ts.take i) = true) ∨ (1 ≤ off ∧ okF p lv (ts.take i) = false)) :
    (iabs (iabs (p - lvOf lv q.1) - q.2) < 2 → (off + iabs (iabs (p - lvOf lv q.1) - q.2) = 0 ∧ okF p lv (ts.take (i + 1)) = true) ∨ (1 ≤ off + iabs (iabs (p - lvOf lv q.1) - q.2) ∧ okF p lv (ts.take (i + 1)) = false)) ∧
    (¬ iabs (iabs (p - lvOf lv q.1) - q.2) < 2 → okF p lv (ts.take (i + 1)) = false) := by
  rw [okF_snoc h]
  generalize iabs (p - lvOf lv q.1) = g
  by_cases e : g = q.2
  · subst e
    have e0 : iabs (q.2 - q.2) = 0 := by unfold iabs; split <;> omega
    rw [e0]
    simp
    rcases ho with ⟨h1, h2⟩ | ⟨h1, h2⟩
    · exact .inl ⟨h1, h2⟩
    · exact .inr ⟨h1, h2⟩
  · have e1 : 1 ≤ iabs (g - q.2) := by unfold iabs; split <;> omega
    simp [e]
    intro _
    rcases ho with ⟨h1, h2⟩ | ⟨h1, h2⟩ <;> omega
theorem dgetS {H : Hp} {m : Addr} {lv : List (Str × Int)} {z : Str} {v : Int} (h : H m = some (.dK (dS lv))) (e : lv.lookup z = some v) : DGet H m (.str z) (some (.int v)) := by
  have := DGet.k (k := Sum.inr z) h
  rw [valS, e] at this
  exact this
theorem PrL.push {H : Hp} {l t : Addr} {rs : List Addr} {ps : List Int} {p : Int} (h1 : H l = some (.lst (rs.map V.ref))) (h2 : Paired (fun t (p : Int) => H t = some (.tup [.int p, .int 0])) rs ps) (ht : H t = none) : PrL (upd (upd H t (.tup [.int p, .int 0])) l (.lst (rs.map V.ref ++ [.ref t]))) l (ps ++ [p]) := by
  have hlt : l ≠ t := ne_of_none h1 ht
  refine ⟨rs ++ [t], by rw [upd_same, List.map_append]; rfl, paired_snoc (paired_imp (fun y q e => ?_) h2) ?_⟩
  · show upd _ l _ y = _
    rw [upd_ne (ne_of e h1 (by intro z; cases z))]
    exact same_new ht _ _ e
  · show upd _ l _ t = _
    rw [upd_ne hlt.symm, upd_same]
section
variable {P : Program} {w : World} {K : PySem.W.Frag} {mg : Str → Option Value} {base : Heap}
def spChoices : SpN := fun vs H Q => ∃ l m, vs = [.ref l, .ref m, .int 0] ∧ ∃ ts lv, EntL H l ts ∧ ts ≠ [] ∧ ts.length ≤ 20 ∧ H m = some (.dK (dS lv)) ∧ (∀ q ∈ ts, (lv.lookup q.1).isSome = true ∧ 0 ≤ q.2 ∧ q.2 ≤ big + 1) ∧
  ∀ r H', Same H H' → PrL H' r (choicesF lv ts) → Q (.ref r) H'
theorem sc_choices : FnScope ["tied", "level", "spare", "wide", "marks", "found", "mark", "first", "count", "pitch", "off", "name", "told", "gap", "beats", "sign"] ["tied", "level", "spare"] (defScope (top 49)) := ⟨rfl, rfl, rfl, by decide +kernel, rfl, by decide +kernel, by decide +kernel⟩
theorem w_choices (T : Txt P K mg) : FnN P w K mg base (0 + 1) (T.a_choices) (spChoices) := by
  refine fn_mk (k := 0) (T.f_choices) sc_choices (fun _ _ _ _ _ _ us hl => match us, hl with | [_, _, _], _ => rfl) (fun vs H Q h => by obtain ⟨l, m, rfl, h⟩ := h; rfl) fun cdv A outer s H vs Q hr h => ?_
  have hu := hu_of hr
  have sc := sc_choices
  obtain ⟨l, m, rfl, h⟩ := h
  refine ⟨_, (pss_cons (ps_asg (pe_ix ix_list (pv 0) pe_int (fun _ _ => rfl)) (pg_tup rfl (pgs_cons (pg_name (i := 7) sc.nd rfl (.inl rfl)) (pgs_cons (pg_name (i := 8) sc.nd rfl (.inl rfl)) pgs_nil))))
    (pss_cons (ps_set (i := 3) sc.nd rfl (.inl rfl) (pe_ifExp (pt_cmpR op_gt (pv 2) pe_int (nomark _)) pe_int pe_int))
    (pss_cons (ps_set (i := 4) sc.nd rfl (.inl rfl) (pe_callB (cr_sortedSet rfl) (by rfl) T.n_sorted (by decide +kernel) (pa_cons (pe_callTy (cr_setL1 rfl) (by rfl) T.n_set (by decide +kernel) (pa_cons (pe_lc2 (own := [("beats", 14), ("sign", 15)]) (vs1 := [15]) rfl sc.nd (pi_range2 (by rfl) T.n_range (pa_cons (pe_callB (call_max2 rfl) (by rfl) T.n_max (by decide +kernel) (pa_cons pe_int (pa_cons (pe_op op_sub (pv 8) (pv 3)) pa_nil))) (pa_cons (pe_op op_add (pe_op op_add (pv 8) (pv 3)) pe_int) pa_nil))) (blkOk_by (N := ["tied", "level", "spare", "wide", "marks", "found", "mark", "first", "count", "pitch", "off", "name", "told", "gap", "beats", "sign"]) (sc := (defScope (top 49))) (by decide +kernel)) (by decide) (fun _ _ _ _ _ => (pg_name (i := 14) sc.nd rfl (.inl rfl) (.inr rfl))) (fun _ _ _ _ _ => pts_nil) (fun _ _ _ _ _ => (pi_tupc (pe_tup (pa_cons (pe_un un_neg pe_int) (pa_cons pe_int pa_nil))))) (fun _ _ _ _ _ => (pg_name (i := 15) sc.nd rfl (.inl rfl) (.inr rfl))) (fun _ _ _ _ _ => pts_nil) (fun _ _ _ _ _ => (pe_op op_mul (pv 15) (pv 14)))) pa_nil)) pa_nil)))
    (pss_cons (ps_set (i := 5) sc.nd rfl (.inl rfl) (pe_lst pa_nil))
    (pss_cons (ps_for PassesOwn.never rfl (pi_list (pv 4)) (pg_name (i := 6) sc.nd rfl (.inl rfl))
    (pss_cons (ps_set (i := 9) sc.nd rfl (.inl rfl) (pe_op op_add (pe_dget hu (pv 1) (pv 7) (fun _ _ => rfl)) (pv 6)))
    (pss_cons (ps_set (i := 10) sc.nd rfl (.inl rfl) pe_int)
    (pss_cons (ps_for PassesOwn.never rfl (pi_list (pv 0)) (pg_tup rfl (pgs_cons (pg_name (i := 11) sc.nd rfl (.inl rfl)) (pgs_cons (pg_name (i := 12) sc.nd rfl (.inl rfl)) pgs_nil)))
    (pss_cons (ps_set (i := 13) sc.nd rfl (.inl rfl) (pe_callB call_abs (by rfl) T.n_abs (by decide +kernel) (pa_cons (pe_op op_sub (pe_callB call_abs (by rfl) T.n_abs (by decide +kernel) (pa_cons (pe_op op_sub (pv 9) (pe_dget hu (pv 1) (pv 11) (fun _ _ => rfl))) pa_nil)) (pv 12)) pa_nil)))
    (pss_one (ps_set (i := 10) sc.nd rfl (.inl rfl) (pe_ifExp (pt_cmpR op_lt (pv 13) pe_int (nomark _)) (pe_op op_add (pv 10) (pv 13)) (pe_op op_add (pv 2) pe_int))))))
    (pss_one (ps_if (pt_cmpR op_le (pv 10) (pv 2) (nomark _))
    (pss_one (ps_expr (pe_bm PySem.F.plainAttrs_list PySem.F.slot_list_append PySem.F.type_list_append mt_append (pv 5) (pa_cons (pe_tup (pa_cons (pv 9) (pa_cons (pv 10) pa_nil))) pa_nil))))
    pss_nil))))))
    (pss_one (ps_ret (pv 5)))))))), ?_⟩
  obtain ⟨ts, lv, ⟨rs, hl, hp⟩, hne, hz, hm, hok, q⟩ := h
  have hrl := Paired.length hp
  obtain ⟨⟨fi, c⟩, tr, ets⟩ := List.exists_cons_of_ne_nil hne
  have e0 : ts[0]? = some (fi, c) := by rw [ets]; rfl
  obtain ⟨hfi, hc0, hc1⟩ := hok (fi, c) (by rw [ets]; simp)
  obtain ⟨t0, et0, ht0⟩ : ∃ t0, rs[0]? = some t0 ∧ TupSI H t0 (fi, c) := by
    cases hp with
    | nil => simp at ets
    | cons h1 h2 => cases ets; exact ⟨_, rfl, h1⟩
  refine ⟨_, rfl, l, _, _, .ref t0, rfl, rfl, SqL.of hl, ?_, t0, _, rfl, SqT.of ht0, rfl, _, _, rfl, _, _, rfl, rfl, ?_⟩
  · have : rs.map V.ref = .ref t0 :: (rs.map V.ref).tail := by
      cases rs with
      | nil => simp at et0
      | cons a r => simp at et0; simp [et0]
    rw [this]; exact at_zero _ _
  refine ⟨_, rfl, _, _, rfl, rfl, _, rfl, ifN (by decide) ?_⟩
  refine ⟨_, rfl, _, rfl, _, _, rfl, rfl, _, _, rfl, ?_⟩
  have ei : (if (c - 0 : Int) > 0 then c - 0 else 0) = c := by split <;> omega
  rw [ei]
  have hb : c ≤ 1000000001 := by unfold big at hc1; omega
  refine ⟨_, rfl, _, rfl, _, _, rfl, rfl, _, _, rfl, rfl, _, _, rfl, ⟨by omega, by omega, by omega, by omega⟩, fun D hD => ?_⟩
  have en : (c + 0 + 1 - c).toNat = 1 := by omega
  rw [en]
  have hDs := same_new (o := .lst []) hD
  refine it_out (walk_range (lo := c) (n := 1)) (fun i H' => Same H H' ∧ H' D = some (.lst ((if i = 0 then [] else [-1 * c, 1 * c]).map V.int))) ⟨hDs, upd_same⟩ (fun _ _ _ _ => trivial) ?_ ?_
  · rintro i x H1 H2 hi ⟨hs1, hd1⟩ ⟨rfl, rfl⟩
    obtain rfl : i = 0 := by omega
    refine ⟨rfl, _, rfl, (by show 2 ≤ sizeLine; decide), fun p hpn => ⟨p, rfl, ⟨_, SqT.of upd_same⟩, ?_⟩⟩
    have hs2 := same_trans hs1 (same_new (o := .tup [.int (-1), .int 1]) hpn)
    have hd2 := same_new (o := .tup [.int (-1), .int 1]) hpn _ _ hd1
    have hpD : p ≠ D := fun z => by rw [z, hd1] at hpn; cases hpn
    refine it_out (walk_tup (xs := [-1, 1].map V.int)) (fun j H' => Same H H' ∧ H' p = some (.tup [.int (-1), .int 1]) ∧ H' D = some (.lst (([-1 * c, 1 * c].take j).map V.int))) ⟨hs2, upd_same, hd2⟩ (fun _ _ _ h => SqT.of h.2.1) ?_ ?_
    · rintro j y H3 H4 hj ⟨hs3, hp3, hd3⟩ ⟨rfl, hy⟩
      obtain ⟨sg, es, rfl⟩ := map_get hy
      have hj2 : j < 2 := by simpa using hj
      refine ⟨rfl, _, rfl, _, rfl, _, _, rfl, rfl, ?_, _, hd3, ?_, same_mut hs3 hD, by rw [upd_ne hpD]; exact hp3, ?_⟩
      · exact .inr ⟨by omega, by omega⟩
      · rw [List.length_map, List.length_take]
        exact Nat.lt_of_le_of_lt (Nat.min_le_left _ _) (Nat.lt_trans hj2 (by decide))
      · rw [upd_same]
        have : j = 0 ∨ j = 1 := by omega
        rcases this with e | e
        · subst e; cases es; simp
        · subst e; cases es; simp
    · rintro H3 ⟨hs3, hp3, hd3⟩
      exact ⟨hs3, hd3⟩
  rintro H1 ⟨hs1, hd1⟩
  refine ⟨D, [-1 * c, 1 * c], rfl, SqL.of hd1, (by show 2 < 1000; decide), fun p1 n hp1 hn => ⟨p1, _, n, rfl, upd_same, Nat.lt_of_le_of_lt hn (by show 2 < 64; decide), fun ns p2 hpw hmem hlen hp2 => ?_⟩⟩
  obtain rfl : ns = marks c := sorted_ext hpw (marks_pw hc0) fun k => by
    rw [hmem, marks_mem]
    simp
  have hs2 : Same H _ := same_trans (same_trans hs1 (same_new (o := SetO w p1 (fun j => decide (j ∈ [-1 * c, 1 * c])) n) hp1)) (same_new (o := .lst ((marks c).map V.int)) hp2)
  have hmk : upd (upd H1 p1 (SetO w p1 (fun j => decide (j ∈ [-1 * c, 1 * c])) n)) p2 (.lst ((marks c).map V.int)) p2 = some (.lst ((marks c).map V.int)) := upd_same
  refine ⟨Nat.zero_le _, fun r hr0 => ?_⟩
  have hs3 := same_trans hs2 (same_new (o := .lst []) hr0)
  have hmk3 := same_new (o := .lst []) hr0 _ _ hmk
  have hcf : choicesF lv ts = ((marks c).map fun k => lvOf lv fi + k).filter fun p => okF p lv ts := by rw [ets]; rfl
  have hlv0 := lvOf_some hfi
  refine ⟨_, rfl, p2, rfl, ⟨_, SqL.of hmk3⟩, for_it (walk_list (xs := (marks c).map V.int)) (fun i σ H' => Same H H' ∧ (∀ x u, (upd (upd H1 p1 (SetO w p1 (fun j => decide (j ∈ [-1 * c, 1 * c])) n)) p2 (.lst ((marks c).map V.int))) x = some u → H' x = some u) ∧ (∃ a6 a9 a10 a11 a12 a13 a14 a15, σ = [some (.ref l), some (.ref m), some (.int 0), some (.int 0), some (.ref p2), some (.ref r), a6, some (.str fi), some (.int c), a9, a10, a11, a12, a13, a14, a15]) ∧ PrL H' r ((((marks c).map fun k => lvOf lv fi + k).take i).filter fun p => okF p lv ts))
    ⟨hs3, same_new hr0, ⟨_, _, _, _, _, _, _, _, rfl⟩, [], upd_same, .nil⟩ (fun _ _ _ _ h => SqL.of (h.2.1 _ _ hmk)) ?_ ?_⟩
  · rintro i x σ H4 H3 hi ⟨hs4, hk4, ⟨a6, a9, a10, a11, a12, a13, a14, a15, rfl⟩, es, he1, he2⟩ ⟨rfl, hx⟩
    obtain ⟨k, ek, rfl⟩ := map_get hx
    have hm4 := hs4 _ _ hm
    refine ⟨_, rfl, _, rfl, m, .int (lvOf lv fi), rfl, dgetS hm4 hlv0, _, rfl, _, _, rfl, rfl, ?_⟩
    refine ⟨_, rfl, l, rfl, ⟨_, SqL.of (hs4 _ _ hl)⟩, for_it (walk_list (xs := rs.map V.ref)) (fun j σ H' => H' = H3 ∧ ∃ off a11 a12 a13, σ = [some (.ref l), some (.ref m), some (.int 0), some (.int 0), some (.ref p2), some (.ref r), some (.int k), some (.str fi), some (.int c), some (.int (lvOf lv fi + k)), some (.int off), a11, a12, a13, a14, a15] ∧ ((off = 0 ∧ okF (lvOf lv fi + k) lv (ts.take j) = true) ∨ (1 ≤ off ∧ okF (lvOf lv fi + k) lv (ts.take j) = false)))
      ⟨rfl, 0, _, _, _, rfl, .inl ⟨rfl, rfl⟩⟩ (fun _ _ _ _ h => SqL.of (by rw [h.1]; exact hs4 _ _ hl)) ?_ ?_⟩
    · rintro j y σ H6 H5 hj ⟨rfl, off, b11, b12, b13, rfl, ho⟩ ⟨rfl, hy⟩
      obtain ⟨t, et, rfl⟩ := map_get hy
      obtain ⟨⟨z, n⟩, eq, htz⟩ := paired_get hp et
      obtain ⟨hz1, hn0, _⟩ := hok _ (List.mem_of_getElem? eq)
      have st := okF_step (lv := lv) eq hn0 ho
      refine ⟨t, _, rfl, SqT.of (hs4 _ _ htz), rfl, _, _, rfl, _, _, rfl, rfl, ?_⟩
      refine ⟨_, rfl, _, rfl, _, rfl, m, .int (lvOf lv z), rfl, dgetS hm4 (lvOf_some hz1), _, _, rfl, rfl, _, rfl, _, rfl, _, _, rfl, rfl, _, rfl, ?_⟩
      refine ⟨_, rfl, _, _, rfl, rfl, _, rfl, ifD (fun h => ?_) (fun h => ?_)⟩
      · exact ⟨_, rfl, _, rfl, _, _, rfl, rfl, rfl, _, _, _, _, rfl, st.1 h⟩
      · exact ⟨_, rfl, _, _, rfl, rfl, rfl, _, _, _, _, rfl, .inr ⟨by omega, st.2 h⟩⟩
    · rintro σ H5 ⟨rfl, off, b11, b12, b13, rfl, ho⟩
      rw [List.length_map, hrl, List.take_length] at ho
      have hpk : ((marks c).map fun k => lvOf lv fi + k)[i]? = some (lvOf lv fi + k) := by rw [List.getElem?_map, ek]; rfl
      refine ⟨_, rfl, _, rfl, _, _, rfl, rfl, _, rfl, ifD (fun h => ?_) (fun h => ?_)⟩
      · rcases ho with ⟨rfl, ho⟩ | ⟨h1, _⟩
        · refine ⟨_, rfl, .inl ⟨rfl, _, SqL.of he1⟩, _, rfl, _, rfl, (by show 2 ≤ sizeLine; decide), fun t1 ht1 => ⟨r, _, _, rfl, rfl, same_new ht1 _ _ he1, ?_, ?_, ?_, ⟨_, _, _, _, _, _, _, _, rfl⟩, ?_⟩⟩
          · rw [List.length_map, Paired.length he2]
            refine Nat.lt_of_le_of_lt (List.length_filter_le ..) (Nat.lt_of_le_of_lt ?_ (by decide : 2 < sizeLine))
            rw [List.length_take, List.length_map]
            exact Nat.le_trans (Nat.min_le_right _ _) (marks_len c)
          · exact same_mut (same_trans hs4 (same_new ht1)) (by
              cases e : H r with
              | none => rfl
              | some u => exact absurd ((hs2 _ _ e).symm.trans hr0) (by intro z; cases z))
          · exact same_mut (same_trans hk4 (same_new ht1)) hr0
          · rw [List.take_add_one, hpk, List.filter_append]
            have : ([lvOf lv fi + k].filter fun p => okF p lv ts) = [lvOf lv fi + k] := by simp [ho]
            simp only [Option.toList]
            rw [this]
            exact PrL.push he1 he2 ht1
        · omega
      · refine ⟨hs4, hk4, ⟨_, _, _, _, _, _, _, _, rfl⟩, ?_⟩
        rcases ho with ⟨rfl, ho⟩ | ⟨h1, ho⟩
        · omega
        · rw [List.take_add_one, hpk, List.filter_append]
          have : ([lvOf lv fi + k].filter fun p => okF p lv ts) = [] := by simp [ho]
          simp only [Option.toList]
          rw [this, List.append_nil]
          exact ⟨es, he1, he2⟩
  · rintro σ H3 ⟨hs4, hk4, ⟨a6, a9, a10, a11, a12, a13, a14, a15, rfl⟩, he⟩
    rw [List.length_map] at he
    rw [List.take_of_length_le (by simp)] at he
    rw [← hcf] at he
    exact ⟨_, rfl, q r H3 hs4 he⟩
end
end Fb
set_option maxHeartbeats 4000000
/-! Forkbeats: levels. -/
namespace Fb
open PySem PySem.Spec PyProof.Rows L2
abbrev Ent := Str × List (Str × Int)
abbrev Lvl := List (Str × Int)
/-- the levels that a row allows -/
def lev : List Ent → Lvl → List Lvl
  | [], lv => [lv]
  | e :: row, lv => match e.2 with
    | [] => lev row (lv ++ [(e.1, 0)])
    | q :: ts => (choicesF lv (q :: ts)).flatMap fun p => lev row (lv ++ [(e.1, p)])
theorem choicesF_len (lv ts : List (Str × Int)) : (choicesF lv ts).length ≤ 2 := by
  unfold choicesF
  split
  · simp
  · refine Nat.le_trans (List.length_filter_le ..) ?_
    rw [List.length_map]
    exact marks_len _
theorem flat_len {α β : Type} (f : α → List β) (n : Nat) : ∀ l : List α, (∀ x ∈ l, (f x).length ≤ n) → (l.flatMap f).length ≤ l.length * n
  | [], _ => by simp
  | x :: l, h => by
    have h1 := h x (List.mem_cons_self ..)
    have h2 := flat_len f n l fun y hy => h y (List.mem_cons_of_mem _ hy)
    rw [List.flatMap_cons, List.length_append, List.length_cons, Nat.succ_mul]
    omega
theorem lev_len : ∀ (row : List Ent) (lv : Lvl), (lev row lv).length ≤ 2 ^ row.length
  | [], _ => by simp [lev]
  | e :: row, lv => by
    have hp : 2 ^ (e :: row).length = 2 * 2 ^ row.length := by rw [List.length_cons, Nat.pow_succ]; omega
    rw [hp]
    unfold lev
    split
    · have := lev_len row (lv ++ [(e.1, 0)])
      omega
    · rename_i q ts _
      have h1 := flat_len (fun p => lev row (lv ++ [(e.1, p)])) (2 ^ row.length) (choicesF lv (q :: ts)) fun p _ => lev_len row _
      exact Nat.le_trans h1 (Nat.mul_le_mul_right _ (choicesF_len ..))
def RowOk : List Str → List Ent → Prop
  | _, [] => True
  | kn, e :: r => e.1 ∉ kn ∧ (∀ q ∈ e.2, q.1 ∈ kn ∧ 0 ≤ q.2 ∧ q.2 ≤ big + 1) ∧ e.2.length ≤ 20 ∧ RowOk (kn ++ [e.1]) r
def EntAt (H : Hp) (t : Addr) (e : Ent) : Prop := ∃ tl, H t = some (.tup [.str e.1, .ref tl]) ∧ EntL H tl e.2
def RowAt (H : Hp) (l : Addr) (row : List Ent) : Prop := ∃ rs, H l = some (.lst (rs.map V.ref)) ∧ Paired (EntAt H) rs row
theorem RowAt.same {H H' : Hp} {l : Addr} {row : List Ent} (h : RowAt H l row) (k : Same H H') : RowAt H' l row := by
  obtain ⟨rs, h1, h2⟩ := h
  exact ⟨rs, k _ _ h1, paired_imp (fun _ e ⟨tl, a, b⟩ => ⟨tl, k _ _ a, b.same k⟩) h2⟩
abbrev DAt (H : Hp) (d : Addr) (lv : Lvl) : Prop := H d = some (.dK (dS lv))
def LvL (H : Hp) (r : Addr) (lvs : List Lvl) : Prop := ∃ ds, H r = some (.lst (ds.map V.ref)) ∧ Paired (DAt H) ds lvs
theorem LvL.same {H H' : Hp} {l : Addr} {lvs : List Lvl} (h : LvL H l lvs) (k : Same H H') : LvL H' l lvs := by
  obtain ⟨rs, h1, h2⟩ := h
  exact ⟨rs, k _ _ h1, paired_imp (fun _ _ q => k _ _ q) h2⟩
theorem paired_append {α β : Type} {R : α → β → Prop} : ∀ {xs xs' : List α} {ys ys' : List β}, Paired R xs ys → Paired R xs' ys' → Paired R (xs ++ xs') (ys ++ ys')
  | _, _, _, _, .nil, h => h
  | _, _, _, _, .cons h1 h2, h => .cons h1 (paired_append h2 h)
theorem dst_heap {H : Hp} {d sub : Addr} {lv : Lvl} {z : Str} {v : Int} (hd : H d = none) (hsub : upd H d (.dK []) sub = none) (hz : z ∉ lv.map (·.1)) :
    Same H (upd (upd (upd (upd H d (.dK [])) d (.dK (dS lv))) sub (.dK [(Sum.inr z, .int v)])) d (.dK (putK (dS lv) (Sum.inr z) (.int v)))) ∧
    upd (upd (upd (upd H d (.dK [])) d (.dK (dS lv))) sub (.dK [(Sum.inr z, .int v)])) d (.dK (putK (dS lv) (Sum.inr z) (.int v))) d = some (.dK (dS (lv ++ [(z, v)]))) := by
  have hne : sub ≠ d := fun e => by rw [e, upd_same] at hsub; cases hsub
  have hs2 : upd (upd H d (.dK [])) d (.dK (dS lv)) sub = none := by rw [upd_ne hne] at hsub ⊢; rw [upd_ne hne]; exact hsub
  refine ⟨same_mut (same_trans (same_mut (same_new hd) hd) (same_new hs2)) hd, ?_⟩
  rw [upd_same, dS_new (lookup_none hz)]
section
variable {P : Program} {w : World} {K : PySem.W.Frag} {mg : Str → Option Value} {base : Heap}
def spLevels (n : Nat) : SpN := fun vs H Q => ∃ l k m, vs = [.ref l, .int ((k : Nat) : Int), .ref m, .int 0] ∧ ∃ row lv, RowAt H l row ∧ k + n = row.length ∧ row.length ≤ 12 ∧ lv.length ≤ 100 - n ∧ H m = some (.dK (dS lv)) ∧ RowOk (lv.map (·.1)) (row.drop k) ∧
  ∀ r H', Same H H' → LvL H' r (lev (row.drop k) lv) → Q (.ref r) H'
theorem sc_levels_step : FnScope ["row", "at", "level", "spare", "found", "name", "tied", "pitch", "off"] ["row", "at", "level", "spare"] (defScope (top 50)) := ⟨rfl, rfl, rfl, by decide +kernel, rfl, by decide +kernel, by decide +kernel⟩
theorem w_levels_step (T : Txt P K mg) (n : Nat) (ih : ∀ j, j + 1 = n → FnN P w K mg base (j + 2) T.a_levels (spLevels j)) : FnN P w K mg base (n+1 + 1) (T.a_levels) (spLevels n) := by
  refine fn_mk (k := n+1) (T.f_levels) sc_levels_step (fun _ _ _ _ _ _ us hl => match us, hl with | [_, _, _, _], _ => rfl) (fun vs H Q h => by obtain ⟨l, k, m, rfl, h⟩ := h; rfl) fun cdv A outer s H vs Q hr h => ?_
  have hu := hu_of hr
  have sc := sc_levels_step
  obtain ⟨l, k, m, rfl, h⟩ := h
  refine ⟨_, (pss_cons (ps_if (pt_cmpR op_eq (pv 1) (pe_callB call_len_seq (by rfl) T.n_len PySem.boot_len (pa_cons (pv 0) pa_nil)) (nomark _))
    (pss_one (ps_ret (pe_lst (pa_cons (pv 2) pa_nil))))
    pss_nil)
    (pss_cons (ps_asg (pe_ix ix_list (pv 0) (pv 1) (fun _ _ => rfl)) (pg_tup rfl (pgs_cons (pg_name (i := 5) sc.nd rfl (.inl rfl)) (pgs_cons (pg_name (i := 6) sc.nd rfl (.inl rfl)) pgs_nil))))
    (pss_cons (ps_if (pt_cmpR op_eq (pe_callB call_len_seq (by rfl) T.n_len PySem.boot_len (pa_cons (pv 6) pa_nil)) pe_int (nomark _))
    (pss_one (ps_ret (pe_cal (by rfl) (pa_cons (pv 0) (pa_cons (pe_op op_add (pv 1) pe_int) (pa_cons (pe_dst (pv 2) (pv 5) pe_int) (pa_cons (pv 3) pa_nil)))))))
    pss_nil)
    (pss_cons (ps_set (i := 4) sc.nd rfl (.inl rfl) (pe_lst pa_nil))
    (pss_cons (ps_for PassesOwn.never rfl (pi_list (pe_cal (by rfl) (pa_cons (pv 6) (pa_cons (pv 2) (pa_cons (pv 3) pa_nil))))) (pg_tup rfl (pgs_cons (pg_name (i := 7) sc.nd rfl (.inl rfl)) (pgs_cons (pg_name (i := 8) sc.nd rfl (.inl rfl)) pgs_nil)))
    (pss_one (ps_set (i := 4) sc.nd rfl (.inl rfl) (pe_op op_cat (pv 4) (pe_cal (by rfl) (pa_cons (pv 0) (pa_cons (pe_op op_add (pv 1) pe_int) (pa_cons (pe_dst (pv 2) (pv 5) (pv 7)) (pa_cons (pe_op op_sub (pv 3) (pv 8)) pa_nil)))))))))
    (pss_one (ps_ret (pv 4)))))))), ?_⟩
  obtain ⟨row, lv, ⟨rs, hl, hp⟩, hkn, hrz, hlz, hm, hok, q⟩ := h
  have hrl := Paired.length hp
  refine ⟨_, rfl, _, rfl, l, _, rfl, .inl (SqL.of hl), rfl, _, rfl, ifD (fun e => ?_) (fun e => ?_)⟩
  · have hk : k = row.length := by
      have : (k : Int) = ((rs.map V.ref).length : Nat) := by injection e
      rw [List.length_map, hrl] at this
      omega
    refine ⟨_, rfl, (by show 1 ≤ sizeLine; decide), fun r hr0 => q r _ (same_new hr0) ?_⟩
    rw [hk, List.drop_length]
    exact ⟨[m], upd_same, .cons (same_new hr0 _ _ hm) .nil⟩
  · have hk : k < row.length := by
      have : ¬ (k : Int) = ((rs.map V.ref).length : Nat) := fun h => e (by rw [h])
      rw [List.length_map, hrl] at this
      omega
    obtain ⟨⟨nm, ts⟩, erow⟩ : ∃ e, row[k]? = some e := ⟨_, List.getElem?_eq_getElem hk⟩
    obtain ⟨t, et⟩ : ∃ t, rs[k]? = some t := ⟨_, List.getElem?_eq_getElem (by omega)⟩
    obtain ⟨e', ee, tl, htt, htl⟩ := paired_get hp et
    rw [erow] at ee
    cases ee
    have hdrop : row.drop k = (nm, ts) :: row.drop (k + 1) := by
      obtain ⟨h1, h2⟩ := List.getElem?_eq_some_iff.mp erow
      rw [List.drop_eq_getElem_cons h1, h2]
    rw [hdrop] at hok q
    obtain ⟨hnm, hts, htz, hok2⟩ := hok
    obtain ⟨j, rfl⟩ : ∃ j, j + 1 = n := ⟨n - 1, by omega⟩
    have hnk : ∀ v : Int, (lv ++ [(nm, v)]).map (·.1) = lv.map (·.1) ++ [nm] := fun v => by simp
    refine ⟨_, rfl, _, rfl, l, _, _, .ref t, rfl, rfl, SqL.of hl, by rw [atI_nat]; simp [et], t, _, rfl, SqT.of htt, rfl, _, _, rfl, _, _, rfl, rfl, ?_⟩
    obtain ⟨es, hte, htp⟩ := id htl
    refine ⟨_, rfl, tl, _, rfl, .inl (SqL.of hte), rfl, _, rfl, ifD (fun e => ?_) (fun e => ?_)⟩
    · have hts0 : ts = [] := by
        have : (((es.map V.ref).length : Nat) : Int) = 0 := by injection e
        rw [List.length_map, Paired.length htp] at this
        have this2 : (ts.length : Int) = 0 := this
        exact List.eq_nil_of_length_eq_zero (by omega)
      subst hts0
      refine ⟨spLevels j, ⟨_, _, T.g_levels, T.f_levels.kp, ih j rfl, hr⟩, _, rfl, _, rfl, _, _, rfl, rfl, fun d hd => ⟨_, rfl, m, _, rfl, same_new hd _ _ hm, upd_same, ne_of_none hm hd, by simp; omega, fun sub hsub => ⟨_, rfl, Sum.inr nm, rfl, rfl, _, rfl, ?_⟩⟩⟩
      obtain ⟨s1, g1⟩ := dst_heap (v := 0) hd hsub hnm
      refine ⟨l, k + 1, d, rfl, row, lv ++ [(nm, 0)], RowAt.same ⟨rs, hl, hp⟩ s1, by omega, hrz, by simp; omega, g1, by rw [hnk]; exact hok2, fun r H' s2 hlv => q r H' (same_trans s1 s2) ?_⟩
      exact hlv
    · obtain ⟨qq, tr, hts1⟩ : ∃ qq tr, ts = qq :: tr := by
        cases ts with
        | nil =>
          cases htp
          exact absurd rfl e
        | cons a b => exact ⟨a, b, rfl⟩
      have hlev : lev ((nm, ts) :: row.drop (k + 1)) lv = (choicesF lv ts).flatMap fun p => lev (row.drop (k + 1)) (lv ++ [(nm, p)]) := by subst hts1; rfl
      refine ⟨Nat.zero_le _, fun r0 hr0 => ?_⟩
      have s0 := same_new (o := .lst []) hr0
      refine ⟨spChoices, ⟨_, 1, T.g_choices, T.f_choices.kp, w_choices T, hr.mono (by omega)⟩, _, rfl, _, rfl, _, rfl, tl, m, rfl, ts, lv, htl.same s0, by rw [hts1]; simp, htz, s0 _ _ hm, fun q hq => ⟨?_, (hts q hq).2⟩, fun rc H1 s1 hpr => ?_⟩
      · obtain ⟨v, hv⟩ := List.mem_map.mp (hts q hq).1
        cases e : lv.lookup q.1 with
        | some _ => rfl
        | none =>
          exfalso
          have := List.lookup_eq_none_iff.mp e v hv.1
          rw [hv.2] at this
          simp at this
      obtain ⟨cs, hcl, hcp⟩ := hpr
      have s01 := same_trans s0 s1
      refine ⟨rc, rfl, ⟨_, SqL.of hcl⟩, for_it (walk_list (xs := cs.map V.ref)) (fun i σ H' => Same H1 H' ∧ ∃ rf a7 a8, σ = [some (.ref l), some (.int (k : Nat)), some (.ref m), some (.int 0), some (.ref rf), some (.str nm), some (.ref tl), a7, a8] ∧ LvL H' rf (((choicesF lv ts).take i).flatMap fun p => lev (row.drop (k + 1)) (lv ++ [(nm, p)])))
        ⟨same_refl, r0, _, _, rfl, [], s1 _ _ upd_same, .nil⟩ (fun _ _ _ _ h => SqL.of (h.1 _ _ hcl)) ?_ ?_⟩
      · rintro i y σ H3 H2 hi ⟨s2, rf, a7, a8, rfl, ds, hd1, hd2⟩ ⟨rfl, hy⟩
        obtain ⟨tc, etc, rfl⟩ := map_get hy
        obtain ⟨p, ep, htc⟩ := paired_get hcp etc
        have s02 := same_trans s01 s2
        refine ⟨tc, _, rfl, SqT.of (s2 _ _ htc), rfl, _, _, rfl, _, _, rfl, rfl, ?_⟩
        refine ⟨_, rfl, spLevels j, ⟨_, _, T.g_levels, T.f_levels.kp, ih j rfl, hr⟩, _, rfl, _, rfl, _, _, rfl, rfl, fun d hd => ⟨_, rfl, m, _, rfl, same_new hd _ _ (s02 _ _ hm), upd_same, ne_of_none (s02 _ _ hm) hd, by simp; omega, fun sub hsub => ⟨_, rfl, _, rfl, Sum.inr nm, rfl, rfl, _, rfl, _, rfl, _, _, rfl, rfl, ?_⟩⟩⟩
        obtain ⟨s3, g1⟩ := dst_heap (v := p) hd hsub hnm
        refine ⟨l, k + 1, d, rfl, row, lv ++ [(nm, p)], RowAt.same ⟨rs, hl, hp⟩ (same_trans s02 s3), by omega, hrz, by simp; omega, g1, by rw [hnk]; exact hok2, fun r H' s4 hlv => ?_⟩
        obtain ⟨ds2, hd3, hd4⟩ := hlv
        have s5 := same_trans s3 s4
        have hlen : ds.length + ds2.length ≤ 100000 := by
          have z1 := Paired.length hd2
          have z2 := Paired.length hd4
          have z3 := lev_len (row.drop (k + 1)) (lv ++ [(nm, p)])
          have z4 := flat_len (fun p => lev (row.drop (k + 1)) (lv ++ [(nm, p)])) (2 ^ (row.drop (k + 1)).length) ((choicesF lv ts).take i) fun _ _ => lev_len _ _
          have z5 : ((choicesF lv ts).take i).length ≤ 2 := by rw [List.length_take]; exact Nat.le_trans (Nat.min_le_right _ _) (choicesF_len ..)
          have z6 : 2 ^ (row.drop (k + 1)).length ≤ 2 ^ 12 := Nat.pow_le_pow_right (by decide) (by rw [List.length_drop]; omega)
          have z7 := Nat.mul_le_mul z5 z6
          omega
        refine ⟨rf, r, _, _, rfl, rfl, s5 _ _ hd1, hd3, by rw [List.length_map, List.length_map]; exact sz hlen, fun p5 hp5 => ⟨same_trans s2 (same_trans s5 (same_new hp5)), p5, _, _, rfl, ?_⟩⟩
        rw [List.take_add_one, ep, List.flatMap_append]
        refine ⟨ds ++ ds2, by rw [upd_same, List.map_append], paired_append (paired_imp (fun _ _ q => same_trans s5 (same_new hp5) _ _ q) hd2) ?_⟩
        simp only [Option.toList, List.flatMap_cons, List.flatMap_nil, List.append_nil]
        exact paired_imp (fun _ _ q => same_new hp5 _ _ q) hd4
      · rintro σ H2 ⟨s2, rf, a7, a8, rfl, hlv⟩
        rw [List.length_map, Paired.length hcp, List.take_length, ← hlev] at hlv
        exact ⟨_, rfl, q rf H2 (same_trans s01 s2) hlv⟩
theorem w_levels (T : Txt P K mg) : ∀ n, FnN P w K mg base (n + 2) T.a_levels (spLevels n)
  | 0 => w_levels_step T 0 fun j h => by omega
  | n + 1 => w_levels_step T (n + 1) fun j h => by obtain rfl : j = n := by omega
                                                   exact w_levels T j
end
end Fb
set_option maxHeartbeats 4000000
/-! Forkbeats: order_of_walking. -/
namespace Fb
open PySem PySem.Spec PyProof.Rows L2
def nms (f : List Ent) : List Str := f.map (·.1)
def stepW (sk : List Sk) (f : List Ent) (q : Sk) : List Ent :=
  if q.1 ∈ nms f then (if q.2.1 ∈ nms f then f else f ++ [(q.2.1, tiesF q.2.1 (nms f ++ [q.2.1]) sk)])
  else if q.2.1 ∈ nms f then f ++ [(q.1, tiesF q.1 (nms f ++ [q.1]) sk)] else f
def passW (sk : List Sk) (f : List Ent) : List Ent := sk.foldl (stepW sk) f
def walkN (sk : List Sk) : Nat → List Ent → List Ent
  | 0, f => f
  | n + 1, f => walkN sk n (passW sk f)
def ordStep (sk : List Sk) (f : List Ent) (z : Str) : List Ent := if z ∈ nms f then f else walkN sk 20 (f ++ [(z, [])])
def orderF (fk : List Str) (sk : List Sk) : List Ent := fk.foldl (ordStep sk) []
theorem walkN_succ (sk : List Sk) (n : Nat) (f : List Ent) : walkN sk (n + 1) f = passW sk (walkN sk n f) := by
  induction n generalizing f with
  | zero => rfl
  | succ n ih => rw [walkN, ih]; rfl
theorem walkN_fix {sk : List Sk} {f : List Ent} (h : passW sk f = f) : ∀ n, walkN sk n f = f
  | 0 => rfl
  | n + 1 => by rw [walkN, h]; exact walkN_fix h n
theorem walkN_add (sk : List Sk) (m : Nat) : ∀ (n : Nat) (f : List Ent), walkN sk (n + m) f = walkN sk m (walkN sk n f)
  | 0, f => by rw [Nat.zero_add]; rfl
  | n + 1, f => by rw [show n + 1 + m = (n + m) + 1 by omega, walkN, walkN_add sk m n]; rfl
/-- names placed once, forks of the bench -/
def WOk (fk : List Str) (f : List Ent) : Prop := (nms f).Nodup ∧ ∀ z ∈ nms f, z ∈ fk
theorem WOk.len {fk : List Str} {f : List Ent} (h : WOk fk f) : f.length ≤ fk.length := by
  have := nodup_len h.1 h.2
  simpa [nms] using this
theorem WOk.snoc {fk : List Str} {f : List Ent} (h : WOk fk f) {e : Ent} (h1 : e.1 ∉ nms f) (h2 : e.1 ∈ fk) : WOk fk (f ++ [e]) := by
  obtain ⟨a, b⟩ := h
  have en : nms (f ++ [e]) = nms f ++ [e.1] := by simp [nms]
  constructor
  · rw [en, List.nodup_append]
    exact ⟨a, by simp, fun x hx y hy => by simp at hy; subst hy; exact fun z => h1 (z ▸ hx)⟩
  · intro z hz
    rw [en] at hz
    rcases List.mem_append.mp hz with h | h
    · exact b z h
    · simp at h; subst h; exact h2
theorem nms_snoc (f : List Ent) (e : Ent) : nms (f ++ [e]) = nms f ++ [e.1] := by simp [nms]
def EntN (l : Addr) (H : Hp) (t : Addr) (e : Ent) : Prop := ∃ tl, tl ≠ l ∧ H t = some (.tup [.str e.1, .ref tl]) ∧ EntL H tl e.2
def RowN (H : Hp) (l : Addr) (f : List Ent) : Prop := ∃ rs, H l = some (.lst (rs.map V.ref)) ∧ Paired (EntN l H) rs f
theorem RowN.at {H : Hp} {l : Addr} {f : List Ent} (h : RowN H l f) : RowAt H l f := by
  obtain ⟨rs, h1, h2⟩ := h
  exact ⟨rs, h1, paired_imp (fun _ _ ⟨tl, _, a, b⟩ => ⟨tl, a, b⟩) h2⟩
theorem entN_step {H H' : Hp} {l d : Addr} {xs : List V} {kv : List (Key × V)} (hl : H l = some (.lst xs)) (hd : H d = some (.dK kv)) (k : ∀ x u, x ≠ l → x ≠ d → H x = some u → H' x = some u) {t : Addr} {e : Ent} (h : EntN l H t e) : EntN l H' t e := by
  obtain ⟨tl, h1, h2, rs, h3, h4⟩ := h
  have tu : ∀ {x : Addr} {ys : List V}, H x = some (.tup ys) → H' x = some (.tup ys) := fun {x ys} q => k _ _ (ne_of q hl (by intro z; cases z)) (ne_of q hd (by intro z; cases z)) q
  exact ⟨tl, h1, tu h2, rs, k _ _ h1 (ne_of h3 hd (by intro z; cases z)) h3, paired_imp (fun _ _ q => tu q) h4⟩
theorem inPy {H : Hp} {d : Addr} {pl : List Str} (h : H d = some (.dK (plD pl))) {z : Str} (hz : z ∈ pl) : DGet H d (.str z) (some (.bl true)) := by
  have := inP h z
  rwa [if_pos hz] at this
theorem inPn {H : Hp} {d : Addr} {pl : List Str} (h : H d = some (.dK (plD pl))) {z : Str} (hz : z ∉ pl) : DGet H d (.str z) none := by
  have := inP h z
  rwa [if_neg hz] at this
theorem place_ok {H H4 : Hp} {l d t tl : Addr} {rs : List Addr} {f : List Ent} {z : Str} {ts : List (Str × Int)} (hl : H l = some (.lst (rs.map V.ref))) (hp : Paired (EntN l H) rs f) (hd : H d = some (.dK (plD (nms f)))) (hz : z ∉ nms f)
    (s4 : Same (upd H d (.dK (putK (plD (nms f)) (Sum.inr z) (.bl true)))) H4) (ht : H4 t = none) (htl : tl ≠ l) (he : EntL H4 tl ts) :
    RowN (upd (upd H4 t (.tup [.str z, .ref tl])) l (.lst (rs.map V.ref ++ [.ref t]))) l (f ++ [(z, ts)]) ∧ upd (upd H4 t (.tup [.str z, .ref tl])) l (.lst (rs.map V.ref ++ [.ref t])) d = some (.dK (plD (nms (f ++ [(z, ts)])))) ∧
    (∀ x u, x ≠ l → x ≠ d → H x = some u → upd (upd H4 t (.tup [.str z, .ref tl])) l (.lst (rs.map V.ref ++ [.ref t])) x = some u) := by
  have hld : l ≠ d := ne_of hl hd (by intro z; cases z)
  have h4l : H4 l = some (.lst (rs.map V.ref)) := s4 _ _ (by rw [upd_ne hld]; exact hl)
  have h4d : H4 d = some (.dK (plD (nms (f ++ [(z, ts)])))) := s4 _ _ (by rw [upd_same, plD_new hz, nms_snoc])
  have hlt : l ≠ t := ne_of_none h4l ht
  have k : ∀ x u, x ≠ l → x ≠ d → H x = some u → upd (upd H4 t (.tup [.str z, .ref tl])) l (.lst (rs.map V.ref ++ [.ref t])) x = some u := fun x u h1 h2 e => by
    rw [upd_ne h1]
    exact same_new ht _ _ (s4 _ _ (by rw [upd_ne h2]; exact e))
  refine ⟨⟨rs ++ [t], by rw [upd_same, List.map_append]; rfl, paired_snoc (paired_imp (fun _ _ q => entN_step hl hd k q) hp) ⟨tl, htl, ?_, ?_⟩⟩, ?_, k⟩
  · rw [upd_ne hlt.symm, upd_same]
  · refine EntL.but (b := l) (he.same (same_new ht)) (fun x u hx e => by rw [upd_ne hx]; exact e) htl fun xs e => ?_
    rw [same_new ht _ _ h4l] at e
    cases e
  · rw [upd_ne hld.symm]; exact same_new ht _ _ h4d
theorem stepW_grow (sk : List Sk) (f : List Ent) (q : Sk) : f <+: stepW sk f q := by
  unfold stepW
  split <;> split <;> first | exact List.prefix_rfl | exact List.prefix_append _ _
theorem passW_grow (sk : List Sk) : ∀ (l : List Sk) (f : List Ent), f <+: l.foldl (stepW sk) f
  | [], f => List.prefix_rfl
  | q :: l, f => (stepW_grow sk f q).trans (passW_grow sk l _)
section
variable {P : Program} {w : World} {K : PySem.W.Frag} {mg : Str → Option Value} {base : Heap}
def spOrder (T : Txt P K mg) : SpN := fun vs H Q => ∃ b, vs = [.ref b] ∧ ∃ S ps fs st, BnAt T H b S ps fs ∧ StAt T H S st ∧ st.sk.length ≤ 20 ∧ st.fk.length ≤ 10 ∧ (∀ q ∈ st.sk, q.1 ∈ st.fk ∧ q.2.1 ∈ st.fk) ∧ ∀ l H', Same H H' → RowAt H' l (orderF st.fk st.sk) → Q (.ref l) H'
theorem sc_order_of_walking : FnScope ["bench", "found", "placed", "strikes", "name", "grows", "a", "b", "count", "fresh"] ["bench"] (defScope (top 47)) := ⟨rfl, rfl, rfl, by decide +kernel, rfl, by decide +kernel, by decide +kernel⟩
theorem w_order_of_walking (T : Txt P K mg) : FnN P w K mg base (1 + 1) (T.a_order_of_walking) (spOrder T) := by
  refine fn_mk (k := 1) (T.f_order_of_walking) sc_order_of_walking (fun _ _ _ _ _ _ us hl => match us, hl with | [_], _ => rfl) (fun vs H Q h => by obtain ⟨b, rfl, h⟩ := h; rfl) fun cdv A outer s H vs Q hr h => ?_
  have hu := hu_of hr
  have sc := sc_order_of_walking
  obtain ⟨b, rfl, h⟩ := h
  refine ⟨_, (pss_cons (ps_set (i := 1) sc.nd rfl (.inl rfl) (pe_lst pa_nil))
    (pss_cons (ps_set (i := 2) sc.nd rfl (.inl rfl) pe_dnewK)
    (pss_cons (ps_set (i := 3) sc.nd rfl (.inl rfl) (pe_met0 (pv 0)))
    (pss_cons (ps_for PassesOwn.never rfl (pi_list (pe_met0 (pv 0))) (pg_name (i := 4) sc.nd rfl (.inl rfl))
    (pss_cons (ps_if (pt_cmp (pc_din hu (pv 4) (pv 2)))
    (pss_one ps_continue)
    pss_nil)
    (pss_cons (ps_dput hu (pv 2) (pv 4) pe_bl rfl)
    (pss_cons (ps_expr (pe_bm PySem.F.plainAttrs_list PySem.F.slot_list_append PySem.F.type_list_append mt_append (pv 1) (pa_cons (pe_tup (pa_cons (pv 4) (pa_cons (pe_lst pa_nil) pa_nil))) pa_nil)))
    (pss_cons (ps_set (i := 5) sc.nd rfl (.inl rfl) pe_bl)
    (pss_one (ps_while PassesOwn.never (pt_val (pv 5))
    (pss_cons (ps_set (i := 5) sc.nd rfl (.inl rfl) pe_bl)
    (pss_one (ps_for PassesOwn.never rfl (pi_list (pv 3)) (pg_tup rfl (pgs_cons (pg_name (i := 6) sc.nd rfl (.inl rfl)) (pgs_cons (pg_name (i := 7) sc.nd rfl (.inl rfl)) (pgs_cons (pg_name (i := 8) sc.nd rfl (.inl rfl)) pgs_nil))))
    (pss_one (ps_if (pt_cmpR op_ne (pe_cmp (pc_din hu (pv 6) (pv 2)) rfl) (pe_cmp (pc_din hu (pv 7) (pv 2)) rfl) (nomark _))
    (pss_cons (ps_set (i := 9) sc.nd rfl (.inl rfl) (pe_ifExp (pt_cmp (pc_din hu (pv 6) (pv 2))) (pv 7) (pv 6)))
    (pss_cons (ps_dput hu (pv 2) (pv 9) pe_bl rfl)
    (pss_cons (ps_expr (pe_bm PySem.F.plainAttrs_list PySem.F.slot_list_append PySem.F.type_list_append mt_append (pv 1) (pa_cons (pe_tup (pa_cons (pv 9) (pa_cons (pe_cal (by rfl) (pa_cons (pv 9) (pa_cons (pv 2) (pa_cons (pv 3) pa_nil)))) pa_nil))) pa_nil)))
    (pss_one (ps_set (i := 5) sc.nd rfl (.inl rfl) pe_bl)))))
    pss_nil))))))))))))
    (pss_one (ps_ret (pv 1))))))), ?_⟩
  obtain ⟨S, ps, fs, st, hb, hs, hsz, hfz, hin, q⟩ := h
  obtain ⟨dx, gs, h1, l1, l2, l3, l4, l5, l6, l7, l8, l9⟩ := hb.ins
  refine ⟨Nat.zero_le _, fun l hl d hd => ?_⟩
  have s0 : Same H (upd (upd H l (.lst [])) d (.dK [])) := same_trans (same_new hl) (same_new hd)
  have hld : l ≠ d := fun z => by rw [← z, upd_same] at hd; cases hd
  have hHd : H d = none := by rw [upd_ne hld.symm] at hd; exact hd
  refine ⟨_, rfl, b, _, dx, gs, _, rfl, s0 _ _ h1, l8, ⟨T.cl_Bench, _, 1, T.m_Bench_strikes, w_Bench_strikes T, hr⟩, b, rfl, S, ps, fs, st, hb.same s0, hs.at (same_kept s0), fun ls H1 hls s1 hsk1 => ?_⟩
  have s01 := same_trans s0 s1
  refine ⟨_, rfl, b, _, dx, gs, _, rfl, s01 _ _ h1, l7, ⟨T.cl_Bench, _, 1, T.m_Bench_forks, w_Bench_forks T, hr⟩, b, rfl, S, ps, fs, st, hb.same s01, hs.at (same_kept s01), fun lf H2 hlf s2 hlf2 => ?_⟩
  have s02 := same_trans s01 s2
  have l2l : H2 l = some (.lst []) := s2 _ _ (s1 _ _ (by rw [upd_ne hld, upd_same]))
  have d2d : H2 d = some (.dK []) := s2 _ _ (s1 _ _ upd_same)
  have hlfl : lf ≠ l := fun z => by rw [z, s1 _ _ (show upd (upd H l (.lst [])) d (.dK []) l = some (.lst []) by rw [upd_ne hld, upd_same])] at hlf; cases hlf
  have hlfd : lf ≠ d := fun z => by rw [z, s1 _ _ upd_same] at hlf; cases hlf
  have hlsl : ls ≠ l := fun z => by rw [z, show upd (upd H l (.lst [])) d (.dK []) l = some (.lst []) by rw [upd_ne hld, upd_same]] at hls; cases hls
  have hlsd : ls ≠ d := fun z => by rw [z, upd_same] at hls; cases hls
  obtain ⟨qs, hq1, hq2⟩ := sksAt_same hsk1 s2
  have hqt : ∀ {x : Addr} {ys : List V}, H2 x = some (.tup ys) → x ≠ l ∧ x ≠ d := fun {x ys} e => ⟨ne_of e l2l (by intro z; cases z), ne_of e d2d (by intro z; cases z)⟩
  have hput : ∀ H4 : Hp, (∀ x u, x ≠ l → x ≠ d → H2 x = some u → H4 x = some u) → ∀ o, SksAt (upd H4 d o) ls st.sk := fun H4 k o =>
    ⟨qs, by rw [upd_ne hlsd]; exact k _ _ hlsl hlsd hq1, paired_imp (fun y q e => by show upd H4 d o y = _; rw [upd_ne (hqt e).2]; exact k _ _ (hqt e).1 (hqt e).2 e) hq2⟩
  refine ⟨lf, rfl, ⟨_, SqL.of hlf2⟩, for_it (walk_list (xs := st.fk.map V.str)) (fun i σ H' => ∃ f a4 a5 a6 a7 a8 a9, σ = [some (.ref b), some (.ref l), some (.ref d), some (.ref ls), a4, a5, a6, a7, a8, a9] ∧ (∀ x u, x ≠ l → x ≠ d → H2 x = some u → H' x = some u) ∧ RowN H' l f ∧ H' d = some (.dK (plD (nms f))) ∧ WOk st.fk f ∧ f = (st.fk.take i).foldl (ordStep st.sk) [])
    ⟨[], _, _, _, _, _, _, rfl, fun _ _ _ _ e => e, ⟨[], l2l, .nil⟩, d2d, ⟨by simp [nms], by simp [nms]⟩, rfl⟩ (fun _ _ _ _ ⟨_, _, _, _, _, _, _, _, k, _⟩ => SqL.of (k _ _ hlfl hlfd hlf2)) ?_ ?_⟩
  · rintro i y σ H4 H3 hi ⟨f, a4, a5, a6, a7, a8, a9, rfl, k3, ⟨rs, hf1, hfp⟩, hfd, hfw, ef⟩ ⟨rfl, hy⟩
    obtain ⟨z, ez, rfl⟩ := map_get hy
    have zmem := List.mem_of_getElem? ez
    have enext : (st.fk.take (i + 1)).foldl (ordStep st.sk) [] = ordStep st.sk f z := by rw [List.take_add_one, ez, List.foldl_append, ← ef]; rfl
    refine ⟨_, rfl, _, rfl, d, _, rfl, inP hfd z, _, rfl, ifP (fun hm => ?_) (fun hn => ?_)⟩
    · exact ⟨f, _, _, _, _, _, _, rfl, k3, ⟨rs, hf1, hfp⟩, hfd, hfw, by rw [enext, ordStep, if_pos hm]⟩
    · have hfl := hfw.len
      have hfl2 : f.length < sizeLine := Nat.lt_of_le_of_lt (Nat.le_trans hfl hfz) (by decide)
      refine ⟨_, rfl, _, rfl, d, _, rfl, DPut.k (k := Sum.inr z) hfd (by rw [plD, List.length_map, nms, List.length_map]; exact hfl2), ?_⟩
      have hl4 : upd H3 d (.dK (putK (plD (nms f)) (Sum.inr z) (.bl true))) l = some (.lst (rs.map V.ref)) := by rw [upd_ne hld]; exact hf1
      refine ⟨_, rfl, .inl ⟨rfl, _, SqL.of hl4⟩, _, rfl, Nat.zero_le _, fun e he => ⟨(by show 2 ≤ sizeLine; decide), fun t1 ht1 => ⟨l, _, _, rfl, rfl, same_new ht1 _ _ (same_new he _ _ hl4), (by rw [List.length_map, Paired.length hfp]; exact hfl2), ?_⟩⟩⟩
      obtain ⟨r1, r2, r3⟩ := place_ok (ts := []) hf1 hfp hfd hn (same_new he) ht1 (fun q => by rw [q, hl4] at he; cases he) ⟨[], upd_same, .nil⟩
      have hfw0 := hfw.snoc (e := (z, [])) hn zmem
      refine ⟨fun m σ H' => ∃ g gb a6 a7 a8 a9 c, σ = [some (.ref b), some (.ref l), some (.ref d), some (.ref ls), some (.str z), some (.bl gb), a6, a7, a8, a9] ∧ (∀ x u, x ≠ l → x ≠ d → H2 x = some u → H' x = some u) ∧ RowN H' l g ∧ H' d = some (.dK (plD (nms g))) ∧ WOk st.fk g ∧ g = walkN st.sk c (f ++ [(z, [])]) ∧ (gb = true → (f ++ [(z, [])]).length + c ≤ g.length) ∧ (gb = false → passW st.sk g = g ∧ (f ++ [(z, [])]).length + c ≤ g.length + 1) ∧ m = (if gb = true then 1 else 0) + 2 * (11 - g.length),
        ⟨_, f ++ [(z, [])], true, _, _, _, _, 0, rfl, fun x u h1 h2 e => r3 x u h1 h2 (k3 x u h1 h2 e), r1, r2, hfw0, rfl, (by intro _; exact Nat.le_refl _), (by intro h; cases h), rfl⟩, ?_⟩
      rintro m σ H4 ⟨g0, gb, a6, a7, a8, a9, c, rfl, k4, hrow0, hgd0, hgw0, eg0, hgt, hgf, rfl⟩
      have hg0l := hgw0.len
      refine ⟨_, rfl, gb, rfl, ?_⟩
      cases gb with
      | false =>
        obtain ⟨hfix, hlen⟩ := hgf rfl
        refine iteF ⟨g0, _, _, _, _, _, _, rfl, k4, hrow0, hgd0, hgw0, ?_⟩
        have hc : c ≤ 20 := by rw [List.length_append] at hlen; simp at hlen; omega
        rw [enext, ordStep, if_neg hn, show 20 = c + (20 - c) by omega, walkN_add, ← eg0, walkN_fix hfix]
      | true =>
        have hlen := hgt rfl
        have hg0p : 1 ≤ g0.length := by rw [List.length_append] at hlen; simp at hlen; omega
        refine iteT ⟨fun σ' H' => ∃ m', m' < (if true = true then 1 else 0) + 2 * (11 - g0.length) ∧ ∃ g gb a6 a7 a8 a9 c, σ' = [some (.ref b), some (.ref l), some (.ref d), some (.ref ls), some (.str z), some (.bl gb), a6, a7, a8, a9] ∧ (∀ x u, x ≠ l → x ≠ d → H2 x = some u → H' x = some u) ∧ RowN H' l g ∧ H' d = some (.dK (plD (nms g))) ∧ WOk st.fk g ∧ g = walkN st.sk c (f ++ [(z, [])]) ∧ (gb = true → (f ++ [(z, [])]).length + c ≤ g.length) ∧ (gb = false → passW st.sk g = g ∧ (f ++ [(z, [])]).length + c ≤ g.length + 1) ∧ m' = (if gb = true then 1 else 0) + 2 * (11 - g.length), fun _ _ h => h, ?_⟩
        refine ⟨_, rfl, ls, rfl, ⟨_, SqL.of (k4 _ _ hlsl hlsd hq1)⟩, for_it (walk_list (xs := qs.map V.ref)) (fun j σ H' => ∃ g gb a6 a7 a8 a9, σ = [some (.ref b), some (.ref l), some (.ref d), some (.ref ls), some (.str z), some (.bl gb), a6, a7, a8, a9] ∧ (∀ x u, x ≠ l → x ≠ d → H2 x = some u → H' x = some u) ∧ RowN H' l g ∧ H' d = some (.dK (plD (nms g))) ∧ WOk st.fk g ∧ g = (st.sk.take j).foldl (stepW st.sk) g0 ∧ gb = decide (g0.length < g.length))
          ⟨g0, false, _, _, _, _, rfl, k4, hrow0, hgd0, hgw0, rfl, by simp⟩ (fun _ _ _ _ ⟨_, _, _, _, _, _, _, k, _⟩ => SqL.of (k _ _ hlsl hlsd hq1)) ?_ ?_⟩
        · rintro j y σ H5 H4 hj ⟨g, gb, b6, b7, b8, b9, rfl, k4, ⟨rs, hg1, hgp⟩, hgd, hgw, eg, egb⟩ ⟨rfl, hy⟩
          obtain ⟨t, et, rfl⟩ := map_get hy
          obtain ⟨⟨qa, qb, qn⟩, eq, htq⟩ := paired_get hq2 et
          have ht4 := k4 _ _ (hqt htq).1 (hqt htq).2 htq
          obtain ⟨ma, mb⟩ := hin _ (List.mem_of_getElem? eq)
          have hpre : g0 <+: g := by rw [eg]; exact passW_grow _ _ _
          have hgl2 : g.length < sizeLine := Nat.lt_of_le_of_lt (Nat.le_trans hgw.len hfz) (by decide)
          have hgl : (nms g).length < sizeLine := by rw [nms, List.length_map]; exact hgl2
          have enx : (st.sk.take (j + 1)).foldl (stepW st.sk) g0 = stepW st.sk g (qa, qb, qn) := by rw [List.take_add_one, eq, List.foldl_append, ← eg]; rfl
          have fin : ∀ g2 gb2 a6 a7 a8 a9 G, (∀ x u, x ≠ l → x ≠ d → H2 x = some u → G x = some u) → RowN G l g2 → G d = some (.dK (plD (nms g2))) → WOk st.fk g2 → g2 = stepW st.sk g (qa, qb, qn) → gb2 = decide (g0.length < g2.length) →
              ∃ g gb a6' a7' a8' a9', [some (V.ref b), some (.ref l), some (.ref d), some (.ref ls), some (.str z), some (.bl gb2), a6, a7, a8, a9] = [some (.ref b), some (.ref l), some (.ref d), some (.ref ls), some (.str z), some (.bl gb), a6', a7', a8', a9'] ∧ (∀ x u, x ≠ l → x ≠ d → H2 x = some u → G x = some u) ∧ RowN G l g ∧ G d = some (.dK (plD (nms g))) ∧ WOk st.fk g ∧ g = (st.sk.take (j + 1)).foldl (stepW st.sk) g0 ∧ gb = decide (g0.length < g.length) :=
            fun g2 gb2 a6 a7 a8 a9 G p1 p2 p3 p4 p5 p6 => ⟨g2, gb2, _, _, _, _, rfl, p1, p2, p3, p4, by rw [enx]; exact p5, p6⟩
          refine ⟨t, _, rfl, SqT.of ht4, rfl, _, _, rfl, _, _, rfl, _, _, rfl, rfl, ?_⟩
          by_cases ha : qa ∈ nms g
          · by_cases hb2 : qb ∈ nms g
            · exact ⟨_, rfl, _, rfl, d, _, rfl, inPy hgd ha, _, rfl, _, rfl, d, _, rfl, inPy hgd hb2, rfl, _, rfl, fin g gb _ _ _ _ _ k4 ⟨rs, hg1, hgp⟩ hgd hgw (by simp [stepW, ha, hb2]) egb⟩
            · refine ⟨_, rfl, _, rfl, d, _, rfl, inPy hgd ha, _, rfl, _, rfl, d, _, rfl, inPn hgd hb2, rfl, _, rfl, ?_⟩
              refine ⟨_, rfl, _, rfl, d, _, rfl, inPy hgd ha, _, rfl, _, rfl, ?_⟩
              have hd3 : upd H4 d (.dK (putK (plD (nms g)) (Sum.inr qb) (.bl true))) d = some (.dK (plD (nms g ++ [qb]))) := by rw [upd_same, plD_new hb2]
              have hls3 : SksAt (upd H4 d (.dK (putK (plD (nms g)) (Sum.inr qb) (.bl true)))) ls st.sk := hput H4 k4 _
              have hl3 : upd H4 d (.dK (putK (plD (nms g)) (Sum.inr qb) (.bl true))) l = some (.lst (rs.map V.ref)) := by rw [upd_ne (ne_of hg1 hgd (by intro z; cases z))]; exact hg1
              refine ⟨_, rfl, _, rfl, d, _, rfl, DPut.k (k := Sum.inr qb) hgd (by rw [plD, List.length_map]; exact hgl), ?_⟩
              refine ⟨_, rfl, .inl ⟨rfl, _, SqL.of hl3⟩, _, rfl, spTies, ⟨_, 1, T.g_ties, T.f_ties.kp, w_ties T, hr⟩, _, rfl, _, rfl, _, rfl, qb, d, ls, rfl, _, st.sk, hd3, hls3, hsz, fun rt H5 hrt s5 hent => ⟨(by show 2 ≤ sizeLine; decide), fun t1 ht1 => ⟨l, _, _, rfl, rfl, same_new ht1 _ _ (s5 _ _ hl3), (by rw [List.length_map, Paired.length hgp]; exact hgl2), ?_⟩⟩⟩
              obtain ⟨r1, r2, r3⟩ := place_ok (ts := tiesF qb (nms g ++ [qb]) st.sk) hg1 hgp hgd hb2 s5 ht1 (fun e => by rw [e, hl3] at hrt; cases hrt) hent
              exact fin _ true _ _ _ _ _ (fun x u h1 h2 e => r3 x u h1 h2 (k4 x u h1 h2 e)) r1 r2 (hgw.snoc (e := (qb, tiesF qb (nms g ++ [qb]) st.sk)) hb2 mb) (by simp [stepW, ha, hb2]) (by have := hpre.length_le; exact (decide_eq_true (by rw [List.length_append]; simp; omega)).symm)
          · by_cases hb2 : qb ∈ nms g
            · refine ⟨_, rfl, _, rfl, d, _, rfl, inPn hgd ha, _, rfl, _, rfl, d, _, rfl, inPy hgd hb2, rfl, _, rfl, ?_⟩
              refine ⟨_, rfl, _, rfl, d, _, rfl, inPn hgd ha, _, rfl, _, rfl, ?_⟩
              have hd3 : upd H4 d (.dK (putK (plD (nms g)) (Sum.inr qa) (.bl true))) d = some (.dK (plD (nms g ++ [qa]))) := by rw [upd_same, plD_new ha]
              have hls3 : SksAt (upd H4 d (.dK (putK (plD (nms g)) (Sum.inr qa) (.bl true)))) ls st.sk := hput H4 k4 _
              have hl3 : upd H4 d (.dK (putK (plD (nms g)) (Sum.inr qa) (.bl true))) l = some (.lst (rs.map V.ref)) := by rw [upd_ne (ne_of hg1 hgd (by intro z; cases z))]; exact hg1
              refine ⟨_, rfl, _, rfl, d, _, rfl, DPut.k (k := Sum.inr qa) hgd (by rw [plD, List.length_map]; exact hgl), ?_⟩
              refine ⟨_, rfl, .inl ⟨rfl, _, SqL.of hl3⟩, _, rfl, spTies, ⟨_, 1, T.g_ties, T.f_ties.kp, w_ties T, hr⟩, _, rfl, _, rfl, _, rfl, qa, d, ls, rfl, _, st.sk, hd3, hls3, hsz, fun rt H5 hrt s5 hent => ⟨(by show 2 ≤ sizeLine; decide), fun t1 ht1 => ⟨l, _, _, rfl, rfl, same_new ht1 _ _ (s5 _ _ hl3), (by rw [List.length_map, Paired.length hgp]; exact hgl2), ?_⟩⟩⟩
              obtain ⟨r1, r2, r3⟩ := place_ok (ts := tiesF qa (nms g ++ [qa]) st.sk) hg1 hgp hgd ha s5 ht1 (fun e => by rw [e, hl3] at hrt; cases hrt) hent
              exact fin _ true _ _ _ _ _ (fun x u h1 h2 e => r3 x u h1 h2 (k4 x u h1 h2 e)) r1 r2 (hgw.snoc (e := (qa, tiesF qa (nms g ++ [qa]) st.sk)) ha ma) (by simp [stepW, ha, hb2]) (by have := hpre.length_le; exact (decide_eq_true (by rw [List.length_append]; simp; omega)).symm)
            · exact ⟨_, rfl, _, rfl, d, _, rfl, inPn hgd ha, _, rfl, _, rfl, d, _, rfl, inPn hgd hb2, rfl, _, rfl, fin g gb _ _ _ _ _ k4 ⟨rs, hg1, hgp⟩ hgd hgw (by simp [stepW, ha, hb2]) egb⟩
        · rintro σ H4 ⟨g, gb, b6, b7, b8, b9, rfl, k5, hrow, hgd, hgw, eg, egb⟩
          rw [List.length_map, Paired.length hq2, List.take_length] at eg
          have eg2 : g = passW st.sk g0 := eg
          have hpre : g0 <+: g := by rw [eg]; exact passW_grow _ _ _
          have hple := hpre.length_le
          have hgl := hgw.len
          refine ⟨_, ?_, g, gb, _, _, _, _, c + 1, rfl, k5, hrow, hgd, hgw, by rw [walkN_succ, ← eg0]; exact eg2, fun h => ?_, fun h => ?_, rfl⟩
          · subst egb
            by_cases h : g0.length < g.length
            · simp [h]; omega
            · simp [h]; omega
          · subst egb
            have := of_decide_eq_true h
            omega
          · subst egb
            have := of_decide_eq_false h
            have e1 : g0 = g := hpre.eq_of_length (by omega)
            refine ⟨?_, by omega⟩
            rw [← e1]; rw [← e1] at eg2; exact eg2.symm
  · rintro σ H3 ⟨f, a4, a5, a6, a7, a8, a9, rfl, k3, hrow, hfd, hfw, ef⟩
    rw [List.length_map, List.take_length] at ef
    refine ⟨_, rfl, q l H3 (fun x u e => k3 x u (ne_of_none e hl) (ne_of_none e hHd) (s02 _ _ e)) ?_⟩
    rw [orderF, ← ef]
    exact hrow.at
end
end Fb
set_option maxHeartbeats 4000000
/-! Forkbeats: found_fittings. -/
namespace Fb
open PySem PySem.Spec PyProof.Rows L2
/-- one row of pitches, names in order -/
def rowOf (fk : List Str) (lv : Lvl) : List Int := fk.map (lvOf lv)
def keptR (fk : List Str) (fc : List (Addr × Fx)) (row : List Int) : Bool := fc.all fun q => q.2.ev (lvOf (fk.zip row))
/-- the fittings of a bench -/
def fitsF (st : St) : List (List Int) := (sortRows ((lev (orderF st.fk st.sk) []).map (rowOf st.fk))).filter (keptR st.fk st.fc)
/-- a tuple of ints -/
abbrev TupI (H : Hp) (p : Addr) (r : List Int) : Prop := H p = some (.tup (r.map V.int))
theorem paired_zip {α β : Type} {R : α → β → Prop} : ∀ {xs : List α} {ys : List β}, Paired R xs ys → ∀ z ∈ xs.zip ys, R z.1 z.2
  | _, _, .nil => by simp
  | _, _, .cons h1 h2 => by
    intro z hz
    rw [List.zip_cons_cons] at hz
    rcases List.mem_cons.mp hz with e | e
    · subst e; exact h1
    · exact paired_zip h2 z e
theorem zip_paired {α β : Type} {R : α → β → Prop} : ∀ {zs : List (α × β)}, (∀ z ∈ zs, R z.1 z.2) → Paired R (zs.map (·.1)) (zs.map (·.2))
  | [], _ => .nil
  | z :: zs, h => .cons (h z (List.mem_cons_self ..)) (zip_paired fun y hy => h y (List.mem_cons_of_mem _ hy))
theorem dp_tup {K : PySem.W.Frag} {H : Hp} {p : Addr} {r : List Int} (h : TupI H p r) : Dp K H (.ref p) (encR r) := by
  exact .tup (SqT.of h) (dp_ints r)
theorem filter_take {α : Type} {p : α → Bool} {l : List α} {i : Nat} {z : α} (h : l[i]? = some z) : (l.take (i + 1)).filter p = (l.take i).filter p ++ (if p z = true then [z] else []) := by
  rw [List.take_add_one, h, List.filter_append]
  cases e : p z <;> simp [e]
theorem TunAt.butL {H H' : Hp} {C t b : Addr} {l : List (Str × Int)} {xs : List V} (h : TunAt H C t l) (k : But b H H') (hb : H b = some (.lst xs)) : TunAt H' C t l := by
  obtain ⟨dx, T, R, ts, h1, h2, h3, h4⟩ := h
  exact ⟨dx, T, R, ts, k _ _ (ne_of h1 hb (by intro z; cases z)) h1, k _ _ (ne_of h2 hb (by intro z; cases z)) h2, paired_imp (fun _ y q => k _ _ (ne_of q hb (by intro z; cases z)) q) h3, h4⟩
section
variable {P : Program} {w : World} {K : PySem.W.Frag} {mg : Str → Option Value} {base : Heap}
/-- the walk's needs -/
structure FitOk (st : St) : Prop where
  sk : st.sk.length ≤ 20
  fk : st.fk.length ≤ 10
  ne : st.fk ≠ []
  nd : st.fk.Nodup
  nm : ∀ z ∈ st.fk, NameOk z
  inn : ∀ q ∈ st.sk, q.1 ∈ st.fk ∧ q.2.1 ∈ st.fk
  row : RowOk [] (orderF st.fk st.sk)
  len : (orderF st.fk st.sk).length ≤ 9
  all : ∀ lv ∈ lev (orderF st.fk st.sk) [], ∀ z ∈ st.fk, (lv.lookup z).isSome = true
  fcl : st.fc.length ≤ 20
  fc : ∀ q ∈ st.fc, ∀ z ∈ q.2.names, z ∈ st.fk
def spFound (T : Txt P K mg) : SpN := fun vs H Q => ∃ b, vs = [.ref b] ∧ ∃ S ps fs st, BnAt T H b S ps fs ∧ StAt T H S st ∧ FitOk st ∧
  ∀ l ts H', H l = none → Same H H' → H' l = some (.lst (ts.map V.ref)) → Paired (fun t row => TunAt H' T.C_Tuning t (st.fk.zip row)) ts (fitsF st) → ts.length ≤ 512 → Q (.ref l) H'
theorem sc_found_fittings : FnScope ["bench", "names", "facts", "found", "rows", "tunings", "row", "tuning", "level", "name", "fact"] ["bench"] (defScope (top 51)) := ⟨rfl, rfl, rfl, by decide +kernel, rfl, by decide +kernel, by decide +kernel⟩
theorem w_found_fittings (T : Txt P K mg) : FnN P w K mg base (12 + 1) (T.a_found_fittings) (spFound T) := by
  refine fn_mk (k := 12) (T.f_found_fittings) sc_found_fittings (fun _ _ _ _ _ _ us hl => match us, hl with | [_], _ => rfl) (fun vs H Q h => by obtain ⟨b, rfl, h⟩ := h; rfl) fun cdv A outer s H vs Q hr h => ?_
  have hu := hu_of hr
  have sc := sc_found_fittings
  obtain ⟨b, rfl, h⟩ := h
  refine ⟨_, (pss_cons (ps_set (i := 1) sc.nd rfl (.inr rfl) (pe_met0 (pv 0)))
    (pss_cons (ps_set (i := 2) sc.nd rfl (.inr rfl) (pe_met0 (pv 0)))
    (pss_cons (ps_set (i := 3) sc.nd rfl (.inl rfl) (pe_cal (by rfl) (pa_cons (pe_cal (by rfl) (pa_cons (pv 0) pa_nil)) (pa_cons pe_int (pa_cons pe_dnewK (pa_cons (pe_prp (pv 0) (by rfl)) pa_nil))))))
    (pss_cons (ps_set (i := 4) sc.nd rfl (.inl rfl) (pe_callB (cr_sortD alikeR depthR (hu100 hr)) (by rfl) T.n_sorted (by decide +kernel) (pa_cons (pe_lc (own := [("level", 8)]) rfl sc.nd (pi_list (pv 3)) (blkOk_by (N := ["bench", "names", "facts", "found", "rows", "tunings", "row", "tuning", "level", "name", "fact"]) (sc := (defScope (top 51))) (by decide +kernel)) (fun _ _ _ _ _ => (pg_name (i := 8) sc.nd rfl (.inr rfl) (.inl rfl))) (fun _ _ _ _ _ => pts_nil) (fun _ _ _ _ _ => (pe_callTy call_tuple_ofc (by rfl) T.n_tuple (by decide +kernel) (pa_cons (pe_lc (own := [("name", 9)]) rfl sc.nd (pi_listc (pv 1)) (blkOk_by (by kernel_rfl)) (fun _ _ _ _ _ => (pg_name (i := 9) sc.nd rfl (.inl rfl) (.inr rfl))) (fun _ _ _ _ _ => pts_nil) (fun _ _ _ _ _ => (pe_dget hu (pv 8) (pv 9) (fun _ _ => rfl)))) pa_nil)))) pa_nil)))
    (pss_cons (ps_setLc (i := 5) (own := [("row", 6)]) rfl sc.nd rfl rfl (sw_true rfl rfl rfl (by decide +kernel)) (pi_list (pv 4)) (blkOk_by (N := ["bench", "names", "facts", "found", "rows", "tunings", "row", "tuning", "level", "name", "fact"]) (sc := (defScope (top 51))) (by decide +kernel)) (fun _ _ _ _ _ => (pg_name (i := 6) sc.nd rfl (.inl rfl) (.inr rfl))) (fun _ _ _ _ _ => pts_nil) (fun _ _ _ _ _ => (pe_mkrc (by rfl) (pa_cons (pv 1) (pa_cons (pe_callTy call_list_ofc (by rfl) T.n_list (by decide +kernel) (pa_cons (pv 6) pa_nil)) pa_nil)))))
    (pss_one (ps_ret (pe_lc (own := [("tuning", 7)]) rfl sc.nd (pi_list (pv 5)) (blkOk_by (N := ["bench", "names", "facts", "found", "rows", "tunings", "row", "tuning", "level", "name", "fact"]) (sc := (defScope (top 51))) (by decide +kernel)) (fun _ _ _ _ _ => (pg_name (i := 7) sc.nd rfl (.inr rfl) (.inl rfl))) (fun _ _ _ _ _ => (pts_one (pt_val (pe_callB (cr_allc rfl) (by rfl) T.n_all (by decide +kernel) (pa_cons (pe_lc (own := [("fact", 10)]) rfl sc.nd (pi_tupc (pv 2)) (blkOk_by (by kernel_rfl)) (fun _ _ _ _ _ => (pg_name (i := 10) sc.nd rfl (.inl rfl) (.inr rfl))) (fun _ _ _ _ _ => pts_nil) (fun _ _ _ _ _ => (pe_cloc (pv 10) (pa_cons (pv 7) pa_nil)))) pa_nil))))) (fun _ _ _ _ _ => (pv 7)))))))))), ?_⟩
  obtain ⟨S, ps, fs, st, hb, hs, ok, q⟩ := h
  obtain ⟨dx, gs, h1, l1, l2, l3, l4, l5, l6, l7, l8, l9⟩ := hb.ins
  refine ⟨_, rfl, b, _, dx, gs, _, rfl, h1, l7, ⟨T.cl_Bench, _, 1, T.m_Bench_forks, w_Bench_forks T, hr.mono (by decide)⟩, b, rfl, S, ps, fs, st, hb, hs, fun ln H1 hln s1 hln1 => ?_⟩
  refine ⟨_, rfl, b, _, dx, gs, _, rfl, s1 _ _ h1, l9, ⟨T.cl_Bench, _, 1, T.m_Bench_told, w_Bench_told T, hr.mono (by decide)⟩, b, rfl, S, ps, fs, st, hb.same s1, hs.at (same_kept s1), fun tf htf hfa => ?_⟩
  refine ⟨spLevels (orderF st.fk st.sk).length, ⟨_, (orderF st.fk st.sk).length + 2, T.g_levels, T.f_levels.kp, w_levels T _, hr.mono (by have := ok.len; omega)⟩, ?_⟩
  refine ⟨spOrder T, ⟨_, 2, T.g_order_of_walking, T.f_order_of_walking.kp, w_order_of_walking T, hr.mono (by decide)⟩, _, rfl, b, rfl, S, ps, fs, st, hb.same s1, hs.at (same_kept s1), ok.sk, ok.fk, ok.inn, fun lo H2 s2 hlo => ?_⟩
  intro d hd
  have s3 := same_trans (same_trans s1 s2) (same_new (o := .dK []) hd)
  refine ⟨_, rfl, b, _, dx, gs, _, _, 1, spLimit T, rfl, s3 _ _ h1, T.cl_Bench, T.p_Bench_limit, w_Bench_limit T, hr.mono (by decide), b, rfl, S, ps, fs, st, hb.same s3, hs.at (same_kept s3), ?_⟩
  refine ⟨lo, 0, d, rfl, _, [], hlo.same (same_new hd), by omega, by have := ok.len; omega, by simp, upd_same, ok.row, fun lf H3 s4 hlf => ?_⟩
  obtain ⟨ds, hf1, hfp0⟩ := hlf
  have hfp : Paired (DAt H3) ds (lev (orderF st.fk st.sk) []) := hfp0
  have s04 := same_trans s3 s4
  have hdl : ds.length ≤ 512 := by
    rw [Paired.length hfp]
    refine Nat.le_trans (lev_len _ _) (Nat.le_trans (Nat.pow_le_pow_right (by decide) ?_) (by decide : 2 ^ 9 ≤ 512))
    exact ok.len
  have hnl : ∀ {H' : Hp}, Same H3 H' → LsT H' ln st.fk := fun {H'} k => k _ _ (s4 _ _ (same_new hd _ _ (s2 _ _ hln1)))
  refine ⟨_, rfl, lf, rfl, ⟨_, SqL.of hf1⟩, fun D hD => ?_⟩
  refine lc_it (walk_list (xs := ds.map V.ref)) (fun i H' => Same H3 H' ∧ ∃ rs, H' D = some (.lst (rs.map V.ref)) ∧ Paired (TupI H') rs (((lev (orderF st.fk st.sk) []).take i).map (rowOf st.fk))) ⟨same_new hD, [], upd_same, .nil⟩ (fun _ _ _ h => SqL.of (h.1 _ _ hf1)) ?_ ?_
  · rintro i x H5 H4 hi ⟨s5, rs, hr1, hr2⟩ ⟨rfl, hx⟩
    obtain ⟨dl, edl, rfl⟩ := map_get hx
    obtain ⟨lv, elv, hlv⟩ := paired_get hfp edl
    have hlv5 := s5 _ _ hlv
    refine ⟨rfl, _, rfl, ln, rfl, ⟨_, SqL.of (hnl s5)⟩, fun D2 hD2 => ?_⟩
    refine lc_it (walk_list (xs := st.fk.map V.str)) (fun j H' => Same H4 H' ∧ H' D2 = some (.lst (((st.fk.take j).map (lvOf lv)).map V.int))) ⟨same_new hD2, upd_same⟩ (fun _ _ _ h => SqL.of (hnl (same_trans s5 h.1))) ?_ ?_
    · rintro j y H6 H5 hj ⟨s6, hd6⟩ ⟨rfl, hy⟩
      obtain ⟨z, ez, rfl⟩ := map_get hy
      have hz := lvOf_some (ok.all lv (List.mem_of_getElem? elv) z (List.mem_of_getElem? ez))
      refine ⟨rfl, _, rfl, _, rfl, dl, .int (lvOf lv z), rfl, dgetS (s6 _ _ hlv5) hz, _, hd6, ?_, same_mut s6 hD2, ?_⟩
      · rw [List.length_map, List.length_map, List.length_take]
        exact Nat.lt_of_le_of_lt (Nat.le_trans (Nat.min_le_right _ _) ok.fk) (by decide)
      · rw [upd_same, List.take_add_one, ez]; simp
    · rintro H5 ⟨s6, hd6⟩
      rw [List.length_map, List.take_length] at hd6
      refine ⟨D2, _, rfl, .inl ⟨SqL.of hd6, fun p hp => ⟨_, same_new hp _ _ (s6 _ _ hr1), ?_, ?_, rs ++ [p], ?_, ?_⟩⟩⟩
      · rw [List.length_map, Paired.length hr2, List.length_map, List.length_take]
        refine Nat.lt_of_le_of_lt (Nat.min_le_right _ _) (Nat.lt_of_le_of_lt ?_ (by decide : 512 < sizeLine))
        rw [← Paired.length hfp]; exact hdl
      · exact same_mut (same_trans s5 (same_trans s6 (same_new hp))) hD
      · rw [upd_same, List.map_append]; rfl
      · have hDl := same_new (o := .tup ((st.fk.map (lvOf lv)).map V.int)) hp _ _ (s6 _ _ hr1)
        have hpD : p ≠ D := fun z => by rw [z, s6 _ _ hr1] at hp; cases hp
        rw [List.take_add_one, elv, List.map_append]
        refine paired_snoc (paired_imp (fun y r e => ?_) hr2) ?_
        · show upd _ D _ y = _
          rw [upd_ne (ne_of e hr1 (by intro z; cases z))]
          exact same_new hp _ _ (s6 _ _ e)
        · show upd _ D _ p = _
          rw [upd_ne hpD, upd_same]; rfl
  rintro H4 ⟨s5, rs, hr1, hr2⟩
  rw [List.length_map, Paired.length hfp, List.take_length] at hr2
  have hrl := Paired.length hr2
  have hrl2 : rs.length ≤ 512 := by rw [hrl, List.length_map, ← Paired.length hfp]; exact hdl
  have hzs1 : (rs.zip ((lev (orderF st.fk st.sk) []).map (rowOf st.fk))).map (·.1) = rs := List.map_fst_zip (by omega)
  have hzs2 : (rs.zip ((lev (orderF st.fk st.sk) []).map (rowOf st.fk))).map (·.2) = (lev (orderF st.fk st.sk) []).map (rowOf st.fk) := List.map_snd_zip (by omega)
  have hzr := paired_zip hr2
  generalize rs.zip ((lev (orderF st.fk st.sk) []).map (rowOf st.fk)) = zs at hzs1 hzs2 hzr
  have hzl : zs.length ≤ 512 := by rw [← hzs1, List.length_map] at hrl2; exact hrl2
  have hzne : ∀ z ∈ zs, z.2.length = st.fk.length := fun z hz => by
    have : z.2 ∈ (lev (orderF st.fk st.sk) []).map (rowOf st.fk) := by rw [← hzs2]; exact List.mem_map_of_mem hz
    obtain ⟨lv, _, e⟩ := List.mem_map.mp this
    rw [← e, rowOf, List.length_map]
  have hfk1 : 0 < st.fk.length := List.length_pos_iff.mpr ok.ne
  refine ⟨D, zs, rfl, SqL.of ?_, by omega, fun z hz => dp_tup (hzr z hz), ?_, fun p hp => ?_⟩
  · rw [hr1]
    have : zs.map (fun z => V.ref z.1) = rs.map V.ref := by rw [← hzs1, List.map_map]; rfl
    rw [this]
  · refine .inl fun d hd => ?_
    obtain ⟨z, hz, e⟩ := List.mem_map.mp hd
    have := hzne z hz
    cases e2 : z.2 with
    | nil => rw [e2] at this; simp at this; omega
    | cons a r => rw [← e, e2]; exact ⟨_, _, rfl⟩
  have hszp : (zs.mergeSort (PySem.W.dataLe false fun z => encR z.2)).Perm zs := List.mergeSort_perm _ _
  have hszv : (zs.mergeSort (PySem.W.dataLe false fun z => encR z.2)).map (·.2) = sortRows ((lev (orderF st.fk st.sk) []).map (rowOf st.fk)) := by
    rw [← hzs2, sortRows]
    exact List.map_mergeSort fun a _ b _ => rfl
  generalize zs.mergeSort (PySem.W.dataLe false fun z => encR z.2) = sz at hszp hszv
  have hszl : sz.length ≤ 512 := by rw [hszp.length_eq]; exact hzl
  have s6 := same_trans s5 (same_new (o := .lst (sz.map fun z => V.ref z.1)) hp)
  have hpl := same_new (o := .lst (sz.map fun z => V.ref z.1)) hp
  have hp5 : upd H4 p (.lst (sz.map fun z => V.ref z.1)) p = some (.lst (sz.map fun z => V.ref z.1)) := upd_same
  generalize upd H4 p (.lst (sz.map fun z => V.ref z.1)) = H5 at s6 hpl hp5
  refine ⟨_, rfl, p, rfl, ⟨_, SqL.of hp5⟩, fun D2 hD2 => ?_⟩
  refine lc_it (walk_list (xs := sz.map fun z => V.ref z.1)) (fun i H' => Same H5 H' ∧ ∃ ts, H' D2 = some (.lst (ts.map V.ref)) ∧ Paired (fun t row => TunAt H' T.C_Tuning t (st.fk.zip row)) ts ((sz.take i).map (·.2))) ⟨same_new hD2, [], upd_same, .nil⟩ (fun _ _ _ h => SqL.of (h.1 _ _ hp5)) ?_ ?_
  · rintro i x H7 H6 hi ⟨s7, ts, ht1, ht2⟩ ⟨rfl, hx⟩
    obtain ⟨z, ez, rfl⟩ : ∃ z, sz[i]? = some z ∧ V.ref z.1 = x := by
      rw [List.getElem?_map] at hx
      cases e : sz[i]? with
      | none => rw [e] at hx; cases hx
      | some z => rw [e] at hx; cases hx; exact ⟨z, rfl, rfl⟩
    have hzm : z ∈ zs := hszp.mem_iff.mp (List.mem_of_getElem? ez)
    have hzt : TupI H6 z.1 z.2 := s7 _ _ (hpl _ _ (hzr z hzm))
    refine ⟨rfl, T.C_Tuning, spTunInit T.C_Tuning, ⟨T.g_Tuning, _, 2, T.mk_Tuning, w_Tuning_init T, hr.mono (by decide)⟩, _, rfl, _, rfl, z.1, _, rfl, .inr (SqT.of hzt), fun l hl => ?_⟩
    intro y dy hy hdy hne
    have sl := same_new (o := .lst (z.2.map V.int)) hl
    refine ⟨y, ln, l, rfl, dy, st.fk, z.2, upd_same, new_ins hy hdy hne _ _ (hnl (same_trans s6 (same_trans s7 sl))), new_ins hy hdy hne _ _ upd_same, hzne z hzm, ok.nd, ok.nm, Nat.le_trans ok.fk (by decide), fun H' k htun => ⟨rfl, ?_⟩⟩
    have s8 := same_trans sl (out_same hy hdy hne k)
    refine ⟨_, s8 _ _ ht1, ?_, same_mut (same_trans s7 s8) hD2, ts ++ [y], ?_, ?_⟩
    · rw [List.length_map, Paired.length ht2, List.length_map, List.length_take]
      exact Nat.lt_of_le_of_lt (Nat.le_trans (Nat.min_le_right _ _) hszl) (by decide)
    · rw [upd_same, List.map_append]; rfl
    · have hD2' := s8 _ _ ht1
      have kb : But D2 H' (upd H' D2 (.lst (ts.map V.ref ++ [.ref y]))) := fun a u ha e => by rw [upd_ne ha]; exact e
      rw [List.take_add_one, ez, List.map_append]
      exact paired_snoc (paired_imp (fun _ _ e => (e.same s8).butL kb hD2') ht2) (htun.butL kb hD2')
  rintro H6 ⟨s7, ts, ht1, ht2⟩
  rw [List.length_map, List.take_length, hszv] at ht2
  have hrwl : ∀ row ∈ sortRows ((lev (orderF st.fk st.sk) []).map (rowOf st.fk)), row.length = st.fk.length := fun row hm => by
    rw [← hszv] at hm
    obtain ⟨z, hz, e⟩ := List.mem_map.mp hm
    rw [← e]; exact hzne z (hszp.mem_iff.mp hz)
  have htl := Paired.length ht2
  have htl2 : ts.length ≤ 512 := by rw [htl, ← hszv, List.length_map]; exact hszl
  have hfit : fitsF st = (sortRows ((lev (orderF st.fk st.sk) []).map (rowOf st.fk))).filter (keptR st.fk st.fc) := rfl
  generalize sortRows ((lev (orderF st.fk st.sk) []).map (rowOf st.fk)) = rws at ht2 hrwl hfit htl
  have hz1 : (ts.zip rws).map (·.1) = ts := List.map_fst_zip (by omega)
  have hz2 : (ts.zip rws).map (·.2) = rws := List.map_snd_zip (by omega)
  have hzp := paired_zip ht2
  generalize ts.zip rws = zt at hz1 hz2 hzp
  have hztl : zt.length ≤ 512 := by rw [← hz1, List.length_map] at htl2; exact htl2
  have s06 : Same H H6 := same_trans s04 (same_trans s6 s7)
  have s16 : Same H1 H6 := same_trans s2 (same_trans (same_new hd) (same_trans s4 (same_trans s6 s7)))
  refine ⟨_, rfl, D2, rfl, ⟨_, SqL.of ht1⟩, fun D3 hD3 => ?_⟩
  have hD3H : H D3 = none := by
    cases e : H D3 with
    | none => rfl
    | some u => exact absurd ((s06 _ _ e).symm.trans hD3) (by intro z; cases z)
  refine lc_it (walk_list (xs := ts.map V.ref)) (fun i H' => Same H6 H' ∧ H' D3 = some (.lst ((((zt.take i).filter fun z => keptR st.fk st.fc z.2).map (·.1)).map V.ref))) ⟨same_new hD3, upd_same⟩ (fun _ _ _ h => SqL.of (h.1 _ _ ht1)) ?_ ?_
  · rintro i x H8 H7 hi ⟨s8, hr8⟩ ⟨rfl, hx⟩
    obtain ⟨t, et, rfl⟩ := map_get hx
    obtain ⟨⟨t', row⟩, ezt, rfl⟩ : ∃ z, zt[i]? = some z ∧ z.1 = t := by
      rw [← hz1, List.getElem?_map] at et
      cases e : zt[i]? with
      | none => rw [e] at et; cases et
      | some z => rw [e] at et; cases et; exact ⟨z, rfl, rfl⟩
    have hzm := List.mem_of_getElem? ezt
    have htun : TunAt H7 T.C_Tuning t' (st.fk.zip row) := (hzp _ hzm).same s8
    have hrow : row.length = st.fk.length := hrwl row (by rw [← hz2]; exact List.mem_map_of_mem hzm)
    have hloc : ∀ z ∈ st.fk, ((st.fk.zip row).lookup z).isSome = true := fun z hz => by
      cases e : (st.fk.zip row).lookup z with
      | some _ => rfl
      | none =>
        exfalso
        have hm : z ∈ (st.fk.zip row).map (·.1) := by rw [zip_fst hrow]; exact hz
        obtain ⟨v, hv, e2⟩ := List.mem_map.mp hm
        have := List.lookup_eq_none_iff.mp e v hv
        rw [e2] at this
        simp at this
    have s17 := same_trans s16 s8
    refine ⟨rfl, _, rfl, tf, rfl, ⟨_, SqT.of (s17 _ _ htf)⟩, fun D4 hD4 => ?_⟩
    refine lc_it (walk_tup (xs := st.fc.map fun q => V.ref q.1)) (fun j H' => Same H7 H' ∧ H' D4 = some (.lst (((st.fc.take j).map fun q => q.2.ev (lvOf (st.fk.zip row))).map V.bl))) ⟨same_new hD4, upd_same⟩ (fun _ _ _ h => SqT.of (h.1 _ _ (s17 _ _ htf))) ?_ ?_
    · rintro j y H9 H8 hj ⟨s9, hr9⟩ ⟨rfl, hy⟩
      obtain ⟨⟨fa, x⟩, efc, rfl⟩ : ∃ q, st.fc[j]? = some q ∧ V.ref q.1 = y := by
        rw [List.getElem?_map] at hy
        cases e : st.fc[j]? with
        | none => rw [e] at hy; cases hy
        | some q => rw [e] at hy; cases hy; exact ⟨q, rfl, rfl⟩
      have hfm := List.mem_of_getElem? efc
      have hf8 : FactAt T H8 fa x := (hfa _ hfm).at (same_kept (same_trans s17 s9))
      obtain ⟨ka, fc⟩ := x.fact T
      obtain ⟨df, ff, f1, _⟩ := hf8.hd
      refine ⟨rfl, _, rfl, fa, x.cls T, spKept T x, rfl, ⟨_, 6, fc.call, w_Fact_call T, hr.mono (by decide)⟩, _, rfl, ⟨df, ff, f1⟩, fa, t', rfl, _, hf8, htun.same s9, fun z hz => hloc z (ok.fc _ hfm z hz), fun H9 s10 => ?_⟩
      refine ⟨_, s10 _ _ hr9, ?_, same_mut (same_trans s9 s10) hD4, ?_⟩
      · rw [List.length_map, List.length_map, List.length_take]
        exact Nat.lt_of_le_of_lt (Nat.min_le_right _ _) (Nat.lt_of_le_of_lt ok.fcl (by decide))
      · rw [upd_same, List.take_add_one, efc]; simp
    · rintro H8 ⟨s9, hr9⟩
      rw [List.length_map, List.take_length] at hr9
      refine ⟨D4, _, rfl, SqL.of hr9, _, rfl, ?_⟩
      have e1 : ((st.fc.map fun q => q.2.ev (lvOf (st.fk.zip row))).all id) = keptR st.fk st.fc row := by rw [keptR, List.all_map]; rfl
      rw [e1]
      have etake : (zt.take (i + 1)).filter (fun z => keptR st.fk st.fc z.2) = (zt.take i).filter (fun z => keptR st.fk st.fc z.2) ++ (if keptR st.fk st.fc row = true then [(t', row)] else []) := by
        exact filter_take ezt
      cases ek : keptR st.fk st.fc row with
      | true =>
        rw [ek] at etake
        refine iteT ⟨_, rfl, _, s9 _ _ hr8, ?_, same_mut (same_trans s8 s9) hD3, ?_⟩
        · rw [List.length_map, List.length_map]
          refine Nat.lt_of_le_of_lt (List.length_filter_le ..) (Nat.lt_of_le_of_lt ?_ (by decide : 512 < sizeLine))
          rw [List.length_take]; exact Nat.le_trans (Nat.min_le_right _ _) hztl
        · rw [upd_same, etake]; simp
      | false =>
        rw [ek] at etake
        refine iteF ⟨same_trans s8 s9, ?_⟩
        rw [etake]; simp
        simpa using s9 _ _ hr8
  · rintro H7 ⟨s8, hr8⟩
    have e3 : (ts.map V.ref).length = zt.length := by rw [List.length_map, ← hz1, List.length_map]
    rw [e3, List.take_length] at hr8
    refine q D3 _ H7 hD3H (same_trans s06 s8) hr8 ?_ ?_
    · rw [hfit, ← hz2]
      have : (zt.map (·.2)).filter (keptR st.fk st.fc) = (zt.filter fun z => keptR st.fk st.fc z.2).map (·.2) := by rw [List.filter_map]; rfl
      rw [this]
      exact zip_paired fun z hz => (hzp z (List.mem_filter.mp hz).1).same s8
    · rw [List.length_map]; exact Nat.le_trans (List.length_filter_le ..) hztl
end
end Fb
set_option maxHeartbeats 4000000
/-! Forkbeats: the pitches of all fittings; their count. -/
namespace Fb
open PySem PySem.Spec PyProof.Rows L2
theorem fits_len {st : St} : ∀ row ∈ fitsF st, row.length = st.fk.length := fun row hm => by
  have h := (List.mem_filter.mp hm).1
  rw [sortRows, (List.mergeSort_perm _ _).mem_iff] at h
  obtain ⟨lv, _, e⟩ := List.mem_map.mp h
  rw [← e, rowOf, List.length_map]
theorem paired_mapr {α β γ : Type} {R : α → γ → Prop} {f : β → γ} : ∀ {xs : List α} {ys : List β}, Paired (fun x y => R x (f y)) xs ys → Paired R xs (ys.map f)
  | _, _, .nil => .nil
  | _, _, .cons h1 h2 => .cons h1 (paired_mapr h2)
theorem paired_unmap {α β γ : Type} {R : α → γ → Prop} {f : β → γ} : ∀ {xs : List α} {ys : List β}, Paired R xs (ys.map f) → Paired (fun x y => R x (f y)) xs ys
  | [], [], _ => .nil
  | _ :: _, [], h => by cases h
  | [], _ :: _, h => by cases h
  | x :: xs, y :: ys, h => by
    rw [List.map_cons] at h
    cases h with
    | cons h1 h2 => exact .cons h1 (paired_unmap h2)
theorem paired_mem {α β : Type} {R S : α → β → Prop} : ∀ {xs : List α} {ys : List β}, Paired R xs ys → (∀ x, ∀ y ∈ ys, R x y → S x y) → Paired S xs ys
  | _, _, .nil, _ => .nil
  | _, _, .cons h1 h2, h => .cons (h _ _ (List.mem_cons_self ..) h1) (paired_mem h2 fun x y hy => h x y (List.mem_cons_of_mem _ hy))
section
variable {P : Program} {w : World} {K : PySem.W.Frag} {mg : Str → Option Value} {base : Heap}
def spPitches (T : Txt P K mg) : SpN := fun vs H Q => ∃ b, vs = [.ref b] ∧ ∃ S ps fs st, BnAt T H b S ps fs ∧ StAt T H S st ∧ FitOk st ∧
  ∀ l ts H', H l = none → Same H H' → H' l = some (.lst (ts.map V.ref)) → Paired (TupI H') ts (fitsF st) → ts.length ≤ 512 → Q (.ref l) H'
theorem sc__law_pitches : FnScope ["_law_bench_here", "_law_found", "_law_one"] ["_law_bench_here"] (defScope (top 76)) := ⟨rfl, rfl, rfl, by decide +kernel, rfl, by decide +kernel, by decide +kernel⟩
theorem w__law_pitches (T : Txt P K mg) : FnN P w K mg base (15 + 1) (T.a__law_pitches) (spPitches T) := by
  refine fn_mk (k := 15) (T.f__law_pitches) sc__law_pitches (fun _ _ _ _ _ _ us hl => match us, hl with | [_], _ => rfl) (fun vs H Q h => by obtain ⟨b, rfl, h⟩ := h; rfl) fun cdv A outer s H vs Q hr h => ?_
  have hu := hu_of hr
  have sc := sc__law_pitches
  obtain ⟨b, rfl, h⟩ := h
  refine ⟨_, (pss_cons (ps_set (i := 1) sc.nd rfl (.inl rfl) (pe_lst pa_nil))
    (pss_cons (ps_pit PassesOwn.never sc.nd rfl rfl rfl rfl rfl rfl (by rfl) rfl rfl rfl rfl (fun _ => rfl))
    (pss_one (ps_ret (pv 1))))), ?_⟩
  obtain ⟨S, ps, fs, st, hb, hs, ok, q⟩ := h
  refine ⟨Nat.zero_le _, fun l0 hl0 => ?_⟩
  have s0 := same_new (o := .lst []) hl0
  refine ⟨b, l0, T.C_Tuning, spFound T, T.a_fittings, T.a_found_fittings, T.a_Tuning_pitches, 13, ⟨T.g_fittings, T.f_fittings.kp, T.f_fittings, T.g_found_fittings, T.f_found_fittings.kp, w_found_fittings T, hr, T.cl_Tuning, T.n_Tuning_level, T.m_Tuning_pitches, T.f_Tuning_pitches, T.n_tuple⟩, by decide, rfl, rfl, ?_⟩
  refine ⟨b, rfl, S, ps, fs, st, hb.same s0, hs.at (same_kept s0), ok, fun l ts H1 hl s1 hl1 hp hz => ?_⟩
  have hll : l ≠ l0 := fun z => by rw [z, upd_same] at hl; cases hl
  refine ⟨l, _, rfl, hl1, ts, (fitsF st).map st.fk.zip, rfl, s1 _ _ upd_same, hll, paired_mapr (paired_imp (fun _ _ e => e.tunP) hp), by omega, fun σ' H2 ps2 k2 hl2 hp2 e0 e1 => ?_⟩
  refine ⟨_, e1, q l0 ps2 H2 hl0 (fun x u e => k2 x u (ne_of_none e hl0) (s1 _ _ (s0 _ _ e))) hl2 (paired_mem (paired_unmap hp2) fun p row hm h => ?_) ?_⟩
  · show H2 p = _
    have e2 : (st.fk.zip row).map (·.2) = row := List.map_snd_zip (by have := fits_len row hm; omega)
    have h : H2 p = some (.tup ((st.fk.zip row).map fun q => V.int q.2)) := h
    rw [h]
    have : ((st.fk.zip row).map fun q => V.int q.2) = ((st.fk.zip row).map (·.2)).map V.int := by rw [List.map_map]; rfl
    rw [this, e2]
  · rw [Paired.length hp2, List.length_map, ← Paired.length hp]; exact hz
def spCount (T : Txt P K mg) : SpN := fun vs H Q => ∃ b, vs = [.ref b] ∧ ∃ S ps fs st, BnAt T H b S ps fs ∧ StAt T H S st ∧ FitOk st ∧ ∀ H', Same H H' → Q (.int (fitsF st).length) H'
theorem sc_count_fittings : FnScope ["bench"] ["bench"] (defScope (top 53)) := ⟨rfl, rfl, rfl, by decide +kernel, rfl, by decide +kernel, by decide +kernel⟩
theorem w_count_fittings (T : Txt P K mg) : FnN P w K mg base (13 + 1) (T.a_count_fittings) (spCount T) := by
  refine fn_mk (k := 13) (T.f_count_fittings) sc_count_fittings (fun _ _ _ _ _ _ us hl => match us, hl with | [_], _ => rfl) (fun vs H Q h => by obtain ⟨b, rfl, h⟩ := h; rfl) fun cdv A outer s H vs Q hr h => ?_
  have hu := hu_of hr
  have sc := sc_count_fittings
  obtain ⟨b, rfl, h⟩ := h
  refine ⟨_, (pss_one (ps_ret (pe_callB call_len_seq (by rfl) T.n_len PySem.boot_len (pa_cons (pe_cal (by rfl) (pa_cons (pv 0) pa_nil)) pa_nil)))), ?_⟩
  obtain ⟨S, ps, fs, st, hb, hs, ok, q⟩ := h
  refine ⟨spFound T, ⟨_, 13, T.g_found_fittings, T.f_found_fittings.kp, w_found_fittings T, hr⟩, _, rfl, b, rfl, S, ps, fs, st, hb, hs, ok, fun l ts H1 hl s1 hl1 hp hz => ?_⟩
  refine ⟨l, _, rfl, .inl (SqL.of hl1), ?_⟩
  have := q H1 s1
  rw [← Paired.length hp] at this
  rw [List.length_map]
  exact this
end
end Fb
set_option maxHeartbeats 4000000
/-! Forkbeats: Blocks, the state; made; close. -/
namespace Fb
open PySem PySem.Spec PyProof.Rows L2
/-- the order dict: each name's place -/
def ordL (od : List Str) : List (Str × Int) := od.zipIdx.map fun p => (p.1, (p.2 : Int))
theorem ordL_len (od : List Str) : (ordL od).length = od.length := by simp [ordL]
theorem ordL_fst (od : List Str) : (ordL od).map (·.1) = od := by
  rw [ordL, List.map_map]
  exact List.zipIdx_map_fst 0 od
theorem ordL_snoc (od : List Str) (z : Str) : ordL (od ++ [z]) = ordL od ++ [(z, (od.length : Int))] := by
  simp [ordL, List.zipIdx_append]
theorem ordL_get {od : List Str} {z : Str} (h : z ∈ od) : ((ordL od).lookup z).isSome = true := by
  cases e : (ordL od).lookup z with
  | some _ => rfl
  | none =>
    have hm : z ∈ (ordL od).map (·.1) := by rw [ordL_fst]; exact h
    obtain ⟨v, hv, e2⟩ := List.mem_map.mp hm
    have := List.lookup_eq_none_iff.mp e v hv
    rw [e2] at this
    simp at this
def ord (od : List Str) (z : Str) : Int := lvOf (ordL od) z
theorem ord_some {od : List Str} {z : Str} (h : z ∈ od) : (ordL od).lookup z = some (ord od z) := lvOf_some (ordL_get h)
theorem ord_lt {od : List Str} {z : Str} (h : z ∈ od) : ord od z < od.length := by
  have h1 := ord_some h
  have : (z, ord od z) ∈ ordL od := PySem.mem_of_lookup h1
  obtain ⟨⟨a, i⟩, hp, e⟩ := List.mem_map.mp this
  have e2 : (i : Int) = ord od z := congrArg Prod.snd e
  have := List.mem_zipIdx hp
  simp at this
  omega
theorem ord_last {od : List Str} {z : Str} (h : z ∉ od) : ord (od ++ [z]) z = od.length := by
  unfold ord lvOf
  rw [ordL_snoc, List.lookup_append, lookup_none (by rw [ordL_fst]; exact h)]
  simp [List.lookup]
theorem ord_ext {od od' : List Str} (hp : od <+: od') {z : Str} (h : z ∈ od) : ord od' z = ord od z := by
  obtain ⟨t, rfl⟩ := hp
  unfold ord lvOf
  have : ordL (od ++ t) = ordL od ++ (t.zipIdx od.length).map (fun p => (p.1, (p.2 : Int))) := by simp [ordL, List.zipIdx_append]
  rw [this, List.lookup_append, ord_some h]
  rfl
structure Bs where
  od : List Str
  lw : Str → Option Int
  sk : List Nat
  fo : List (List Int)
def nV (l : List Nat) : List V := l.map fun e : Nat => V.int (e : Int)
def LowAt (H : Hp) (lo : Addr) (lw : Str → Option Int) (m : Nat) : Prop := ∃ kvs, H lo = some (.dK kvs) ∧ (∀ z, valV kvs (Sum.inr z : Key) = (lw z).map V.int) ∧ kvs.length ≤ m
theorem LowAt.get {H : Hp} {lo : Addr} {lw : Str → Option Int} {m : Nat} (h : LowAt H lo lw m) {z : Str} {v : Int} (e : lw z = some v) : DGet H lo (.str z) (some (.int v)) := by
  obtain ⟨kvs, h1, h2, _⟩ := h
  have := DGet.k (k := Sum.inr z) h1
  rw [h2, e] at this
  exact this
def setW (lw : Str → Option Int) (z : Str) (v : Int) : Str → Option Int := fun y => if y = z then some v else lw y
theorem length_putK_old {kvs : List (Key × V)} {k : Key} {v : V} (h : valV kvs k ≠ none) : (putK kvs k v).length = kvs.length := by
  unfold putK
  rw [if_pos (by rw [valV_any]; cases e : valV kvs k with | none => exact absurd e h | some _ => rfl), List.length_map]
theorem setW_val {kvs : List (Key × V)} {lw : Str → Option Int} (h : ∀ z, valV kvs (Sum.inr z : Key) = (lw z).map V.int) (z : Str) (v : Int) : ∀ y, valV (putK kvs (Sum.inr z) (.int v)) (Sum.inr y : Key) = (setW lw z v y).map V.int := fun y => by
  rw [valV_put]
  by_cases e : y = z
  · subst e; simp [setW]
  · have : ¬ (Sum.inr y : Key) = Sum.inr z := fun q => e (by injection q)
    rw [if_neg this, h, setW, if_neg e]
theorem cut_from {xs : List V} {i : Nat} (h : i ≤ xs.length) : cutV xs (some (i : Int)) none = xs.drop i := by
  unfold cutV
  rw [HT.sIx_none, HT.sIx_nat, Nat.min_eq_left h, List.take_of_length_le (by rw [List.length_drop]; omega)]
section
variable {P : Program} {w : World} {K : PySem.W.Frag} {mg : Str → Option Value} {base : Heap}
/-- the search at bl: its state, all that stood before stands (H0) -/
structure BkP (T : Txt P K mg) (H0 : Hp) (bl ls : Addr) (H : Hp) (s : Bs) (dx d lo st fo : Addr) (rs : List Addr) : Prop where
  p_same : Same H0 H
  p_ins : H bl = some (.ins T.C_Blocks dx [("struck", .ref ls), ("order", .ref d), ("low", .ref lo), ("stack", .ref st), ("found", .ref fo)])
  p_nbl : H0 bl = none
  p_nd : H0 d = none
  p_nlo : H0 lo = none
  p_nst : H0 st = none
  p_nfo : H0 fo = none
  p_od : H d = some (.dK (dS (ordL s.od)))
  p_lw : LowAt H lo s.lw s.od.length
  p_dlo : d ≠ lo
  p_sk : H st = some (.lst (nV s.sk))
  p_stfo : st ≠ fo
  p_fo : H fo = some (.lst (rs.map V.ref))
  p_rs : Paired (fun r (b : List Int) => r ≠ st ∧ r ≠ fo ∧ H0 r = none ∧ H r = some (.lst (b.map V.int))) rs s.fo
def BkAt (T : Txt P K mg) (H0 : Hp) (bl ls : Addr) (H : Hp) (s : Bs) : Prop := ∃ dx d lo st fo rs, BkP T H0 bl ls H s dx d lo st fo rs
theorem BkP.step {T : Txt P K mg} {H0 : Hp} {bl ls : Addr} {H H' : Hp} {s : Bs} {dx d lo st fo : Addr} {rs : List Addr} (h : BkP T H0 bl ls H s dx d lo st fo rs) (k : Same H H') : BkP T H0 bl ls H' s dx d lo st fo rs := by
  obtain ⟨h1, h2, h3, h4, h5, h6, h7, h8, ⟨kvs, h9, h9b, h9c⟩, h10, h11, h12, h13, h14⟩ := h
  exact ⟨same_trans h1 k, k _ _ h2, h3, h4, h5, h6, h7, k _ _ h8, ⟨kvs, k _ _ h9, h9b, h9c⟩, h10, k _ _ h11, h12, k _ _ h13, paired_imp (fun _ _ ⟨a, b, c, e⟩ => ⟨a, b, c, k _ _ e⟩) h14⟩
/-- one of the five changed -/
theorem same_put {H0 H : Hp} {a : Addr} {o : HO} (h : Same H0 H) (ha : H0 a = none) : Same H0 (upd H a o) := same_mut h ha
theorem BkP.putOrd {T : Txt P K mg} {H0 : Hp} {bl ls : Addr} {H : Hp} {s : Bs} {dx d lo st fo : Addr} {rs : List Addr} (h : BkP T H0 bl ls H s dx d lo st fo rs) {z : Str} (hz : z ∉ s.od) :
    BkP T H0 bl ls (upd H d (.dK (putK (dS (ordL s.od)) (Sum.inr z) (.int (s.od.length : Int))))) { s with od := s.od ++ [z] } dx d lo st fo rs := by
  obtain ⟨h1, h2, h3, h4, h5, h6, h7, h8, ⟨kvs, h9, h9b, h9c⟩, h10, h11, h12, h13, h14⟩ := h
  refine ⟨same_mut h1 h4, by rw [upd_ne (ne_of h2 h8 (by intro z; cases z))]; exact h2, h3, h4, h5, h6, h7, ?_, ⟨kvs, by rw [upd_ne h10.symm]; exact h9, h9b, by rw [List.length_append]; omega⟩, h10, by rw [upd_ne (ne_of h11 h8 (by intro z; cases z))]; exact h11, h12, by rw [upd_ne (ne_of h13 h8 (by intro z; cases z))]; exact h13, paired_imp (fun _ _ ⟨a, b, c, e⟩ => ⟨a, b, c, by rw [upd_ne (ne_of e h8 (by intro z; cases z))]; exact e⟩) h14⟩
  rw [upd_same, dS_new (lookup_none (by rw [ordL_fst]; exact hz)), ← ordL_snoc]
theorem BkP.putLow {T : Txt P K mg} {H0 : Hp} {bl ls : Addr} {H : Hp} {s : Bs} {dx d lo st fo : Addr} {rs : List Addr} (h : BkP T H0 bl ls H s dx d lo st fo rs) {z : Str} {v : Int} {kvs : List (Key × V)} (hk : H lo = some (.dK kvs)) (hv : ∀ z, valV kvs (Sum.inr z : Key) = (s.lw z).map V.int) (hl : (putK kvs (Sum.inr z) (.int v)).length ≤ s.od.length) :
    BkP T H0 bl ls (upd H lo (.dK (putK kvs (Sum.inr z) (.int v)))) { s with lw := setW s.lw z v } dx d lo st fo rs := by
  obtain ⟨h1, h2, h3, h4, h5, h6, h7, h8, _, h10, h11, h12, h13, h14⟩ := h
  exact ⟨same_mut h1 h5, by rw [upd_ne (ne_of h2 hk (by intro z; cases z))]; exact h2, h3, h4, h5, h6, h7, by rw [upd_ne h10]; exact h8, ⟨_, upd_same, setW_val hv z v, hl⟩, h10, by rw [upd_ne (ne_of h11 hk (by intro z; cases z))]; exact h11, h12, by rw [upd_ne (ne_of h13 hk (by intro z; cases z))]; exact h13, paired_imp (fun _ _ ⟨a, b, c, e⟩ => ⟨a, b, c, by rw [upd_ne (ne_of e hk (by intro z; cases z))]; exact e⟩) h14⟩
theorem BkP.push {T : Txt P K mg} {H0 : Hp} {bl ls : Addr} {H : Hp} {s : Bs} {dx d lo st fo : Addr} {rs : List Addr} (h : BkP T H0 bl ls H s dx d lo st fo rs) (e : Nat) :
    BkP T H0 bl ls (upd H st (.lst (nV s.sk ++ [.int (e : Int)]))) { s with sk := s.sk ++ [e] } dx d lo st fo rs := by
  obtain ⟨h1, h2, h3, h4, h5, h6, h7, h8, ⟨kvs, h9, h9b, h9c⟩, h10, h11, h12, h13, h14⟩ := h
  exact ⟨same_mut h1 h6, by rw [upd_ne (ne_of h2 h11 (by intro z; cases z))]; exact h2, h3, h4, h5, h6, h7, by rw [upd_ne (ne_of h8 h11 (by intro z; cases z))]; exact h8, ⟨kvs, by rw [upd_ne (ne_of h9 h11 (by intro z; cases z))]; exact h9, h9b, h9c⟩, h10, by rw [upd_same]; simp [nV], h12, by rw [upd_ne h12.symm]; exact h13, paired_imp (fun _ _ ⟨a, b, c, e⟩ => ⟨a, b, c, by rw [upd_ne a]; exact e⟩) h14⟩
def spBlkInit (T : Txt P K mg) : SpN := fun vs H Q => ∃ bl ls, vs = [.ref bl, .ref ls] ∧ ∃ dx H0, H bl = some (.ins T.C_Blocks dx []) ∧ Same H0 H ∧ H0 bl = none ∧ ∀ H', BkAt T H0 bl ls H' ⟨[], fun _ => none, [], []⟩ → Q .non H'
theorem sc_Blocks_init : FnScope ["self", "strikes"] ["self", "strikes"] (defScope (inC 44 0)) := ⟨rfl, rfl, rfl, by decide +kernel, rfl, by decide +kernel, by decide +kernel⟩
theorem w_Blocks_init (T : Txt P K mg) : FnN P w K mg base (0 + 1) (T.i_Blocks) (spBlkInit T) := by
  refine fn_mk (k := 0) (T.f_Blocks_init) sc_Blocks_init (fun _ _ _ _ _ _ us hl => match us, hl with | [_, _], _ => rfl) (fun vs H Q h => by obtain ⟨bl, ls, rfl, h⟩ := h; rfl) fun cdv A outer s H vs Q hr h => ?_
  have hu := hu_of hr
  have sc := sc_Blocks_init
  obtain ⟨bl, ls, rfl, h⟩ := h
  refine ⟨_, (pss_cons (ps_fld (pv 0) (pv 1) rfl)
    (pss_cons (ps_fld (pv 0) pe_dnewK rfl)
    (pss_cons (ps_fld (pv 0) pe_dnewK rfl)
    (pss_cons (ps_fld (pv 0) (pe_lst pa_nil) rfl)
    (pss_one (ps_fld (pv 0) (pe_lst pa_nil) rfl)))))), ?_⟩
  obtain ⟨dx, H0, hb, s0, n0, q⟩ := h
  refine ⟨_, rfl, _, rfl, bl, _, dx, _, rfl, hb, T.cl_Blocks, T.n_Blocks_struck, by decide, ?_⟩
  intro d hd
  have k0 : But bl H (upd H bl (.ins T.C_Blocks dx (putF "struck" (.ref ls) []))) := (same_but same_refl).put
  have db : d ≠ bl := (ne_of_none upd_same hd).symm
  refine ⟨_, rfl, bl, _, dx, _, rfl, same_new hd _ _ upd_same, T.cl_Blocks, T.n_Blocks_order, (by show 1 < 1000; decide), ?_⟩
  have k1 := ((same_but (b := bl) (same_new (o := .dK []) hd)).put (o := .ins T.C_Blocks dx (putF "order" (.ref d) (putF "struck" (.ref ls) []))))
  have q1 := ((same_but (b := bl) (same_refl (H := upd (upd H bl (.ins T.C_Blocks dx (putF "struck" (.ref ls) []))) d (.dK [])))).put (o := .ins T.C_Blocks dx (putF "order" (.ref d) (putF "struck" (.ref ls) [])))) d _ db upd_same
  intro lo hlo
  have lb : lo ≠ bl := (ne_of_none upd_same hlo).symm
  have ld : d ≠ lo := ne_of_none q1 hlo
  refine ⟨_, rfl, bl, _, dx, _, rfl, same_new hlo _ _ upd_same, T.cl_Blocks, T.n_Blocks_low, (by show 2 < 1000; decide), ?_⟩
  have k2 := ((same_but (b := bl) (same_new (o := .dK []) hlo)).put (o := .ins T.C_Blocks dx (putF "low" (.ref lo) (putF "order" (.ref d) (putF "struck" (.ref ls) [])))))
  have q2 := ((same_but (b := bl) (same_refl (H := upd (upd (upd (upd H bl (.ins T.C_Blocks dx (putF "struck" (.ref ls) []))) d (.dK [])) bl (.ins T.C_Blocks dx (putF "order" (.ref d) (putF "struck" (.ref ls) [])))) lo (.dK [])))).put (o := .ins T.C_Blocks dx (putF "low" (.ref lo) (putF "order" (.ref d) (putF "struck" (.ref ls) []))))) lo _ lb upd_same
  refine ⟨Nat.zero_le _, fun st hst => ?_⟩
  have sb : st ≠ bl := (ne_of_none upd_same hst).symm
  refine ⟨_, rfl, bl, _, dx, _, rfl, same_new hst _ _ upd_same, T.cl_Blocks, T.n_Blocks_stack, (by show 3 < 1000; decide), ?_⟩
  have k3 := ((same_but (b := bl) (same_new (o := .lst []) hst)).put (o := .ins T.C_Blocks dx (putF "stack" (.ref st) (putF "low" (.ref lo) (putF "order" (.ref d) (putF "struck" (.ref ls) []))))))
  refine ⟨Nat.zero_le _, fun fo hfo => ?_⟩
  have fb : fo ≠ bl := (ne_of_none upd_same hfo).symm
  have sf : st ≠ fo := ne_of_none (by rw [upd_ne sb, upd_same]) hfo
  refine ⟨_, rfl, bl, _, dx, _, rfl, same_new hfo _ _ upd_same, T.cl_Blocks, T.n_Blocks_found, (by show 4 < 1000; decide), ?_⟩
  have k4 := ((same_but (b := bl) (same_new (o := .lst []) hfo)).put (o := .ins T.C_Blocks dx (putF "found" (.ref fo) (putF "stack" (.ref st) (putF "low" (.ref lo) (putF "order" (.ref d) (putF "struck" (.ref ls) [])))))))
  have c1 := k0.trans (k1.trans (k2.trans (k3.trans k4)))
  have sm : ∀ {G : Hp}, But bl H G → ∀ x u, H0 x = some u → G x = some u := fun {G} k x u e => k x u (ne_of_none e n0) (s0 _ _ e)
  have no : ∀ {G : Hp} {x : Addr}, But bl H G → G x = none → H0 x = none := fun {G x} k e => by
    cases e2 : H0 x with
    | none => rfl
    | some u => exact absurd ((sm k _ _ e2).symm.trans e) (by intro z; cases z)
  refine q _ ⟨dx, d, lo, st, fo, [], sm c1, upd_same, n0, no k0 hd, no (k0.trans k1) hlo, no (k0.trans (k1.trans k2)) hst, no (k0.trans (k1.trans (k2.trans k3))) hfo, k4 _ _ db (k3 _ _ db (k2 _ _ db q1)), ⟨[], k4 _ _ lb (k3 _ _ lb q2), fun _ => rfl, Nat.zero_le _⟩, ld, k4 _ _ sb (by rw [upd_ne sb, upd_same]; rfl), sf, by rw [upd_ne fb, upd_same]; rfl, .nil⟩
/-- self.close(at): at stands at the place's end of a stack that does not hold it -/
def spClose (T : Txt P K mg) : SpN := fun vs H Q => ∃ bl e, vs = [.ref bl, .int ((e : Nat) : Int)] ∧ ∃ H0 ls s S S2, BkAt T H0 bl ls H s ∧ s.sk = S ++ e :: S2 ∧ e ∉ S ∧ s.fo.length ≤ 1000 ∧ s.sk.length ≤ 1000 ∧
  ∀ bk H', bk.Perm ((e :: S2).map fun i : Nat => (i : Int)) → bk.Pairwise (· ≤ ·) → BkAt T H0 bl ls H' { s with sk := S, fo := s.fo ++ [bk] } → Q .non H'
theorem sc_Blocks_close : FnScope ["self", "at", "place"] ["self", "at"] (defScope (inC 44 2)) := ⟨rfl, rfl, rfl, by decide +kernel, rfl, by decide +kernel, by decide +kernel⟩
theorem w_Blocks_close (T : Txt P K mg) : FnN P w K mg base (1 + 1) (T.a_Blocks_close) (spClose T) := by
  refine fn_mk (k := 1) (T.f_Blocks_close) sc_Blocks_close (fun _ _ _ _ _ _ us hl => match us, hl with | [_, _], _ => rfl) (fun vs H Q h => by obtain ⟨bl, e, rfl, h⟩ := h; rfl) fun cdv A outer s H vs Q hr h => ?_
  have hu := hu_of hr
  have sc := sc_Blocks_close
  obtain ⟨bl, e, rfl, h⟩ := h
  refine ⟨_, (pss_cons (ps_set (i := 2) sc.nd rfl (.inl rfl) (pe_bm PySem.F.plainAttrs_list PySem.F.slot_list_index PySem.F.type_list_index mt_index (pe_fld (pv 0) rfl) (pa_cons (pv 1) pa_nil)))
    (pss_cons (ps_expr (pe_bm PySem.F.plainAttrs_list PySem.F.slot_list_append PySem.F.type_list_append mt_append (pe_fld (pv 0) rfl) (pa_cons (pe_callB cr_sortedI (by rfl) T.n_sorted (by decide +kernel) (pa_cons (pe_slice sl_list (pe_fld (pv 0) rfl) (po_some (pv 2)) po_none) pa_nil)) pa_nil)))
    (pss_one (ps_fld (pv 0) (pe_slice sl_list (pe_fld (pv 0) rfl) po_none (po_some (pv 2))) rfl)))), ?_⟩
  obtain ⟨H0, ls, s, S, S2, ⟨dx, d, lo, st, fo, rs, B⟩, es, hn, hz1, hz2, q⟩ := h
  refine ⟨_, rfl, bl, _, dx, _, _, rfl, B.p_ins, T.cl_Blocks, T.n_Blocks_stack, rfl, .inl ⟨rfl, _, SqL.of B.p_sk⟩, _, rfl, st, _, _, S.length, .int (e : Int), rfl, rfl, SqL.of B.p_sk, rfl, ?_, ?_, ?_, ?_, ?_⟩
  · simp [nV, flatV]
  · rw [es]; simp [nV]
  · simp [eqV]
  · intro m z' hm hz'
    rw [es] at hz'
    simp only [nV, List.map_append] at hz'
    rw [List.getElem?_append_left (by simpa using hm)] at hz'
    obtain ⟨i, ei, rfl⟩ := map_get hz'
    have : i ≠ e := fun z => hn (z ▸ List.mem_of_getElem? ei)
    simp [eqV]
    omega
  have hc1 : cutV (nV s.sk) (some (S.length : Int)) none = ((e :: S2).map fun i : Nat => (i : Int)).map V.int := by
    rw [cut_from (by rw [es]; simp [nV]), es]
    simp [nV]
  have hc2 : cutV (nV s.sk) none (some (S.length : Int)) = nV S := by
    rw [cut_to (by rw [es]; simp [nV]), es]
    simp [nV]
  refine ⟨_, rfl, bl, _, dx, _, _, rfl, B.p_ins, T.cl_Blocks, T.n_Blocks_found, rfl, .inl ⟨rfl, _, SqL.of B.p_fo⟩, _, rfl, bl, _, dx, _, _, rfl, B.p_ins, T.cl_Blocks, T.n_Blocks_stack, rfl, _, rfl, _, rfl, st, _, rfl, SqL.of B.p_sk, fun p hp => ⟨p, _, rfl, SqL.of (by rw [upd_same, hc1]), fun bk p2 hpm hpw hp2 => ?_⟩⟩
  have s1 := same_trans (same_new (o := .lst (cutV (nV s.sk) (some (S.length : Int)) none)) hp) (same_new (o := .lst (bk.map V.int)) hp2)
  have B1 := B.step s1
  refine ⟨fo, _, _, rfl, rfl, B1.p_fo, by rw [List.length_map, Paired.length B.p_rs]; exact szl (by omega), ?_⟩
  have hfb : bl ≠ fo := ne_of B1.p_ins B1.p_fo (by intro z; cases z)
  have b2 : upd (upd (upd H p (.lst (cutV (nV s.sk) (some (S.length : Int)) none))) p2 (.lst (bk.map V.int))) fo (.lst (rs.map V.ref ++ [.ref p2])) bl = some (.ins T.C_Blocks dx [("struck", .ref ls), ("order", .ref d), ("low", .ref lo), ("stack", .ref st), ("found", .ref fo)]) := by rw [upd_ne hfb]; exact B1.p_ins
  have st2 : upd (upd (upd H p (.lst (cutV (nV s.sk) (some (S.length : Int)) none))) p2 (.lst (bk.map V.int))) fo (.lst (rs.map V.ref ++ [.ref p2])) st = some (.lst (nV s.sk)) := by rw [upd_ne B.p_stfo]; exact B1.p_sk
  refine ⟨_, rfl, bl, _, dx, _, _, rfl, b2, T.cl_Blocks, T.n_Blocks_stack, rfl, _, rfl, _, rfl, st, _, rfl, SqL.of st2, fun p3 hp3 => ?_⟩
  rw [hc2] at *
  have b3 := same_new (o := .lst (nV S)) hp3 _ _ b2
  refine ⟨_, rfl, bl, _, dx, _, rfl, b3, T.cl_Blocks, T.n_Blocks_stack, (by show 5 < 1000; decide), ?_⟩
  have hp3b : p3 ≠ bl := (ne_of_none b2 hp3).symm
  have hp3f : p3 ≠ fo := fun z => by rw [z, upd_same] at hp3; cases hp3
  have hp2f : p2 ≠ fo := (ne_of_none (same_new (o := .lst (cutV (nV s.sk) (some (S.length : Int)) none)) hp _ _ B.p_fo) hp2).symm
  have hp2s : p2 ≠ p3 := fun z => by rw [← z, upd_ne hp2f, upd_same] at hp3; cases hp3
  have no : ∀ {x : Addr}, (upd H p (.lst (cutV (nV s.sk) (some (S.length : Int)) none))) x = none → H0 x = none := fun {x} e => by
    cases e2 : H0 x with
    | none => rfl
    | some u => exact absurd ((same_new (o := .lst (cutV (nV s.sk) (some (S.length : Int)) none)) hp _ _ (B.p_same _ _ e2)).symm.trans e) (by intro z; cases z)
  have mv : ∀ x u, x ≠ fo → x ≠ bl → (upd (upd H p (.lst (cutV (nV s.sk) (some (S.length : Int)) none))) p2 (.lst (bk.map V.int))) x = some u → (upd (upd (upd (upd (upd H p (.lst (cutV (nV s.sk) (some (S.length : Int)) none))) p2 (.lst (bk.map V.int))) fo (.lst (rs.map V.ref ++ [.ref p2]))) p3 (.lst (nV S))) bl (.ins T.C_Blocks dx (putF "stack" (.ref p3) [("struck", .ref ls), ("order", .ref d), ("low", .ref lo), ("stack", .ref st), ("found", .ref fo)]))) x = some u := fun x u h1 h2 e => by
    rw [upd_ne h2]
    exact same_new hp3 _ _ (by rw [upd_ne h1]; exact e)
  obtain ⟨kvs, k1, k2, k3⟩ := B1.p_lw
  have nf : ∀ {x : Addr} {kv : List (Key × V)}, (upd (upd H p (.lst (cutV (nV s.sk) (some (S.length : Int)) none))) p2 (.lst (bk.map V.int))) x = some (.dK kv) → x ≠ fo ∧ x ≠ bl := fun {x kv} e => ⟨ne_of e B1.p_fo (by intro z; cases z), ne_of e B1.p_ins (by intro z; cases z)⟩
  refine q bk _ hpm hpw ⟨dx, d, lo, p3, fo, rs ++ [p2], ?_, upd_same, B.p_nbl, B.p_nd, B.p_nlo, ?_, B.p_nfo, mv _ _ (nf B1.p_od).1 (nf B1.p_od).2 B1.p_od, ⟨kvs, mv _ _ (nf k1).1 (nf k1).2 k1, k2, k3⟩, B.p_dlo, ?_, hp3f, ?_, ?_⟩
  · intro x u e
    have e1 := B1.p_same _ _ e
    exact mv _ _ (fun z => by rw [z, B.p_nfo] at e; cases e) (fun z => by rw [z, B.p_nbl] at e; cases e) e1
  · cases e : H0 p3 with
    | none => rfl
    | some u =>
      exfalso
      rw [upd_ne hp3f] at hp3
      exact absurd ((B1.p_same _ _ e).symm.trans hp3) (by intro z; cases z)
  · rw [upd_ne hp3b, upd_same]
  · rw [upd_ne hfb.symm]
    refine same_new hp3 _ _ ?_
    rw [upd_same, List.map_append]; rfl
  · refine paired_snoc (paired_imp (fun r b ⟨h1, h2, h3, h4⟩ => ⟨?_, h2, h3, mv _ _ h2 (ne_of h4 B1.p_ins (by intro z; cases z)) h4⟩) B1.p_rs) ⟨hp2s, hp2f, no hp2, mv _ _ hp2f (ne_of upd_same B1.p_ins (by intro z; cases z)) upd_same⟩
    intro z
    rw [upd_ne hp3f] at hp3
    rw [z] at h4
    exact absurd (h4.symm.trans hp3) (by intro z; cases z)
end
end Fb
set_option maxHeartbeats 4000000
/-! Forkbeats: the search in depth, plainly. -/
namespace Fb
open PySem PySem.Spec PyProof.Rows L2
def othr (here : Str) (q : Sk) : Str := if here = q.1 then q.2.1 else q.1
abbrev hitS (here : Str) (q : Sk) : Prop := here = q.1 ∨ here = q.2.1
def lwI (s : Bs) (z : Str) : Int := (s.lw z).getD 0
def sortN (l : List Nat) : List Int := (l.map fun i : Nat => (i : Int)).mergeSort (fun a b => decide (a ≤ b))
def closeB (s : Bs) (e : Nat) : Bs := { s with sk := s.sk.takeWhile (fun x => x != e), fo := s.fo ++ [sortN (s.sk.dropWhile (fun x => x != e))] }
def putL (s : Bs) (z : Str) (v : Int) : Bs := { s with lw := setW s.lw z v }
def pushB (s : Bs) (e : Nat) : Bs := { s with sk := s.sk ++ [e] }
def aftB (s2 : Bs) (here y : Str) (e : Nat) : Bs :=
  if ord s2.od here ≤ lwI (putL s2 here (min (lwI s2 here) (lwI s2 y))) y then closeB (putL s2 here (min (lwI s2 here) (lwI s2 y))) e
  else putL s2 here (min (lwI s2 here) (lwI s2 y))
def stepB (vis : Bs → Str → Int → Bs) (here : Str) (came : Int) (s : Bs) (e : Nat) (q : Sk) : Bs :=
  if (e : Int) ≠ came ∧ hitS here q then
    if othr here q ∉ s.od then aftB (vis (pushB s e) (othr here q) e) here (othr here q) e
    else if ord s.od (othr here q) < ord s.od here then putL (pushB s e) here (min (lwI s here) (ord s.od (othr here q)))
    else s
  else s
def loopB (vis : Bs → Str → Int → Bs) (here : Str) (came : Int) (sk : List Sk) : Nat → Bs → Bs
  | 0, s => s
  | i + 1, s => match sk[i]? with
    | some q => stepB vis here came (loopB vis here came sk i s) i q
    | none => loopB vis here came sk i s
def inB (s : Bs) (here : Str) : Bs := { s with od := s.od ++ [here], lw := setW s.lw here (s.od.length : Int) }
def visB (sk : List Sk) : Nat → Bs → Str → Int → Bs
  | 0, s, _, _ => s
  | n + 1, s, here, came => loopB (visB sk n) here came sk sk.length (inB s here)
def blkStep (fk : List Str) (sk : List Sk) (s : Bs) (z : Str) : Bs := if z ∈ s.od then s else visB sk fk.length s z (-1)
def b0 : Bs := ⟨[], fun _ => none, [], []⟩
def blocksF (fk : List Str) (sk : List Sk) : Bs := fk.foldl (blkStep fk sk) b0
theorem loopB_succ {vis : Bs → Str → Int → Bs} {here : Str} {came : Int} {sk : List Sk} {i : Nat} {s : Bs} {q : Sk} (h : sk[i]? = some q) : loopB vis here came sk (i + 1) s = stepB vis here came (loopB vis here came sk i s) i q := by
  rw [loopB, h]
theorem othr_hit {here : Str} {q : Sk} (h : hitS here q) (hne : q.1 ≠ q.2.1) : othr here q ≠ here ∧ (othr here q = q.1 ∨ othr here q = q.2.1) ∧ ∀ x : List Str, here ∈ x → othr here q ∈ x → q.1 ∈ x ∧ q.2.1 ∈ x := by
  unfold othr
  by_cases e : here = q.1
  · subst e
    rw [if_pos rfl]
    exact ⟨fun z => hne z.symm, .inr rfl, fun x h1 h2 => ⟨h1, h2⟩⟩
  · rw [if_neg e]
    obtain rfl : here = q.2.1 := h.resolve_left e
    exact ⟨fun z => e z.symm, .inl rfl, fun x h1 h2 => ⟨h2, h1⟩⟩
/-! ### what holds of any search -/
/-- strikes of the bench: two forks each -/
def SkIn (fk : List Str) (sk : List Sk) : Prop := ∀ q ∈ sk, q.1 ∈ fk ∧ q.2.1 ∈ fk ∧ q.1 ≠ q.2.1
structure Bok (fk : List Str) (sk : List Sk) (x : List Str) (s : Bs) : Prop where
  nd : s.od.Nodup
  inn : ∀ z ∈ s.od, z ∈ fk
  lw : ∀ z ∈ s.od, ∃ v, s.lw z = some v
  en : ∀ e ∈ s.sk, ∀ q, sk[e]? = some q → q.1 ∈ x ∧ q.2.1 ∈ x
theorem Bok.odl {fk : List Str} {sk : List Sk} {x : List Str} {s : Bs} (h : Bok fk sk x s) : s.od.length ≤ fk.length := nodup_len h.nd h.inn
/-- behind a turn of the loop of here -/
structure Lok (fk : List Str) (sk : List Sk) (s0 : Bs) (here : Str) (i : Nat) (s : Bs) : Prop where
  ok : Bok fk sk s.od s
  od : s0.od ++ [here] <+: s.od
  pk : s0.sk <+: s.sk
  ls : s.sk.length + (s0.od.length + 1) * sk.length ≤ s0.sk.length + s.od.length * sk.length + i
  lf : s.fo.length + (s0.od.length + 1) ≤ s0.fo.length + s.od.length
theorem lwI_some {s : Bs} {z : Str} {v : Int} (h : s.lw z = some v) : s.lw z = some (lwI s z) := by unfold lwI; rw [h]; rfl
theorem putL_lw {s : Bs} {z : Str} {v : Int} (y : Str) : (putL s z v).lw y = if y = z then some v else s.lw y := rfl
theorem Bok.put {fk : List Str} {sk : List Sk} {x : List Str} {s : Bs} (h : Bok fk sk x s) (z : Str) (v : Int) : Bok fk sk x (putL s z v) := by
  refine ⟨h.nd, h.inn, fun y hy => ?_, h.en⟩
  rw [putL_lw]
  by_cases e : y = z
  · rw [if_pos e]; exact ⟨_, rfl⟩
  · rw [if_neg e]; exact h.lw y hy
theorem take_ne {e : Nat} {S S2 : List Nat} (h : e ∉ S) : (S ++ e :: S2).takeWhile (fun x => x != e) = S ∧ (S ++ e :: S2).dropWhile (fun x => x != e) = e :: S2 := by
  induction S with
  | nil => simp
  | cons a S ih =>
    simp only [List.mem_cons, not_or] at h
    obtain ⟨h1, h2⟩ := ih h.2
    have ha : (a != e) = true := by simp [Ne.symm h.1]
    simp only [List.cons_append, List.takeWhile_cons, List.dropWhile_cons, ha, if_true]
    exact ⟨by rw [h1], h2⟩
theorem closeB_eq {s : Bs} {e : Nat} {S S2 : List Nat} (h : s.sk = S ++ e :: S2) (hn : e ∉ S) : closeB s e = { s with sk := S, fo := s.fo ++ [sortN (e :: S2)] } := by
  obtain ⟨h1, h2⟩ := take_ne (S2 := S2) hn
  unfold closeB
  rw [h, h1, h2]
theorem prefix_get {S T : List Nat} {e : Nat} (h : S ++ [e] <+: T) : ∃ S2, T = S ++ e :: S2 := by
  obtain ⟨t, rfl⟩ := h
  exact ⟨t, by simp⟩
/-- here is laid -/
theorem inB_ok {fk : List Str} {sk : List Sk} {s : Bs} {here : Str} (h : Bok fk sk (s.od ++ [here]) s) (hn : here ∉ s.od) (hf : here ∈ fk) : Lok fk sk s here 0 (inB s here) := by
  refine ⟨⟨?_, ?_, ?_, h.en⟩, List.prefix_rfl, List.prefix_rfl, ?_, ?_⟩
  · show (s.od ++ [here]).Nodup
    rw [List.nodup_append]
    exact ⟨h.nd, by simp, fun a ha b hb => by simp at hb; rw [hb]; exact fun e => hn (e ▸ ha)⟩
  · intro z hz
    rcases List.mem_append.mp hz with h1 | h1
    · exact h.inn z h1
    · simp at h1; subst h1; exact hf
  · intro z hz
    show ∃ v, setW s.lw here _ z = some v
    unfold setW
    by_cases e : z = here
    · rw [if_pos e]; exact ⟨_, rfl⟩
    · rw [if_neg e]
      rcases List.mem_append.mp hz with h1 | h1
      · exact h.lw z h1
      · simp at h1; exact absurd h1 e
  · show s.sk.length + _ ≤ s.sk.length + (s.od ++ [here]).length * sk.length + 0
    rw [List.length_append]
    exact Nat.le_refl _
  · show s.fo.length + _ ≤ s.fo.length + (s.od ++ [here]).length
    rw [List.length_append]
    exact Nat.le_refl _
/-- what a visit keeps -/
def VisOk (fk : List Str) (sk : List Sk) (vis : Bs → Str → Int → Bs) (n : Nat) : Prop := ∀ s here came, Bok fk sk (s.od ++ [here]) s → here ∉ s.od → here ∈ fk → fk.length ≤ n + s.od.length →
  Bok fk sk (vis s here came).od (vis s here came) ∧ s.od ++ [here] <+: (vis s here came).od ∧ s.sk <+: (vis s here came).sk ∧
  (vis s here came).sk.length + s.od.length * sk.length ≤ s.sk.length + (vis s here came).od.length * sk.length ∧
  (vis s here came).fo.length + (s.od.length + 1) ≤ s.fo.length + (vis s here came).od.length
theorem push_ok {fk : List Str} {sk : List Sk} {s : Bs} {here : Str} {e : Nat} {q : Sk} (h : Bok fk sk s.od s) (hq : sk[e]? = some q) (hi : SkIn fk sk) (hit : hitS here q) (hm : here ∈ s.od) : Bok fk sk (s.od ++ [othr here q]) (pushB s e) := by
  refine ⟨h.nd, h.inn, h.lw, fun e' he' q' hq' => ?_⟩
  rcases List.mem_append.mp he' with h1 | h1
  · obtain ⟨a, b⟩ := h.en e' h1 q' hq'
    exact ⟨List.mem_append_left _ a, List.mem_append_left _ b⟩
  · simp at h1
    subst h1
    rw [hq] at hq'
    cases hq'
    exact (othr_hit hit (hi q (List.mem_of_getElem? hq)).2.2).2.2 _ (List.mem_append_left _ hm) (by simp)
theorem push_new {fk : List Str} {sk : List Sk} {s : Bs} {here : Str} {e : Nat} {q : Sk} (h : Bok fk sk s.od s) (hq : sk[e]? = some q) (hi : SkIn fk sk) (hit : hitS here q) (hn : othr here q ∉ s.od) : e ∉ s.sk := fun he => by
  obtain ⟨a, b⟩ := h.en e he q hq
  rcases (othr_hit hit (hi q (List.mem_of_getElem? hq)).2.2).2.1 with h1 | h1 <;> rw [h1] at hn
  · exact hn a
  · exact hn b
theorem othr_mem {fk : List Str} {sk : List Sk} {here : Str} {e : Nat} {q : Sk} (hq : sk[e]? = some q) (hi : SkIn fk sk) (hit : hitS here q) : othr here q ∈ fk := by
  obtain ⟨a, b, c⟩ := hi q (List.mem_of_getElem? hq)
  rcases (othr_hit hit c).2.1 with h1 | h1 <;> rw [h1] <;> assumption
/-- behind the visit of a turn -/
structure Mid2 (fk : List Str) (sk : List Sk) (s0 : Bs) (here : Str) (i : Nat) (s s2 : Bs) (y : Str) : Prop where
  ok : Bok fk sk s2.od s2
  od : s.od ++ [y] <+: s2.od
  od0 : s0.od ++ [here] <+: s2.od
  pk : ∃ S2, s2.sk = s.sk ++ i :: S2
  new : i ∉ s.sk
  ls : s2.sk.length + (s0.od.length + 1) * sk.length ≤ s0.sk.length + s2.od.length * sk.length + (i + 1)
  lf : s2.fo.length + (s0.od.length + 1) + 1 ≤ s0.fo.length + s2.od.length
theorem mid2_ok {fk : List Str} {sk : List Sk} {s0 s : Bs} {here : Str} {i n : Nat} {q : Sk} {vis : Bs → Str → Int → Bs} (hv : VisOk fk sk vis n) (L : Lok fk sk s0 here i s) (hq : sk[i]? = some q) (hi : SkIn fk sk) (hit : hitS here q) (hn : othr here q ∉ s.od) (hfuel : fk.length ≤ n + s.od.length) :
    Mid2 fk sk s0 here i s (vis (pushB s i) (othr here q) i) (othr here q) := by
  have hm : here ∈ s.od := L.od.subset (by simp)
  obtain ⟨h1, h2, h3, h4, h5⟩ := hv (pushB s i) (othr here q) i (push_ok L.ok hq hi hit hm) hn (othr_mem hq hi hit) hfuel
  refine ⟨h1, h2, L.od.trans ((List.prefix_append _ _).trans h2), prefix_get h3, push_new L.ok hq hi hit hn, ?_, ?_⟩
  · have e1 : (pushB s i).sk.length = s.sk.length + 1 := by simp [pushB]
    have e2 : (pushB s i).od.length = s.od.length := rfl
    have := L.ls
    rw [e1, e2] at h4
    omega
  · have e1 : (pushB s i).fo.length = s.fo.length := rfl
    have e2 : (pushB s i).od.length = s.od.length := rfl
    have := L.lf
    rw [e1, e2] at h5
    omega
theorem step_ok {fk : List Str} {sk : List Sk} {s0 s : Bs} {here : Str} {came : Int} {i n : Nat} {q : Sk} {vis : Bs → Str → Int → Bs} (hv : VisOk fk sk vis n) (L : Lok fk sk s0 here i s) (hq : sk[i]? = some q) (hi : SkIn fk sk) (hfuel : fk.length ≤ n + s.od.length) :
    Lok fk sk s0 here (i + 1) (stepB vis here came s i q) := by
  have hm : here ∈ s.od := L.od.subset (by simp)
  have same : Lok fk sk s0 here (i + 1) s := ⟨L.ok, L.od, L.pk, by have := L.ls; omega, L.lf⟩
  unfold stepB
  by_cases hc : (i : Int) ≠ came ∧ hitS here q
  · rw [if_pos hc]
    by_cases hn : othr here q ∉ s.od
    · rw [if_pos hn]
      have M := mid2_ok hv L hq hi hc.2 hn hfuel
      obtain ⟨S2, hS⟩ := M.pk
      have B2 := M.ok.put here (min (lwI (vis (pushB s i) (othr here q) i) here) (lwI (vis (pushB s i) (othr here q) i) (othr here q)))
      unfold aftB
      split
      · rw [closeB_eq (s := putL _ _ _) (S := s.sk) (S2 := S2) hS M.new]
        refine ⟨⟨B2.nd, B2.inn, B2.lw, fun e he => B2.en e ?_⟩, M.od0, L.pk, ?_, ?_⟩
        · show e ∈ (vis (pushB s i) (othr here q) i).sk
          rw [hS]; exact List.mem_append_left _ he
        · have := M.ls
          rw [hS, List.length_append] at this
          show s.sk.length + _ ≤ _ + (vis (pushB s i) (othr here q) i).od.length * _ + _
          omega
        · have := M.lf
          show ((vis (pushB s i) (othr here q) i).fo ++ _).length + _ ≤ _ + (vis (pushB s i) (othr here q) i).od.length
          rw [List.length_append]
          simp only [List.length_cons, List.length_nil]
          omega
      · refine ⟨B2, M.od0, L.pk.trans ?_, M.ls, ?_⟩
        · show s.sk <+: (vis (pushB s i) (othr here q) i).sk
          rw [hS]; exact List.prefix_append _ _
        · have := M.lf
          show (vis (pushB s i) (othr here q) i).fo.length + _ ≤ _ + (vis (pushB s i) (othr here q) i).od.length
          omega
    · rw [if_neg hn]
      have hy : othr here q ∈ s.od := Decidable.byContradiction fun h => hn h
      split
      · have P := push_ok L.ok hq hi hc.2 hm
        refine ⟨Bok.put ⟨P.nd, P.inn, P.lw, fun e he q' hq' => ?_⟩ here _, L.od, L.pk.trans (List.prefix_append _ _), ?_, L.lf⟩
        · obtain ⟨a, b⟩ := P.en e he q' hq'
          refine ⟨?_, ?_⟩
          · rcases List.mem_append.mp a with h | h
            · exact h
            · simp at h; rw [h]; exact hy
          · rcases List.mem_append.mp b with h | h
            · exact h
            · simp at h; rw [h]; exact hy
        · show (s.sk ++ [i]).length + _ ≤ _ + s.od.length * _ + _
          have := L.ls
          rw [List.length_append]
          simp only [List.length_cons, List.length_nil]
          omega
      · exact same
  · rw [if_neg hc]; exact same
theorem loop_ok {fk : List Str} {sk : List Sk} {s : Bs} {here : Str} {came : Int} {n : Nat} {vis : Bs → Str → Int → Bs} (hv : VisOk fk sk vis n) (h : Bok fk sk (s.od ++ [here]) s) (hn : here ∉ s.od) (hf : here ∈ fk) (hi : SkIn fk sk) (hfuel : fk.length ≤ n + 1 + s.od.length) :
    ∀ i, i ≤ sk.length → Lok fk sk s here i (loopB vis here came sk i (inB s here))
  | 0, _ => inB_ok h hn hf
  | i + 1, hl => by
    have L := loop_ok (came := came) hv h hn hf hi hfuel i (by omega)
    obtain ⟨q, hq⟩ : ∃ q, sk[i]? = some q := ⟨_, List.getElem?_eq_getElem (by omega)⟩
    rw [loopB_succ hq]
    refine step_ok hv L hq hi ?_
    have := L.od.length_le
    rw [List.length_append] at this
    simp only [List.length_cons, List.length_nil] at this
    omega
theorem vis_ok {fk : List Str} {sk : List Sk} (hi : SkIn fk sk) : ∀ n, VisOk fk sk (visB sk n) n
  | 0 => fun s here came h hn hf hl => by
    exfalso
    have h2 : (s.od ++ [here]).length ≤ fk.length := nodup_len (by
      rw [List.nodup_append]
      exact ⟨h.nd, by simp, fun a ha b hb => by simp at hb; rw [hb]; exact fun e => hn (e ▸ ha)⟩) (fun z hz => by
        rcases List.mem_append.mp hz with h1 | h1
        · exact h.inn z h1
        · simp at h1; subst h1; exact hf)
    rw [List.length_append] at h2
    simp only [List.length_cons, List.length_nil] at h2
    omega
  | n + 1 => fun s here came h hn hf hl => by
    have L := loop_ok (came := came) (vis_ok hi n) h hn hf hi hl sk.length (Nat.le_refl _)
    refine ⟨L.ok, L.od, L.pk, ?_, L.lf⟩
    have := L.ls
    rw [Nat.succ_mul] at this
    show (loopB _ _ _ _ _ _).sk.length + _ ≤ _ + (loopB _ _ _ _ _ _).od.length * _
    omega
end Fb
set_option maxHeartbeats 4000000
/-! Forkbeats: the search in depth and the new fork. -/
namespace Fb
open PySem PySem.Spec PyProof.Rows L2
/-- z's strikes: n, and n + 1 if two, with k -/
structure Zs (sk : List Sk) (z k : Str) (n : Nat) (two : Bool) : Prop where
  ne : k ≠ z
  at_ : ∃ q, sk[n]? = some q ∧ hitS z q ∧ hitS k q
  at2 : two = true → ∃ q, sk[n + 1]? = some q ∧ hitS z q ∧ hitS k q
  only : ∀ e q, sk[e]? = some q → hitS z q → hitS k q ∧ (e = n ∨ two = true ∧ e = n + 1)
  len : sk.length = n + 1 + (if two = true then 1 else 0)
def zX (n : Nat) (two : Bool) : List Nat := if two = true then [n + 1] else []
structure GOk (G : Bool → List (List Int) → Prop) (n : Nat) (two : Bool) : Prop where
  keep : ∀ b fo l, G b fo → n ∉ l → G b (fo ++ [sortN l])
  new : ∀ fo, G false fo → G true (fo ++ [sortN (n :: zX n two)])
structure Zst (G : Bool → List (List Int) → Prop) (z k : Str) (n : Nat) (s : Bs) : Prop where
  no : n ∉ s.sk
  zk : z ∈ s.od → k ∈ s.od
  g : G (decide (z ∈ s.od)) s.fo
/-- what a turn does to z -/
structure Ztr (G : Bool → List (List Int) → Prop) (z k : Str) (n : Nat) (s t : Bs) : Prop where
  st : Zst G z k n t
  a : k ∈ s.od → z ∈ t.od → z ∈ s.od
  b : k ∉ s.od → k ∈ t.od → z ∈ t.od
theorem othr_of {z k : Str} {q : Sk} (ne : k ≠ z) (h1 : hitS z q) (h2 : hitS k q) : othr z q = k ∧ othr k q = z := by
  unfold othr
  rcases h1 with h1 | h1 <;> rcases h2 with h2 | h2
  · exact absurd (h2.trans h1.symm) ne
  · rw [if_pos h1, if_neg (fun e => ne (e.trans h1.symm))]; exact ⟨h2.symm, h1.symm⟩
  · rw [if_pos h2, if_neg (fun e => ne (h2.trans e.symm))]; exact ⟨h2.symm, h1.symm⟩
  · exact absurd (h2.trans h1.symm) ne
def VisZ (G : Bool → List (List Int) → Prop) (fk : List Str) (sk : List Sk) (z k : Str) (n : Nat) (vis : Bs → Str → Int → Bs) (N : Nat) : Prop := ∀ s here came, Bok fk sk (s.od ++ [here]) s → here ∉ s.od → here ∈ fk → fk.length ≤ N + s.od.length → here ≠ z → came ≠ (n : Int) → Zst G z k n s →
  Ztr G z k n s (vis s here came)
theorem ztr_refl {G : Bool → List (List Int) → Prop} {z k : Str} {n : Nat} {s t : Bs} (h : Zst G z k n t) (e : t.od = s.od) : Ztr G z k n s t := ⟨h, fun _ h => e ▸ h, fun h1 h2 => absurd (e ▸ h2) h1⟩
theorem ztr_trans {G : Bool → List (List Int) → Prop} {z k : Str} {n : Nat} {s t u : Bs} (h1 : Ztr G z k n s t) (h2 : Ztr G z k n t u) (p : s.od <+: t.od) (p2 : t.od <+: u.od) : Ztr G z k n s u :=
  ⟨h2.st, fun a b => h1.a a (h2.a (p.subset a) b), fun a b => by
    by_cases c : k ∈ t.od
    · exact p2.subset (h1.b a c)
    · exact h2.b c b⟩
theorem step_z {G : Bool → List (List Int) → Prop} {fk : List Str} {sk : List Sk} {z k : Str} {n N i : Nat} {two : Bool} {s0 s : Bs} {here : Str} {came : Int} {q : Sk} {vis : Bs → Str → Int → Bs} (hG : GOk G n two) (hv : VisOk fk sk vis N) (hz : VisZ G fk sk z k n vis N) (L : Lok fk sk s0 here i s) (hq : sk[i]? = some q) (hi : SkIn fk sk) (hfuel : fk.length ≤ N + s.od.length)
    (hin : i ≠ n ∨ ¬ hitS here q) (hnz : hitS here q → othr here q ∉ s.od → othr here q ≠ z) (hs : Zst G z k n s) : Ztr G z k n s (stepB vis here came s i q) := by
  have hm : here ∈ s.od := L.od.subset (by simp)
  unfold stepB
  by_cases hc : (i : Int) ≠ came ∧ hitS here q
  · have hin : i ≠ n := hin.resolve_right fun h => h hc.2
    rw [if_pos hc]
    have np : n ∉ (pushB s i).sk := fun h => by
      rcases List.mem_append.mp h with h | h
      · exact hs.no h
      · simp at h; exact hin h.symm
    have hs1 : Zst G z k n (pushB s i) := ⟨np, hs.zk, hs.g⟩
    by_cases hn : othr here q ∉ s.od
    · rw [if_pos hn]
      have M := mid2_ok hv L hq hi hc.2 hn hfuel
      obtain ⟨S2, hS⟩ := M.pk
      obtain ⟨z1, z2, z3⟩ := hz (pushB s i) (othr here q) i (push_ok L.ok hq hi hc.2 hm) hn (othr_mem hq hi hc.2) hfuel (hnz hc.2 hn) (fun e => hin (by omega)) hs1
      have n2 : n ∉ i :: S2 := fun h => z1.no (by rw [hS]; exact List.mem_append_right _ h)
      unfold aftB
      split
      · rw [closeB_eq (s := putL _ _ _) (S := s.sk) (S2 := S2) hS M.new]
        exact ⟨⟨hs.no, z1.zk, hG.keep _ _ _ z1.g n2⟩, z2, z3⟩
      · exact ⟨⟨z1.no, z1.zk, z1.g⟩, z2, z3⟩
    · rw [if_neg hn]
      split
      · exact ztr_refl ⟨np, hs.zk, hs.g⟩ rfl
      · exact ztr_refl hs rfl
  · rw [if_neg hc]; exact ztr_refl hs rfl
theorem ord_snoc_mem {od : List Str} {z y : Str} (h : y ∈ od) : ord (od ++ [z]) y = ord od y := ord_ext (List.prefix_append _ _) h
/-- z, come from n -/
theorem vis_zz {sk : List Sk} {z k : Str} {n N : Nat} {two : Bool} (Z : Zs sk z k n two) {s : Bs} (hk : k ∈ s.od) (hzn : z ∉ s.od) :
    ∃ lw', visB sk (N + 1) s z (n : Int) = ⟨s.od ++ [z], lw', s.sk ++ zX n two, s.fo⟩ ∧ ord (s.od ++ [z]) k ≤ (lw' z).getD 0 := by
  have stay : ∀ i, i ≤ n + 1 → loopB (visB sk N) z (n : Int) sk i (inB s z) = inB s z := fun i => by
    induction i with
    | zero => intro _; rfl
    | succ i ih =>
      intro hl
      obtain ⟨q, hq⟩ : ∃ q, sk[i]? = some q := ⟨_, List.getElem?_eq_getElem (by have := Z.len; omega)⟩
      rw [loopB_succ hq, ih (by omega), stepB, if_neg]
      rintro ⟨h1, h2⟩
      rcases (Z.only i q hq h2).2 with e | ⟨_, e⟩ <;> omega
  have ok1 : ord (s.od ++ [z]) k = ord s.od k := ord_snoc_mem hk
  have ok2 := ord_lt hk
  have oz : ord (s.od ++ [z]) z = s.od.length := ord_last hzn
  have lz : lwI (inB s z) z = s.od.length := by simp [lwI, inB, setW]
  show ∃ lw', loopB (visB sk N) z n sk sk.length (inB s z) = _ ∧ _
  cases two with
  | false =>
    have hl : sk.length = n + 1 := by have := Z.len; simpa using this
    rw [hl, stay _ (Nat.le_refl _)]
    refine ⟨_, by simp [inB, zX]; rfl, ?_⟩
    have : (setW s.lw z (s.od.length : Int) z).getD 0 = (s.od.length : Int) := by simp [setW]
    rw [this, ok1]
    omega
  | true =>
    have hl : sk.length = n + 2 := by have := Z.len; simpa using this
    obtain ⟨q, hq, q1, q2⟩ := Z.at2 rfl
    obtain ⟨o1, o2⟩ := othr_of Z.ne q1 q2
    have hkm : k ∈ (inB s z).od := List.mem_append_left _ hk
    rw [hl, loopB_succ hq, stay _ (Nat.le_refl _), stepB, if_pos ⟨by omega, q1⟩, o1, if_neg (fun h => h hkm), if_pos (by show ord (s.od ++ [z]) k < ord (s.od ++ [z]) z; rw [ok1, oz]; omega)]
    refine ⟨setW (inB s z).lw z (min (lwI (inB s z) z) (ord (inB s z).od k)), rfl, ?_⟩
    show _ ≤ (setW (inB s z).lw z (min (lwI (inB s z) z) (ord (s.od ++ [z]) k)) z).getD 0
    rw [lz, ok1]
    have : (setW (inB s z).lw z (min (s.od.length : Int) (ord s.od k)) z).getD 0 = min (s.od.length : Int) (ord s.od k) := by simp [setW]
    rw [this]
    omega
/-- the turn of k at n -/
theorem step_kz {G : Bool → List (List Int) → Prop} {sk : List Sk} {z k : Str} {n N : Nat} {two : Bool} (Z : Zs sk z k n two) (hG : GOk G n two) {s : Bs} {q : Sk} {came : Int} (hq : sk[n]? = some q) (hk : k ∈ s.od) (hzn : z ∉ s.od) (hc : came ≠ (n : Int)) (hs : Zst G z k n s) :
    Zst G z k n (stepB (visB sk (N + 1)) k came s n q) ∧ (stepB (visB sk (N + 1)) k came s n q).od = s.od ++ [z] := by
  obtain ⟨q', hq', q1, q2⟩ := Z.at_
  rw [hq] at hq'
  cases hq'
  obtain ⟨o1, o2⟩ := othr_of Z.ne q1 q2
  obtain ⟨lw', hv, hle⟩ := vis_zz (N := N) Z (s := pushB s n) hk hzn
  rw [stepB, if_pos ⟨fun e => hc e.symm, q2⟩, o2, if_pos hzn, hv]
  have hl : lwI (putL ⟨(pushB s n).od ++ [z], lw', (pushB s n).sk ++ zX n two, (pushB s n).fo⟩ k (min (lwI ⟨(pushB s n).od ++ [z], lw', (pushB s n).sk ++ zX n two, (pushB s n).fo⟩ k) (lwI ⟨(pushB s n).od ++ [z], lw', (pushB s n).sk ++ zX n two, (pushB s n).fo⟩ z))) z = (lw' z).getD 0 := by
    unfold lwI
    rw [putL_lw, if_neg (fun e => Z.ne e.symm)]
  rw [aftB, hl, if_pos hle, closeB_eq (S := s.sk) (S2 := zX n two) (by show (s.sk ++ [n]) ++ zX n two = _; simp) hs.no]
  refine ⟨⟨hs.no, fun _ => List.mem_append_left _ hk, ?_⟩, rfl⟩
  have e1 : decide (z ∈ s.od) = false := by simp [hzn]
  have e2 : decide (z ∈ s.od ++ [z]) = true := by simp
  have g0 := hs.g
  rw [e1] at g0
  show G (decide (z ∈ s.od ++ [z])) _
  rw [e2]
  exact hG.new _ g0
theorem vis_z {G : Bool → List (List Int) → Prop} {fk : List Str} {sk : List Sk} {z k : Str} {n : Nat} {two : Bool} (Z : Zs sk z k n two) (hG : GOk G n two) (hi : SkIn fk sk) (hzf : z ∈ fk) : ∀ N, VisZ G fk sk z k n (visB sk N) N
  | 0 => fun s here came h hn hf hl hne hc hs => by
    exfalso
    have h2 : (s.od ++ [here]).length ≤ fk.length := nodup_len (by
      rw [List.nodup_append]
      exact ⟨h.nd, by simp, fun a ha b hb => by simp at hb; rw [hb]; exact fun e => hn (e ▸ ha)⟩) (fun z hz => by
        rcases List.mem_append.mp hz with h1 | h1
        · exact h.inn z h1
        · simp at h1; subst h1; exact hf)
    rw [List.length_append] at h2
    simp only [List.length_cons, List.length_nil] at h2
    omega
  | N + 1 => fun s here came h hn hf hl hne hc hs => by
    have LL := loop_ok (came := came) (vis_ok hi N) h hn hf hi hl
    have fu : ∀ i, i ≤ sk.length → fk.length ≤ N + (loopB (visB sk N) here came sk i (inB s here)).od.length := fun i hi' => by
      have := (LL i hi').od.length_le
      rw [List.length_append] at this
      simp only [List.length_cons, List.length_nil] at this
      omega
    have od0 : (inB s here).od = s.od ++ [here] := rfl
    have hz0 : Zst G z k n (inB s here) := by
      refine ⟨hs.no, fun h => ?_, ?_⟩
      · rcases List.mem_append.mp h with h | h
        · exact List.mem_append_left _ (hs.zk h)
        · simp at h; exact absurd h.symm hne
      · have : decide (z ∈ (inB s here).od) = decide (z ∈ s.od) := by
          rw [od0]; simp [Ne.symm hne]
        rw [this]; exact hs.g
    have mono : ∀ i, i + 1 ≤ sk.length → (loopB (visB sk N) here came sk i (inB s here)).od <+: (loopB (visB sk N) here came sk (i + 1) (inB s here)).od := fun i hl' => by
      obtain ⟨q, hq⟩ : ∃ q, sk[i]? = some q := ⟨_, List.getElem?_eq_getElem (by omega)⟩
      rw [loopB_succ hq]
      have L := LL i (by omega)
      unfold stepB
      split
      · rename_i hcc
        split
        · rename_i hnn
          have M := mid2_ok (vis_ok hi N) L hq hi hcc.2 hnn (fu i (by omega))
          have := (List.prefix_append _ _).trans M.od
          unfold aftB
          split
          · exact this
          · exact this
        · split
          · exact List.prefix_rfl
          · exact List.prefix_rfl
      · exact List.prefix_rfl
    show Ztr G z k n s (loopB (visB sk N) here came sk sk.length (inB s here))
    by_cases hk : here = k
    · subst hk
      have hzs : z ∉ s.od := fun h => hn (hs.zk h)
      have main : ∀ i, i ≤ sk.length → Zst G z here n (loopB (visB sk N) here came sk i (inB s here)) ∧ here ∈ (loopB (visB sk N) here came sk i (inB s here)).od ∧ (z ∈ (loopB (visB sk N) here came sk i (inB s here)).od ↔ n < i) := fun i => by
        induction i with
        | zero =>
          intro _
          refine ⟨hz0, by show here ∈ s.od ++ [here]; simp, ?_⟩
          show z ∈ s.od ++ [here] ↔ n < 0
          simp [hzs, Ne.symm hne]
        | succ i ih =>
          intro hl'
          obtain ⟨i1, i2, i3⟩ := ih (by omega)
          obtain ⟨q, hq⟩ : ∃ q, sk[i]? = some q := ⟨_, List.getElem?_eq_getElem (by omega)⟩
          have L := LL i (by omega)
          have hmono := mono i hl'
          by_cases e : i = n
          · subst e
            have hzn : z ∉ (loopB (visB sk N) here came sk i (inB s here)).od := fun h => absurd (i3.mp h) (Nat.lt_irrefl _)
            obtain ⟨M, rfl⟩ : ∃ M, N = M + 1 := by
              have h2 := (L.ok.odl)
              have h3 := fu i (by omega)
              have h4 : ((loopB (visB sk N) here came sk i (inB s here)).od ++ [z]).length ≤ fk.length := nodup_len (by
                rw [List.nodup_append]
                exact ⟨L.ok.nd, by simp, fun a ha b hb => by simp at hb; rw [hb]; exact fun e => hzn (e ▸ ha)⟩) (fun y hy => by
                  rcases List.mem_append.mp hy with h1 | h1
                  · exact L.ok.inn y h1
                  · simp at h1; subst h1; exact hzf)
              rw [List.length_append] at h4
              simp only [List.length_cons, List.length_nil] at h4
              exact ⟨N - 1, by omega⟩
            obtain ⟨r1, r2⟩ := step_kz (N := M) Z hG hq i2 hzn hc i1
            rw [loopB_succ hq]
            exact ⟨r1, by rw [r2]; exact List.mem_append_left _ i2, by rw [r2]; simp⟩
          · have T : Ztr G z here n (loopB (visB sk N) here came sk i (inB s here)) (loopB (visB sk N) here came sk (i + 1) (inB s here)) := by
              rw [loopB_succ hq]
              refine step_z hG (vis_ok hi N) (vis_z Z hG hi hzf N) L hq hi (fu i (by omega)) (.inl e) (fun hh hy ez => ?_) i1
              rw [ez] at hy
              obtain ⟨c1, c2⟩ := Z.only i q hq (by
                have := (othr_hit hh (hi q (List.mem_of_getElem? hq)).2.2).2.1
                rw [ez] at this
                exact this)
              rcases c2 with c2 | ⟨_, c2⟩
              · exact e c2
              · exact hy (i3.mpr (by omega))
            refine ⟨T.st, hmono.subset i2, ⟨fun h => ?_, fun h => hmono.subset (i3.mpr (by omega))⟩⟩
            have := i3.mp (T.a i2 h)
            omega
      obtain ⟨m1, m2, m3⟩ := main sk.length (Nat.le_refl _)
      exact ⟨m1, fun h => absurd h hn, fun _ _ => m3.mpr (by have := Z.len; omega)⟩
    · have main : ∀ i, i ≤ sk.length → Ztr G z k n (inB s here) (loopB (visB sk N) here came sk i (inB s here)) ∧ (inB s here).od <+: (loopB (visB sk N) here came sk i (inB s here)).od := fun i => by
        induction i with
        | zero => intro _; exact ⟨ztr_refl hz0 rfl, List.prefix_rfl⟩
        | succ i ih =>
          intro hl'
          obtain ⟨i1, i2⟩ := ih (by omega)
          obtain ⟨q, hq⟩ : ∃ q, sk[i]? = some q := ⟨_, List.getElem?_eq_getElem (by omega)⟩
          have L := LL i (by omega)
          have hmono := mono i hl'
          have nohit : ¬ (hitS here q ∧ hitS z q) := fun ⟨h1, h2⟩ => by
            obtain ⟨c1, _⟩ := Z.only i q hq h2
            obtain ⟨o1, o2⟩ := othr_of Z.ne h2 c1
            have := othr_of (k := here) hne h2 h1
            exact hk (this.1.symm.trans o1)
          refine ⟨ztr_trans i1 ?_ i2 hmono, i2.trans hmono⟩
          rw [loopB_succ hq]
          refine step_z hG (vis_ok hi N) (vis_z Z hG hi hzf N) L hq hi (fu i (by omega)) ?_ (fun hh hy ez => ?_) i1.st
          · by_cases hh : hitS here q
            · refine .inl fun e => ?_
              subst e
              obtain ⟨q', hq', q1, q2⟩ := Z.at_
              rw [hq] at hq'
              cases hq'
              exact nohit ⟨hh, q1⟩
            · exact .inr hh
          · refine nohit ⟨hh, ?_⟩
            have := (othr_hit hh (hi q (List.mem_of_getElem? hq)).2.2).2.1
            rw [ez] at this
            exact this
      obtain ⟨m1, m2⟩ := main sk.length (Nat.le_refl _)
      refine ⟨m1.st, fun h1 h2 => ?_, fun h1 h2 => ?_⟩
      · have := m1.a (List.mem_append_left _ h1) h2
        rcases List.mem_append.mp this with h | h
        · exact h
        · simp at h; exact absurd h.symm hne
      · refine m1.b (fun h => ?_) h2
        rcases List.mem_append.mp h with h | h
        · exact h1 h
        · simp at h; exact hk h.symm
/-- the whole search -/
structure Tops (fk : List Str) (sk : List Sk) (s : Bs) : Prop where
  ok : Bok fk sk s.od s
  ls : s.sk.length ≤ s.od.length * sk.length
  lf : s.fo.length ≤ s.od.length
theorem blkStep_ok {fk : List Str} {sk : List Sk} {s : Bs} {x : Str} (hi : SkIn fk sk) (h : Tops fk sk s) (hx : x ∈ fk) : Tops fk sk (blkStep fk sk s x) ∧ s.od <+: (blkStep fk sk s x).od ∧ x ∈ (blkStep fk sk s x).od := by
  unfold blkStep
  split
  · exact ⟨h, List.prefix_rfl, by assumption⟩
  · rename_i hn
    obtain ⟨v1, v2, v3, v4, v5⟩ := vis_ok hi fk.length s x (-1) ⟨h.ok.nd, h.ok.inn, h.ok.lw, fun e he q hq => by
      obtain ⟨a, b⟩ := h.ok.en e he q hq
      exact ⟨List.mem_append_left _ a, List.mem_append_left _ b⟩⟩ hn hx (by omega)
    refine ⟨⟨v1, ?_, ?_⟩, (List.prefix_append _ _).trans v2, v2.subset (by simp)⟩
    · have := h.ls; omega
    · have := h.lf; omega
theorem b0_ok {fk : List Str} {sk : List Sk} : Tops fk sk b0 := ⟨⟨by simp [b0], by simp [b0], by simp [b0], by simp [b0]⟩, by simp [b0], by simp [b0]⟩
theorem blocks_z {G : Bool → List (List Int) → Prop} {fk : List Str} {sk : List Sk} {z k : Str} {n : Nat} {two : Bool} (Z : Zs sk z k n two) (hG : GOk G n two) (h0 : G false []) (hi : SkIn (fk ++ [z]) sk) (hk : k ∈ fk) (hz : z ∉ fk) : G true (blocksF (fk ++ [z]) sk).fo := by
  have main : ∀ l : List Str, (∀ x ∈ l, x ∈ fk) → ∀ s, Tops (fk ++ [z]) sk s → Zst G z k n s → (k ∈ s.od → z ∈ s.od) →
      Tops (fk ++ [z]) sk (l.foldl (blkStep (fk ++ [z]) sk) s) ∧ Zst G z k n (l.foldl (blkStep (fk ++ [z]) sk) s) ∧ (k ∈ (l.foldl (blkStep (fk ++ [z]) sk) s).od → z ∈ (l.foldl (blkStep (fk ++ [z]) sk) s).od) ∧ (∀ x ∈ l, x ∈ (l.foldl (blkStep (fk ++ [z]) sk) s).od) ∧ s.od <+: (l.foldl (blkStep (fk ++ [z]) sk) s).od := fun l => by
    induction l with
    | nil => intro _ s h1 h2 h3; exact ⟨h1, h2, h3, by simp, List.prefix_rfl⟩
    | cons x l ih =>
      intro hl s h1 h2 h3
      have hx := hl x (List.mem_cons_self ..)
      obtain ⟨t1, t2, t3⟩ := blkStep_ok hi h1 (List.mem_append_left [z] hx)
      have hb : Zst G z k n (blkStep (fk ++ [z]) sk s x) ∧ (k ∈ (blkStep (fk ++ [z]) sk s x).od → z ∈ (blkStep (fk ++ [z]) sk s x).od) := by
        unfold blkStep
        split
        · exact ⟨h2, h3⟩
        · rename_i hn
          have V := vis_z Z hG hi (by simp) (fk ++ [z]).length s x (-1) ⟨h1.ok.nd, h1.ok.inn, h1.ok.lw, fun e he q hq => by
            obtain ⟨a, b⟩ := h1.ok.en e he q hq
            exact ⟨List.mem_append_left _ a, List.mem_append_left _ b⟩⟩ hn (List.mem_append_left [z] hx) (by omega) (fun e => hz (e ▸ hx)) (by omega) h2
          refine ⟨V.st, fun hkm => ?_⟩
          by_cases c : k ∈ s.od
          · have := t2.subset (h3 c)
            unfold blkStep at this
            rwa [if_neg hn] at this
          · exact V.b c hkm
      obtain ⟨r1, r2, r3, r4, r5⟩ := ih (fun y hy => hl y (List.mem_cons_of_mem _ hy)) _ t1 hb.1 hb.2
      refine ⟨r1, r2, r3, fun y hy => ?_, t2.trans r5⟩
      rcases List.mem_cons.mp hy with e | e
      · rw [e]; exact r5.subset t3
      · exact r4 y e
  obtain ⟨r1, r2, r3, r4, r5⟩ := main fk (fun _ h => h) b0 b0_ok ⟨by simp [b0], by simp [b0], by simpa [b0] using h0⟩ (by simp [b0])
  have hzo := r3 (r4 k hk)
  rw [blocksF, List.foldl_append]
  show G true (blkStep (fk ++ [z]) sk (List.foldl (blkStep (fk ++ [z]) sk) b0 fk) z).fo
  generalize List.foldl (blkStep (fk ++ [z]) sk) b0 fk = t at hzo r2
  rw [blkStep, if_pos hzo]
  have := r2.g
  rwa [show decide (z ∈ t.od) = true by simp [hzo]] at this
/-! ### the two uses -/
theorem sortN_perm (l : List Nat) : (sortN l).Perm (l.map fun i : Nat => (i : Int)) := List.mergeSort_perm _ _
theorem sortN_pw (l : List Nat) : (sortN l).Pairwise (· ≤ ·) := by
  have := List.pairwise_mergeSort (le := fun a b : Int => decide (a ≤ b)) (fun a b c => by simp; omega) (fun a b => by simp; omega) (l.map fun i : Nat => (i : Int))
  exact this.imp (by simp)
theorem sorted_eq : ∀ {l1 l2 : List Int}, l1.Perm l2 → l1.Pairwise (· ≤ ·) → l2.Pairwise (· ≤ ·) → l1 = l2
  | [], l2, h, _, _ => by rw [List.nil_perm.mp h]
  | a :: l1, [], h, _, _ => by have := h.length_eq; simp at this
  | a :: l1, b :: l2, h, h1, h2 => by
    rw [List.pairwise_cons] at h1 h2
    have hab : a = b := by
      rcases List.mem_cons.mp (h.mem_iff.mp (List.mem_cons_self ..)) with e | e
      · exact e
      · rcases List.mem_cons.mp (h.mem_iff.mpr (List.mem_cons_self ..)) with e2 | e2
        · exact e2.symm
        · have q1 := h2.1 a e; have q2 := h1.1 b e2; omega
    subst hab
    rw [sorted_eq (List.perm_cons _ |>.mp h) h1.2 h2.2]
theorem sortN_uniq {l : List Nat} {bk : List Int} (h : bk.Perm (l.map fun i : Nat => (i : Int))) (hp : bk.Pairwise (· ≤ ·)) : bk = sortN l := sorted_eq (h.trans (sortN_perm l).symm) hp (sortN_pw l)
def GOne (n : Nat) (b : Bool) (fo : List (List Int)) : Prop := (fo.filter fun x => decide (x = [(n : Int)])).length = if b = true then 1 else 0
def GTwo (n : Nat) (b : Bool) (fo : List (List Int)) : Prop := b = true → [(n : Int), (n : Int) + 1] ∈ fo
theorem gone_ok (n : Nat) : GOk (GOne n) n false := by
  constructor
  · intro b fo l h hn
    unfold GOne at *
    have : decide (sortN l = [(n : Int)]) = false := by
      simp only [decide_eq_false_iff_not]
      intro e
      have hp := sortN_perm l
      rw [e] at hp
      have hm := hp.mem_iff.mp (List.mem_singleton.mpr rfl)
      obtain ⟨m, hm1, hm2⟩ := List.mem_map.mp hm
      have : m = n := by omega
      exact hn (this ▸ hm1)
    rw [List.filter_append, List.length_append, h]
    simp [this]
  · intro fo h
    unfold GOne at *
    have e : sortN (n :: zX n false) = [(n : Int)] := (sortN_uniq (l := n :: zX n false) (by simp [zX]) (by simp)).symm
    rw [e, List.filter_append, List.length_append, h]
    simp
theorem gtwo_ok (n : Nat) : GOk (GTwo n) n true := by
  constructor
  · intro b fo l h hn hb
    exact List.mem_append_left _ (h hb)
  · intro fo h _
    have e : sortN (n :: zX n true) = [(n : Int), (n : Int) + 1] := (sortN_uniq (l := n :: zX n true) (by simp [zX]) (by simp; omega)).symm
    rw [e]
    simp
theorem one_block {fk : List Str} {sk : List Sk} {z k : Str} {n : Nat} (Z : Zs sk z k n false) (hi : SkIn (fk ++ [z]) sk) (hk : k ∈ fk) (hz : z ∉ fk) : ((blocksF (fk ++ [z]) sk).fo.filter fun x => decide (x = [(n : Int)])).length = 1 :=
  blocks_z (G := GOne n) Z (gone_ok n) (by simp [GOne]) hi hk hz
theorem two_block {fk : List Str} {sk : List Sk} {z k : Str} {n : Nat} (Z : Zs sk z k n true) (hi : SkIn (fk ++ [z]) sk) (hk : k ∈ fk) (hz : z ∉ fk) : [(n : Int), (n : Int) + 1] ∈ (blocksF (fk ++ [z]) sk).fo :=
  blocks_z (G := GTwo n) Z (gtwo_ok n) (by simp [GTwo]) hi hk hz rfl
end Fb
set_option maxHeartbeats 4000000
/-! Forkbeats: Blocks.visit; blocks. -/
namespace Fb
open PySem PySem.Spec PyProof.Rows L2
theorem if_sel {c : Prop} [Decidable c] {o1 o2 : Option (Option V)} {Q : V → Prop} {t : V} (h1 : c → o1 = some (some t)) (h2 : ¬ c → o2 = some (some t)) (h : Q t) : if decide c = true then (∃ v, o1 = some (some v) ∧ Q v) else (∃ v, o2 = some (some v) ∧ Q v) := by
  by_cases e : c
  · exact ifY e ⟨t, h1 e, h⟩
  · exact ifN e ⟨t, h2 e, h⟩
theorem dgetSn {H : Hp} {m : Addr} {lv : List (Str × Int)} {z : Str} (h : H m = some (.dK (dS lv))) (e : lv.lookup z = none) : DGet H m (.str z) none := by
  have := DGet.k (k := Sum.inr z) h
  rw [valS, e] at this
  exact this
theorem putK_le {kvs : List (Key × V)} {k : Key} {v : V} : (putK kvs k v).length ≤ kvs.length + 1 := by
  cases e : valV kvs k with
  | none => rw [putK_new _ e]; simp
  | some _ => rw [length_putK_old (by rw [e]; simp)]; omega
theorem min_if (a b : Int) : (if b < a then b else a) = min a b := by omega
theorem ord_none {od : List Str} {z : Str} (h : z ∉ od) : (ordL od).lookup z = none := lookup_none (by rw [ordL_fst]; exact h)
section
variable {P : Program} {w : World} {K : PySem.W.Frag} {mg : Str → Option Value} {base : Heap}
def spVisit (T : Txt P K mg) (n : Nat) : SpN := fun vs H Q => ∃ bl here came, vs = [.ref bl, .str here, .int came] ∧ ∃ H0 ls fk sk s, BkAt T H0 bl ls H s ∧ SksAt H0 ls sk ∧ SkIn fk sk ∧ fk.length ≤ 10 ∧ sk.length ≤ 20 ∧ Bok fk sk (s.od ++ [here]) s ∧ here ∉ s.od ∧ here ∈ fk ∧
  fk.length ≤ n + s.od.length ∧ s.sk.length ≤ s.od.length * sk.length ∧ s.fo.length ≤ s.od.length ∧ ∀ H', BkAt T H0 bl ls H' (visB sk n s here came) → Q .non H'
theorem sc_Blocks_visit_step : FnScope ["self", "here", "came", "at", "a", "b", "count", "there"] ["self", "here", "came"] (defScope (inC 44 1)) := ⟨rfl, rfl, rfl, by decide +kernel, rfl, by decide +kernel, by decide +kernel⟩
theorem w_Blocks_visit_step (T : Txt P K mg) (n : Nat) (ih : FnN P w K mg base (n + 2) T.a_Blocks_visit (spVisit T n)) : FnN P w K mg base (n+2 + 1) (T.a_Blocks_visit) (spVisit T (n+1)) := by
  refine fn_mk (k := n+2) (T.f_Blocks_visit) sc_Blocks_visit_step (fun _ _ _ _ _ _ us hl => match us, hl with | [_, _, _], _ => rfl) (fun vs H Q h => by obtain ⟨bl, here, came, rfl, h⟩ := h; rfl) fun cdv A outer s H vs Q hr h => ?_
  have hu := hu_of hr
  have sc := sc_Blocks_visit_step
  obtain ⟨bl, here, came, rfl, h⟩ := h
  refine ⟨_, (pss_cons (ps_dput hu (pe_fld (pv 0) rfl) (pv 1) (pe_callB call_lenD (by rfl) T.n_len PySem.boot_len (pa_cons (pe_fld (pv 0) rfl) pa_nil)) rfl)
    (pss_cons (ps_dput hu (pe_fld (pv 0) rfl) (pv 1) (pe_dget hu (pe_fld (pv 0) rfl) (pv 1) (fun _ _ => rfl)) rfl)
    (pss_one (ps_for PassesOwn.never rfl (pi_enum (by rfl) T.n_enumerate (pa_cons (pe_fld (pv 0) rfl) pa_nil)) (pg_tup rfl (pgs_cons (pg_name (i := 3) sc.nd rfl (.inl rfl)) (pgs_cons (pg_tup rfl (pgs_cons (pg_name (i := 4) sc.nd rfl (.inl rfl)) (pgs_cons (pg_name (i := 5) sc.nd rfl (.inl rfl)) (pgs_cons (pg_name (i := 6) sc.nd rfl (.inl rfl)) pgs_nil)))) pgs_nil)))
    (pss_one (ps_if (PW.pt (pw_and (pt_cmpR op_ne (pv 3) (pv 2) (nomark _)) (pw_and1 (pt_cmpR op_in_seq (pv 1) (pe_tup (pa_cons (pv 4) (pa_cons (pv 5) pa_nil))) (by rfl)))))
    (pss_cons (ps_set (i := 7) sc.nd rfl (.inl rfl) (pe_ifExp (pt_cmpR op_eq (pv 1) (pv 4) (nomark _)) (pv 5) (pv 4)))
    (pss_one (ps_if (pt_cmp (pc_dnotin hu (pv 7) (pe_fld (pv 0) rfl)))
    (pss_cons (ps_expr (pe_bm PySem.F.plainAttrs_list PySem.F.slot_list_append PySem.F.type_list_append mt_append (pe_fld (pv 0) rfl) (pa_cons (pv 3) pa_nil)))
    (pss_cons (ps_expr (pe_met (pv 0) (pa_cons (pv 7) (pa_cons (pv 3) pa_nil))))
    (pss_cons (ps_dput hu (pe_fld (pv 0) rfl) (pv 1) (pe_callB (call_min2 rfl) (by rfl) T.n_min (by decide +kernel) (pa_cons (pe_dget hu (pe_fld (pv 0) rfl) (pv 1) (fun _ _ => rfl)) (pa_cons (pe_dget hu (pe_fld (pv 0) rfl) (pv 7) (fun _ _ => rfl)) pa_nil))) rfl)
    (pss_one (ps_if (pt_cmpR op_ge (pe_dget hu (pe_fld (pv 0) rfl) (pv 7) (fun _ _ => rfl)) (pe_dget hu (pe_fld (pv 0) rfl) (pv 1) (fun _ _ => rfl)) (nomark _))
    (pss_one (ps_expr (pe_met (pv 0) (pa_cons (pv 3) pa_nil))))
    pss_nil)))))
    (pss_one (ps_if (pt_cmpR op_lt (pe_dget hu (pe_fld (pv 0) rfl) (pv 7) (fun _ _ => rfl)) (pe_dget hu (pe_fld (pv 0) rfl) (pv 1) (fun _ _ => rfl)) (nomark _))
    (pss_cons (ps_expr (pe_bm PySem.F.plainAttrs_list PySem.F.slot_list_append PySem.F.type_list_append mt_append (pe_fld (pv 0) rfl) (pa_cons (pv 3) pa_nil)))
    (pss_one (ps_dput hu (pe_fld (pv 0) rfl) (pv 1) (pe_callB (call_min2 rfl) (by rfl) T.n_min (by decide +kernel) (pa_cons (pe_dget hu (pe_fld (pv 0) rfl) (pv 1) (fun _ _ => rfl)) (pa_cons (pe_dget hu (pe_fld (pv 0) rfl) (pv 7) (fun _ _ => rfl)) pa_nil))) rfl)))
    pss_nil)))))
    pss_nil)))))), ?_⟩
  obtain ⟨H0, ls, fk, sk, s, ⟨dx, d, lo, st, fo, rs, B⟩, ⟨qs, hq1, hq2⟩, hin, hfk, hsk, hok, hn, hf, hfuel, hsl, hfl, q⟩ := h
  have hodl := hok.odl
  have eln : (dS (ordL s.od)).length = s.od.length := by rw [dS, List.length_map, ordL_len]
  refine ⟨_, rfl, bl, _, dx, _, _, rfl, B.p_ins, T.cl_Blocks, T.n_Blocks_order, rfl, d, _, rfl, B.p_od, _, rfl, bl, _, dx, _, _, rfl, B.p_ins, T.cl_Blocks, T.n_Blocks_order, rfl, _, rfl, d, _, rfl, DPut.k (k := Sum.inr here) B.p_od (by rw [eln]; exact szl (by omega)), ?_⟩
  rw [eln]
  have B1 := B.putOrd hn
  obtain ⟨kvs, k1, k2, k3⟩ := B.p_lw
  have k1' : upd H d (.dK (putK (dS (ordL s.od)) (Sum.inr here) (.int (s.od.length : Int)))) lo = some (.dK kvs) := by rw [upd_ne B.p_dlo.symm]; exact k1
  have hm1 : here ∈ s.od ++ [here] := by simp
  have ov : ord (s.od ++ [here]) here = s.od.length := ord_last hn
  refine ⟨_, rfl, bl, _, dx, _, _, rfl, B1.p_ins, T.cl_Blocks, T.n_Blocks_order, rfl, _, rfl, d, _, rfl, dgetS B1.p_od (ord_some hm1), _, rfl, bl, _, dx, _, _, rfl, B1.p_ins, T.cl_Blocks, T.n_Blocks_low, rfl, _, rfl, lo, _, rfl, DPut.k (k := Sum.inr here) k1' (szl (by omega)), ?_⟩
  rw [ov]
  have B2 := B1.putLow (z := here) (v := (s.od.length : Int)) k1' k2 (by have := putK_le (kvs := kvs) (k := (Sum.inr here : Key)) (v := V.int (s.od.length : Int)); show _ ≤ (s.od ++ [here]).length; rw [List.length_append]; simp only [List.length_cons, List.length_nil]; omega)
  have hls : ∀ {G : Hp} {t : Bs}, BkAt T H0 bl ls G t → SqL K G ls (qs.map V.ref) := fun {G t} ⟨_, _, _, _, _, _, B⟩ => SqL.of (B.p_same _ _ hq1)
  have hql : (qs.map V.ref).length = sk.length := by rw [List.length_map]; exact Paired.length hq2
  refine ⟨_, rfl, bl, _, dx, _, _, rfl, B2.p_ins, T.cl_Blocks, T.n_Blocks_struck, rfl, ls, _, rfl, hls ⟨_, _, _, _, _, _, B2⟩, for_it (walk_enum (xs := qs.map V.ref)) (fun i σ H' => (∃ a3 a4 a5 a6 a7, σ = [some (.ref bl), some (.str here), some (.int came), a3, a4, a5, a6, a7]) ∧ BkAt T H0 bl ls H' (loopB (visB sk n) here came sk i (inB s here)))
    ⟨⟨_, _, _, _, _, rfl⟩, ⟨_, _, _, _, _, _, B2⟩⟩ (fun _ _ _ _ h => hls h.2) ?_ ?_⟩
  · rintro i x σ H2 H1 hi ⟨⟨a3, a4, a5, a6, a7, rfl⟩, ⟨dx, d, lo, st, fo, rs, B⟩⟩ ⟨T1, x1, x2, rfl, hT, rfl, e1, e2⟩
    cases e1
    obtain ⟨t, et, rfl⟩ := map_get e2
    obtain ⟨⟨qa, qb, qn⟩, eq, htq⟩ := paired_get hq2 et
    have hi : i < sk.length := by rw [← hql]; simpa using hi
    have L := loop_ok (came := came) (vis_ok hin n) hok hn hf hin hfuel i (by omega)
    have hfu : fk.length ≤ n + (loopB (visB sk n) here came sk i (inB s here)).od.length := by
      have := L.od.length_le
      rw [List.length_append] at this
      simp only [List.length_cons, List.length_nil] at this
      omega
    have enx := loopB_succ (vis := visB sk n) (here := here) (came := came) (s := inB s here) eq
    generalize loopB (visB sk n) here came sk (i + 1) (inB s here) = snx at enx
    generalize loopB (visB sk n) here came sk i (inB s here) = si at B L hfu enx
    have hhere : here ∈ si.od := L.od.subset (by simp)
    have B := B.step (same_new (o := .tup [.int (i : Nat), .ref t]) hT)
    have hT2 : upd H2 T1 (.tup [.int (i : Nat), .ref t]) T1 = some (.tup [.int (i : Nat), .ref t]) := upd_same
    generalize upd H2 T1 (.tup [.int (i : Nat), .ref t]) = H1 at B hT2
    have ht1 : H1 t = some (.tup [.str qa, .str qb, .int qn]) := B.p_same _ _ htq
    refine ⟨T1, _, rfl, SqT.of hT2, rfl, _, _, rfl, _, _, rfl, t, _, rfl, SqT.of ht1, rfl, _, _, rfl, _, _, rfl, _, _, rfl, rfl, rfl, ?_⟩
    refine ⟨_, rfl, _, rfl, rfl, _, rfl, ifnD (fun hc => ?_) (fun hc => iteF ?_)⟩
    rotate_left
    · have hc : (i : Int) = came := by injection hc
      exact ⟨⟨_, _, _, _, _, rfl⟩, by rw [enx, stepB, if_neg (fun h => h.1 hc)]; exact ⟨_, _, _, _, _, _, B⟩⟩
    have hc : (i : Int) ≠ came := fun e => hc (by rw [e])
    refine ⟨_, rfl, _, rfl, _, rfl, (by show 2 ≤ sizeLine; decide), fun p hp => ⟨p, _, rfl, .inr (SqT.of upd_same), rfl, flat_strs [qa, qb], _, rfl, ?_⟩⟩
    show if inV (V.str here) ([qa, qb].map V.str) = true then _ else _
    rw [inV_strs]
    have B := B.step (same_new (o := .tup [.str qa, .str qb]) hp)
    generalize upd H1 p (.tup [.str qa, .str qb]) = H3 at B
    refine ifD (fun hm => ?_) (fun hm => ?_)
    rotate_left
    · exact ⟨⟨_, _, _, _, _, rfl⟩, by rw [enx, stepB, if_neg (fun h => hm (by simpa [hitS] using h.2))]; exact ⟨_, _, _, _, _, _, B⟩⟩
    have hit : hitS here (qa, qb, qn) := by simpa [hitS] using hm
    refine ⟨_, rfl, _, rfl, rfl, _, rfl, if_sel (t := .str (othr here (qa, qb, qn))) (fun e => ?_) (fun e => ?_) ?_⟩
    · have e : here = qa := by injection e
      simp [othr, e]
    · have e : ¬ here = qa := fun z => e (by rw [z])
      simp [othr, e]
    have enx : snx = if othr here (qa, qb, qn) ∉ si.od then aftB (visB sk n (pushB si i) (othr here (qa, qb, qn)) i) here (othr here (qa, qb, qn)) i
      else if ord si.od (othr here (qa, qb, qn)) < ord si.od here then putL (pushB si i) here (min (lwI si here) (ord si.od (othr here (qa, qb, qn)))) else si := by rw [enx, stepB, if_pos ⟨hc, hit⟩]
    have hyh : othr here (qa, qb, qn) ≠ here := (othr_hit hit (hin _ (List.mem_of_getElem? eq)).2.2).1
    have hodl2 : si.od.length ≤ 10 := Nat.le_trans L.ok.odl hfk
    have hmul : ∀ {a : Nat}, a ≤ 10 → a * sk.length ≤ 10 * 20 := fun {a} h => Nat.mul_le_mul h hsk
    have hskl : si.sk.length ≤ 500 := by
      have h1 := L.ls
      rw [Nat.succ_mul] at h1
      have h2 := hmul hodl2
      omega
    have M := fun hno => mid2_ok (vis_ok hin n) L eq hin hit hno hfu
    have hpush := push_ok L.ok eq hin hit hhere
    have hof := othr_mem eq hin hit
    have hfo : si.fo.length ≤ si.od.length := by have := L.lf; omega
    have hpl : (pushB si i).sk.length ≤ (pushB si i).od.length * sk.length := by
      show (si.sk ++ [i]).length ≤ si.od.length * sk.length
      have h1 := L.ls
      rw [Nat.succ_mul] at h1
      rw [List.length_append]
      simp only [List.length_cons, List.length_nil]
      omega
    generalize othr here (qa, qb, qn) = y at *
    by_cases hy : y ∈ si.od
    · rw [if_neg (fun h => h hy)] at enx
      refine ⟨_, rfl, _, rfl, bl, _, dx, _, _, rfl, B.p_ins, T.cl_Blocks, T.n_Blocks_order, rfl, d, _, rfl, dgetS B.p_od (ord_some hy), _, rfl, ?_⟩
      refine iteF ⟨_, rfl, bl, _, dx, _, _, rfl, B.p_ins, T.cl_Blocks, T.n_Blocks_order, rfl, _, rfl, d, _, rfl, dgetS B.p_od (ord_some hy), _, rfl, bl, _, dx, _, _, rfl, B.p_ins, T.cl_Blocks, T.n_Blocks_order, rfl, _, rfl, d, _, rfl, dgetS B.p_od (ord_some hhere), _, _, rfl, rfl, _, rfl, ifD (fun hlt => ?_) (fun hlt => ?_)⟩
      · rw [if_pos hlt] at enx
        refine ⟨_, rfl, bl, _, dx, _, _, rfl, B.p_ins, T.cl_Blocks, T.n_Blocks_stack, rfl, .inl ⟨rfl, _, SqL.of B.p_sk⟩, _, rfl, st, _, _, rfl, rfl, B.p_sk, by rw [nV, List.length_map]; exact szl (by omega), ?_⟩
        have B3 := B.push i
        generalize upd H3 st (.lst (nV si.sk ++ [.int (i : Int)])) = H4 at B3
        obtain ⟨kvs, k1, k2, k3⟩ := B3.p_lw
        obtain ⟨v, hv⟩ := L.ok.lw here hhere
        have hv := lwI_some hv
        refine ⟨_, rfl, bl, _, dx, _, _, rfl, B3.p_ins, T.cl_Blocks, T.n_Blocks_low, rfl, _, rfl, lo, _, rfl, B3.p_lw.get hv, _, rfl, bl, _, dx, _, _, rfl, B3.p_ins, T.cl_Blocks, T.n_Blocks_order, rfl, _, rfl, d, _, rfl, dgetS B3.p_od (ord_some hy), _, _, rfl, ?_⟩
        have hk3 : kvs.length ≤ si.od.length := k3
        refine ⟨_, rfl, bl, _, dx, _, _, rfl, B3.p_ins, T.cl_Blocks, T.n_Blocks_low, rfl, _, rfl, lo, _, rfl, DPut.k (k := Sum.inr here) k1 (szl (by omega)), ?_⟩
        rw [min_if]
        refine ⟨⟨_, _, _, _, _, rfl⟩, ?_⟩
        rw [enx]
        exact ⟨_, _, _, _, _, _, B3.putLow k1 k2 (by rw [length_putK_old (by rw [k2, hv]; simp)]; exact k3)⟩
      · rw [if_neg hlt] at enx
        rw [enx]
        exact ⟨⟨_, _, _, _, _, rfl⟩, ⟨_, _, _, _, _, _, B⟩⟩
    · rw [if_pos hy] at enx
      have M := M hy
      refine ⟨_, rfl, _, rfl, bl, _, dx, _, _, rfl, B.p_ins, T.cl_Blocks, T.n_Blocks_order, rfl, d, _, rfl, dgetSn B.p_od (ord_none hy), _, rfl, ?_⟩
      refine iteT ⟨_, rfl, bl, _, dx, _, _, rfl, B.p_ins, T.cl_Blocks, T.n_Blocks_stack, rfl, .inl ⟨rfl, _, SqL.of B.p_sk⟩, _, rfl, st, _, _, rfl, rfl, B.p_sk, by rw [nV, List.length_map]; exact szl (by omega), ?_⟩
      have B3 := B.push i
      generalize upd H3 st (.lst (nV si.sk ++ [.int (i : Int)])) = H4 at B3
      refine ⟨_, rfl, bl, _, dx, _, spVisit T n, rfl, B3.p_ins, rfl, ⟨T.cl_Blocks, _, n + 2, T.m_Blocks_visit, ih, hr⟩, _, rfl, _, rfl, bl, y, (i : Int), rfl, H0, ls, fk, sk, pushB si i, ⟨_, _, _, _, _, _, B3⟩, ⟨qs, hq1, hq2⟩, hin, hfk, hsk, hpush, hy, hof, hfu, hpl, hfo, fun H5 hB5 => ?_⟩
      generalize visB sk n (pushB si i) y i = s2 at *
      obtain ⟨dx, d, lo, st, fo, rs, B⟩ := hB5
      obtain ⟨S2, hS⟩ := M.pk
      have hh2 : here ∈ s2.od := M.od0.subset (by simp)
      have hy2 : y ∈ s2.od := M.od.subset (by simp)
      obtain ⟨v1, hv1⟩ := M.ok.lw here hh2
      obtain ⟨v2, hv2⟩ := M.ok.lw y hy2
      have hv1 := lwI_some hv1
      have hv2 := lwI_some hv2
      have hodl3 : s2.od.length ≤ 10 := Nat.le_trans M.ok.odl hfk
      obtain ⟨kvs, k1, k2, k3⟩ := B.p_lw
      refine ⟨_, rfl, bl, _, dx, _, _, rfl, B.p_ins, T.cl_Blocks, T.n_Blocks_low, rfl, _, rfl, lo, _, rfl, B.p_lw.get hv1, _, rfl, bl, _, dx, _, _, rfl, B.p_ins, T.cl_Blocks, T.n_Blocks_low, rfl, _, rfl, lo, _, rfl, B.p_lw.get hv2, _, _, rfl, ?_⟩
      refine ⟨_, rfl, bl, _, dx, _, _, rfl, B.p_ins, T.cl_Blocks, T.n_Blocks_low, rfl, _, rfl, lo, _, rfl, DPut.k (k := Sum.inr here) k1 (szl (by omega)), ?_⟩
      rw [min_if]
      have B4 : BkP T H0 bl ls _ (putL s2 here (min (lwI s2 here) (lwI s2 y))) dx d lo st fo rs := B.putLow k1 k2 (by rw [length_putK_old (by rw [k2, hv1]; simp)]; exact k3)
      have hlf : s2.fo.length ≤ 500 := by have := M.lf; omega
      have hls2 : s2.sk.length ≤ 500 := by
        have h1 := M.ls
        rw [Nat.succ_mul] at h1
        have h2 := hmul hodl3
        omega
      unfold aftB at enx
      have hw : (putL s2 here (min (lwI s2 here) (lwI s2 y))).lw y = some (lwI (putL s2 here (min (lwI s2 here) (lwI s2 y))) y) := by
        obtain ⟨v, hv⟩ := (M.ok.put here (min (lwI s2 here) (lwI s2 y))).lw y hy2
        exact lwI_some hv
      have hoh : (ordL (putL s2 here (min (lwI s2 here) (lwI s2 y))).od).lookup here = some (ord s2.od here) := ord_some hh2
      have hSk : (putL s2 here (min (lwI s2 here) (lwI s2 y))).sk = si.sk ++ i :: S2 := hS
      have hl1 : (putL s2 here (min (lwI s2 here) (lwI s2 y))).fo.length ≤ 1000 := by show s2.fo.length ≤ _; omega
      have hl2 : (putL s2 here (min (lwI s2 here) (lwI s2 y))).sk.length ≤ 1000 := by show s2.sk.length ≤ _; omega
      generalize putL s2 here (min (lwI s2 here) (lwI s2 y)) = s3 at *
      generalize upd H5 lo (.dK (putK kvs (Sum.inr here) (.int (min (lwI s2 here) (lwI s2 y))))) = H6 at B4
      refine ⟨_, rfl, bl, _, dx, _, _, rfl, B4.p_ins, T.cl_Blocks, T.n_Blocks_low, rfl, _, rfl, lo, _, rfl, B4.p_lw.get hw, _, rfl, bl, _, dx, _, _, rfl, B4.p_ins, T.cl_Blocks, T.n_Blocks_order, rfl, _, rfl, d, _, rfl, dgetS B4.p_od hoh, _, _, rfl, rfl, _, rfl, ifD (fun hge => ?_) (fun hge => ?_)⟩
      · rw [if_pos hge, closeB_eq hSk M.new] at enx
        refine ⟨_, rfl, bl, _, dx, _, spClose T, rfl, B4.p_ins, rfl, ⟨T.cl_Blocks, _, 2, T.m_Blocks_close, w_Blocks_close T, hr.mono (by omega)⟩, _, rfl, bl, i, rfl, H0, ls, s3, si.sk, S2, ⟨_, _, _, _, _, _, B4⟩, hSk, M.new, hl1, hl2, fun bk H7 hp1 hp2 hB7 => ⟨⟨_, _, _, _, _, rfl⟩, ?_⟩⟩
        rw [enx, ← sortN_uniq hp1 hp2]
        exact hB7
      · rw [if_neg hge] at enx
        rw [enx]
        exact ⟨⟨_, _, _, _, _, rfl⟩, ⟨_, _, _, _, _, _, B4⟩⟩
  · rintro σ H1 ⟨⟨a3, a4, a5, a6, a7, rfl⟩, hB⟩
    rw [hql] at hB
    exact q _ hB
theorem w_Blocks_visit (T : Txt P K mg) : ∀ n, FnN P w K mg base (n + 2) T.a_Blocks_visit (spVisit T n)
  | 0 => fun A outer s H us vs Q E hr e0 r hs => by
    exfalso
    obtain ⟨bl, here, came, _, H0, ls, fk, sk, s, _, _, _, _, _, hok, hn, hf, hl, _⟩ := hs
    have h2 : (s.od ++ [here]).length ≤ fk.length := nodup_len (by
      rw [List.nodup_append]
      exact ⟨hok.nd, by simp, fun a ha b hb => by simp at hb; rw [hb]; exact fun e => hn (e ▸ ha)⟩) (fun z hz => by
        rcases List.mem_append.mp hz with h1 | h1
        · exact hok.inn z h1
        · simp at h1; subst h1; exact hf)
    rw [List.length_append] at h2
    simp only [List.length_cons, List.length_nil] at h2
    omega
  | n + 1 => w_Blocks_visit_step T n (w_Blocks_visit T n)
theorem BkAt.pin {T : Txt P K mg} {H0 H H' : Hp} {bl ls lf : Addr} {s : Bs} {o : HO} (h : BkAt T H0 bl ls H s) (hn : H lf = none) (k : Same H H') (ho : H' lf = some o) : BkAt T (upd H0 lf o) bl ls H' s := by
  obtain ⟨dx, d, lo, st, fo, rs, B⟩ := h
  have n0 : ∀ {x : Addr} {u : HO}, H x = some u → H0 x = none → upd H0 lf o x = none := fun {x u} e e0 => by
    rw [upd_ne (ne_of_none e hn)]; exact e0
  obtain ⟨h1, h2, h3, h4, h5, h6, h7, h8, ⟨kvs, h9, h9b, h9c⟩, h10, h11, h12, h13, h14⟩ := B
  refine ⟨dx, d, lo, st, fo, rs, fun x u e => ?_, k _ _ h2, n0 h2 h3, n0 h8 h4, n0 h9 h5, n0 h11 h6, n0 h13 h7, k _ _ h8, ⟨kvs, k _ _ h9, h9b, h9c⟩, h10, k _ _ h11, h12, k _ _ h13, paired_imp (fun _ _ ⟨a, b, c, e⟩ => ⟨a, b, n0 e c, k _ _ e⟩) h14⟩
  by_cases e2 : x = lf
  · subst e2; rw [upd_same] at e; rw [← e]; exact ho
  · rw [upd_ne e2] at e; exact k _ _ (h1 _ _ e)
/-- a list of lists of ints -/
def LliAt (H : Hp) (l : Addr) (bs : List (List Int)) : Prop := ∃ rs, H l = some (.lst (rs.map V.ref)) ∧ Paired (fun r (b : List Int) => H r = some (.lst (b.map V.int))) rs bs
def spBlocks (T : Txt P K mg) : SpN := fun vs H Q => ∃ b, vs = [.ref b] ∧ ∃ S ps fs st, BnAt T H b S ps fs ∧ StAt T H S st ∧ SkIn st.fk st.sk ∧ st.fk.length ≤ 10 ∧ st.sk.length ≤ 20 ∧ ∀ l bs H', Same H H' → LliAt H' l bs → bs.Perm (blocksF st.fk st.sk).fo → bs.length ≤ 10 → Q (.ref l) H'
theorem sc_blocks : FnScope ["bench", "search", "name"] ["bench"] (defScope (top 45)) := ⟨rfl, rfl, rfl, by decide +kernel, rfl, by decide +kernel, by decide +kernel⟩
theorem w_blocks (T : Txt P K mg) : FnN P w K mg base (13 + 1) (T.a_blocks) (spBlocks T) := by
  refine fn_mk (k := 13) (T.f_blocks) sc_blocks (fun _ _ _ _ _ _ us hl => match us, hl with | [_], _ => rfl) (fun vs H Q h => by obtain ⟨b, rfl, h⟩ := h; rfl) fun cdv A outer s H vs Q hr h => ?_
  have hu := hu_of hr
  have sc := sc_blocks
  obtain ⟨b, rfl, h⟩ := h
  refine ⟨_, (pss_cons (ps_set (i := 1) sc.nd rfl (.inl rfl) (pe_mkr (by rfl) (pa_cons (pe_met0 (pv 0)) pa_nil)))
    (pss_cons (ps_for PassesOwn.never rfl (pi_list (pe_met0 (pv 0))) (pg_name (i := 2) sc.nd rfl (.inl rfl))
    (pss_one (ps_if (pt_cmp (pc_dnotin hu (pv 2) (pe_fld (pv 1) rfl)))
    (pss_one (ps_expr (pe_met (pv 1) (pa_cons (pv 2) (pa_cons (pe_un un_neg pe_int) pa_nil)))))
    pss_nil)))
    (pss_one (ps_ret (pe_callB (cr_sortD alikeL depthL (hu100 hr)) (by rfl) T.n_sorted (by decide +kernel) (pa_cons (pe_fld (pv 1) rfl) pa_nil)))))), ?_⟩
  obtain ⟨S, ps, fs, st, hb, hs, hin, hfk, hsk, q⟩ := h
  obtain ⟨dx, gs, h1, l1, l2, l3, l4, l5, l6, l7, l8, l9⟩ := hb.ins
  refine ⟨T.C_Blocks, spBlkInit T, ⟨T.g_Blocks, _, 1, T.mk_Blocks, w_Blocks_init T, hr.mono (by decide)⟩, ?_⟩
  refine ⟨_, rfl, b, _, dx, gs, _, rfl, h1, l8, ⟨T.cl_Bench, _, 1, T.m_Bench_strikes, w_Bench_strikes T, hr.mono (by decide)⟩, b, rfl, S, ps, fs, st, hb, hs, fun ls H1 hls s1 hsk1 => ?_⟩
  intro y dy hy hdy hne
  refine ⟨y, ls, rfl, dy, H1, upd_same, new_ins hy hdy hne, hy, fun H2 hB2 => ⟨rfl, ?_⟩⟩
  have s02 : Same H H2 := by
    obtain ⟨_, _, _, _, _, _, B⟩ := hB2
    exact same_trans s1 B.p_same
  refine ⟨_, rfl, b, _, dx, gs, _, rfl, s02 _ _ h1, l7, ⟨T.cl_Bench, _, 1, T.m_Bench_forks, w_Bench_forks T, hr.mono (by decide)⟩, b, rfl, S, ps, fs, st, hb.same s02, hs.at (same_kept s02), fun lf H3 hlf s3 hlf3 => ?_⟩
  have hB3 := hB2.pin hlf s3 hlf3
  have hlf1 : H1 lf = none := by
    obtain ⟨_, _, _, _, _, _, B⟩ := hB2
    cases e : H1 lf with
    | none => rfl
    | some u => exact absurd ((B.p_same _ _ e).symm.trans hlf) (by intro z; cases z)
  have s1p : Same H1 (upd H1 lf (.lst (st.fk.map V.str))) := same_new hlf1
  have hskP := sksAt_same hsk1 s1p
  have hsame : ∀ {G : Hp} {t : Bs}, BkAt T (upd H1 lf (.lst (st.fk.map V.str))) y ls G t → Same (upd H1 lf (.lst (st.fk.map V.str))) G := fun {G t} ⟨_, _, _, _, _, _, B⟩ => B.p_same
  have hlfp : (upd H1 lf (.lst (st.fk.map V.str))) lf = some (.lst (st.fk.map V.str)) := upd_same
  generalize upd H1 lf (.lst (st.fk.map V.str)) = H0 at hB3 s1p hskP hsame hlfp
  refine ⟨lf, rfl, ⟨_, SqL.of (hsame hB3 _ _ hlfp)⟩, for_it (walk_list (xs := st.fk.map V.str)) (fun i σ H' => (∃ a2, σ = [some (.ref b), some (.ref y), a2]) ∧ BkAt T H0 y ls H' ((st.fk.take i).foldl (blkStep st.fk st.sk) b0) ∧ Tops st.fk st.sk ((st.fk.take i).foldl (blkStep st.fk st.sk) b0))
    ⟨⟨_, rfl⟩, hB3, b0_ok⟩ (fun _ _ _ _ h => SqL.of (hsame h.2.1 _ _ hlfp)) ?_ ?_⟩
  · rintro i x σ H5 H4 hi ⟨⟨a2, rfl⟩, ⟨dx2, d, lo, sk2, fo, rs, B⟩, ht⟩ ⟨rfl, hx⟩
    obtain ⟨z, ez, rfl⟩ := map_get hx
    have zmem := List.mem_of_getElem? ez
    have enx : (st.fk.take (i + 1)).foldl (blkStep st.fk st.sk) b0 = blkStep st.fk st.sk ((st.fk.take i).foldl (blkStep st.fk st.sk) b0) z := by rw [List.take_add_one, ez, List.foldl_append]; rfl
    rw [enx]
    generalize (st.fk.take i).foldl (blkStep st.fk st.sk) b0 = s at B ht
    have ht2 := (blkStep_ok hin ht zmem).1
    by_cases hz : z ∈ s.od
    · refine ⟨_, rfl, _, rfl, y, _, dx2, _, _, rfl, B.p_ins, T.cl_Blocks, T.n_Blocks_order, rfl, d, _, rfl, dgetS B.p_od (ord_some hz), _, rfl, iteF ⟨⟨_, rfl⟩, ?_, ht2⟩⟩
      rw [blkStep, if_pos hz]
      exact ⟨_, _, _, _, _, _, B⟩
    · refine ⟨_, rfl, _, rfl, y, _, dx2, _, _, rfl, B.p_ins, T.cl_Blocks, T.n_Blocks_order, rfl, d, _, rfl, dgetSn B.p_od (ord_none hz), _, rfl, iteT ?_⟩
      refine ⟨_, rfl, y, _, dx2, _, spVisit T st.fk.length, rfl, B.p_ins, rfl, ⟨T.cl_Blocks, _, st.fk.length + 2, T.m_Blocks_visit, w_Blocks_visit T _, hr.mono (by omega)⟩, _, rfl, _, rfl, y, z, -1, rfl, H0, ls, st.fk, st.sk, s, ⟨_, _, _, _, _, _, B⟩, hskP, hin, hfk, hsk, ⟨ht.ok.nd, ht.ok.inn, ht.ok.lw, fun e he q hq => ?_⟩, hz, zmem, by omega, ht.ls, ht.lf, fun H6 hB6 => ⟨⟨_, rfl⟩, ?_, ht2⟩⟩
      · obtain ⟨a, b⟩ := ht.ok.en e he q hq
        exact ⟨List.mem_append_left _ a, List.mem_append_left _ b⟩
      · rw [blkStep, if_neg hz]
        exact hB6
  · rintro σ H4 ⟨⟨a2, rfl⟩, hB4, ht⟩
    rw [List.length_map, List.take_length] at hB4 ht
    have hres : (st.fk.foldl (blkStep st.fk st.sk) b0) = blocksF st.fk st.sk := rfl
    rw [hres] at hB4 ht
    have s04 : Same H H4 := same_trans s1 (same_trans s1p (hsame hB4))
    obtain ⟨dx2, d, lo, sk2, fo, rs, B⟩ := hB4
    have hfl : (blocksF st.fk st.sk).fo.length ≤ 10 := Nat.le_trans ht.lf (Nat.le_trans ht.ok.odl hfk)
    have hrl := Paired.length B.p_rs
    refine ⟨_, rfl, y, _, dx2, _, _, rfl, B.p_ins, T.cl_Blocks, T.n_Blocks_found, rfl, fo, rs.zip (blocksF st.fk st.sk).fo, rfl, ?_⟩
    have hz1 : (rs.zip (blocksF st.fk st.sk).fo).map (·.1) = rs := List.map_fst_zip (by omega)
    have hz2 : (rs.zip (blocksF st.fk st.sk).fo).map (·.2) = (blocksF st.fk st.sk).fo := List.map_snd_zip (by omega)
    have hzr := paired_zip B.p_rs
    rw [← hz2] at q hfl
    have hfo1 := B.p_fo
    rw [← hz1] at hfo1
    generalize rs.zip (blocksF st.fk st.sk).fo = zs at hzr q hfl hfo1
    rw [List.length_map] at hfl
    rw [List.map_map] at hfo1
    refine ⟨SqL.of hfo1, by omega, fun z hz => .lst (SqL.of (hzr z hz).2.2.2) (dp_ints z.2), .inr fun e he => ?_, fun p hp => ?_⟩
    · obtain ⟨z, _, rfl⟩ := List.mem_map.mp he
      exact ⟨(by intro z; cases z), (by intro xs z; cases z)⟩
    · have hpm : (zs.mergeSort (PySem.W.dataLe false fun z => encL z.2)).Perm zs := List.mergeSort_perm _ _
      refine q p ((zs.mergeSort (PySem.W.dataLe false fun z => encL z.2)).map (·.2)) _ (same_trans s04 (same_new hp)) ⟨(zs.mergeSort (PySem.W.dataLe false fun z => encL z.2)).map (·.1), ?_, ?_⟩ (hpm.map _) (by rw [List.length_map, hpm.length_eq]; exact hfl)
      · rw [upd_same, List.map_map]; rfl
      · exact zip_paired fun z hz => same_new hp _ _ (hzr z (hpm.mem_iff.mp hz)).2.2.2
end
end Fb
set_option maxHeartbeats 4000000
/-! Forkbeats: the order of walking, plainly; a new fork in it. -/
namespace Fb
open PySem PySem.Spec PyProof.Rows L2
/-- strikes of a bench -/
structure SkOk (fk : List Str) (sk : List Sk) : Prop where
  inn : ∀ q ∈ sk, q.1 ∈ fk ∧ q.2.1 ∈ fk ∧ q.1 ≠ q.2.1
  cnt : ∀ q ∈ sk, 0 ≤ q.2.2 ∧ q.2.2 ≤ big + 1
  len : sk.length ≤ 20
theorem nms_append (f g : List Ent) : nms (f ++ g) = nms f ++ nms g := List.map_append
theorem RowOk.append : ∀ {f : List Ent} {kn : List Str} {g : List Ent}, RowOk kn f → RowOk (kn ++ nms f) g → RowOk kn (f ++ g)
  | [], kn, g, _, h => by simpa [nms] using h
  | e :: f, kn, g, ⟨h1, h2, h3, h4⟩, h => ⟨h1, h2, h3, RowOk.append h4 (by simpa [nms] using h)⟩
theorem tie1_mem {fr : Str} {pl : List Str} {q : Sk} {t : Str × Int} (h : t ∈ tie1 fr pl q) : t.1 ∈ pl ∧ t.2 = q.2.2 ∧ (t.1 = q.2.1 ∧ q.1 = fr ∨ t.1 = q.1 ∧ q.2.1 = fr) := by
  unfold tie1 at h
  split at h
  · rename_i h1
    simp at h; subst h
    exact ⟨h1.2, rfl, .inl ⟨rfl, h1.1⟩⟩
  · split at h
    · rename_i h1
      simp at h; subst h
      exact ⟨h1.2, rfl, .inr ⟨rfl, h1.1⟩⟩
    · simp at h
theorem ties_ok {fk : List Str} {sk : List Sk} (S : SkOk fk sk) {fr : Str} {pl : List Str} : (∀ t ∈ tiesF fr (pl ++ [fr]) sk, t.1 ∈ pl ∧ 0 ≤ t.2 ∧ t.2 ≤ big + 1) ∧ (tiesF fr (pl ++ [fr]) sk).length ≤ 20 := by
  constructor
  · intro t ht
    obtain ⟨q, hq, h⟩ := List.mem_flatMap.mp ht
    obtain ⟨h1, h2, h3⟩ := tie1_mem h
    obtain ⟨c1, c2⟩ := S.cnt q hq
    refine ⟨?_, by omega, by omega⟩
    rcases List.mem_append.mp h1 with h | h
    · exact h
    · exfalso
      simp at h
      have := (S.inn q hq).2.2
      rcases h3 with ⟨a, b⟩ | ⟨a, b⟩
      · exact this (by rw [b, ← h, a])
      · exact this (by rw [b, ← h, a])
  · exact Nat.le_trans (tiesF_len ..) S.len
structure WI (fk : List Str) (f : List Ent) : Prop where
  ok : WOk fk f
  row : RowOk [] f
theorem WI.snoc {fk : List Str} {f : List Ent} (h : WI fk f) {z : Str} {ts : List (Str × Int)} (h1 : z ∉ nms f) (h2 : z ∈ fk) (h3 : ∀ t ∈ ts, t.1 ∈ nms f ∧ 0 ≤ t.2 ∧ t.2 ≤ big + 1) (h4 : ts.length ≤ 20) : WI fk (f ++ [(z, ts)]) :=
  ⟨h.ok.snoc h1 h2, h.row.append ⟨by simpa using h1, by simpa using h3, h4, trivial⟩⟩
theorem stepW_ok {fk : List Str} {sk : List Sk} (S : SkOk fk sk) {f : List Ent} (h : WI fk f) {q : Sk} (hq : q ∈ sk) : WI fk (stepW sk f q) := by
  obtain ⟨h1, h2, h3⟩ := S.inn q hq
  unfold stepW
  split
  · split
    · exact h
    · rename_i h5; exact h.snoc h5 h2 (ties_ok S).1 (ties_ok S).2
  · split
    · rename_i h5 h6; exact h.snoc h5 h1 (ties_ok S).1 (ties_ok S).2
    · exact h
theorem passW_ok {fk : List Str} {sk : List Sk} (S : SkOk fk sk) : ∀ {l : List Sk} {f : List Ent}, (∀ q ∈ l, q ∈ sk) → WI fk f → WI fk (l.foldl (stepW sk) f)
  | [], f, _, h => h
  | q :: l, f, hl, h => passW_ok S (l := l) (fun y hy => hl y (List.mem_cons_of_mem _ hy)) (stepW_ok S h (hl q (List.mem_cons_self ..)))
theorem walkN_ok {fk : List Str} {sk : List Sk} (S : SkOk fk sk) : ∀ (n : Nat) {f : List Ent}, WI fk f → WI fk (walkN sk n f)
  | 0, f, h => h
  | n + 1, f, h => walkN_ok S n (passW_ok S (fun _ h => h) h)
theorem walkN_grow (sk : List Sk) : ∀ (n : Nat) (f : List Ent), f <+: walkN sk n f
  | 0, f => List.prefix_rfl
  | n + 1, f => (passW_grow sk sk f).trans (walkN_grow sk n _)
theorem nms_prefix {f g : List Ent} (h : f <+: g) : ∀ z ∈ nms f, z ∈ nms g := by
  obtain ⟨t, rfl⟩ := h
  intro z hz
  rw [nms_append]
  exact List.mem_append_left _ hz
theorem ordStep_ok {fk : List Str} {sk : List Sk} (S : SkOk fk sk) {f : List Ent} (h : WI fk f) {z : Str} (hz : z ∈ fk) : WI fk (ordStep sk f z) := by
  unfold ordStep
  split
  · exact h
  · rename_i h1; exact walkN_ok S 20 (h.snoc h1 hz (by simp) (by simp))
theorem ordStep_grow (sk : List Sk) (f : List Ent) (z : Str) : f <+: ordStep sk f z ∧ z ∈ nms (ordStep sk f z) := by
  unfold ordStep
  split
  · exact ⟨List.prefix_rfl, by assumption⟩
  · have := walkN_grow sk 20 (f ++ [(z, [])])
    exact ⟨(List.prefix_append _ _).trans this, nms_prefix this z (by simp [nms])⟩
theorem ordFold_ok {fk : List Str} {sk : List Sk} (S : SkOk fk sk) : ∀ {l : List Str} {f : List Ent}, (∀ z ∈ l, z ∈ fk) → WI fk f → WI fk (l.foldl (ordStep sk) f) ∧ f <+: l.foldl (ordStep sk) f ∧ ∀ z ∈ l, z ∈ nms (l.foldl (ordStep sk) f)
  | [], f, _, h => ⟨h, List.prefix_rfl, by simp⟩
  | z :: l, f, hl, h => by
    obtain ⟨r1, r2, r3⟩ := ordFold_ok S (fun y hy => hl y (List.mem_cons_of_mem _ hy)) (ordStep_ok S h (hl z (List.mem_cons_self ..)))
    obtain ⟨g1, g2⟩ := ordStep_grow sk f z
    refine ⟨r1, g1.trans r2, fun y hy => ?_⟩
    rcases List.mem_cons.mp hy with e | e
    · rw [e]; exact nms_prefix r2 z g2
    · exact r3 y e
theorem orderF_ok {fk : List Str} {sk : List Sk} (S : SkOk fk sk) : WI fk (orderF fk sk) ∧ ∀ z ∈ fk, z ∈ nms (orderF fk sk) := by
  obtain ⟨h1, _, h2⟩ := ordFold_ok S (l := fk) (f := []) (fun _ h => h) ⟨⟨by simp [nms], by simp [nms]⟩, trivial⟩
  exact ⟨h1, h2⟩
theorem lev_names : ∀ (row : List Ent) (lv0 : Lvl), ∀ lv ∈ lev row lv0, lv.map (·.1) = lv0.map (·.1) ++ nms row ∧ lv0 <+: lv
  | [], lv0, lv, h => by
    simp [lev] at h
    subst h
    exact ⟨by simp [nms], List.prefix_rfl⟩
  | e :: row, lv0, lv, h => by
    have go : ∀ v, lv ∈ lev row (lv0 ++ [(e.1, v)]) → lv.map (·.1) = lv0.map (·.1) ++ nms (e :: row) ∧ lv0 <+: lv := fun v h => by
      obtain ⟨h1, h2⟩ := lev_names row _ lv h
      exact ⟨by rw [h1]; simp [nms], (List.prefix_append _ _).trans h2⟩
    unfold lev at h
    split at h
    · exact go _ h
    · obtain ⟨p, _, h⟩ := List.mem_flatMap.mp h
      exact go _ h
theorem lookup_isSome {l : List (Str × Int)} {z : Str} (h : z ∈ l.map (·.1)) : (l.lookup z).isSome = true := by
  cases e : l.lookup z with
  | some _ => rfl
  | none =>
    exfalso
    obtain ⟨v, hv, e2⟩ := List.mem_map.mp h
    have := List.lookup_eq_none_iff.mp e v hv
    rw [e2] at this
    simp at this
/-! ### a new fork -/
structure Nw (fk : List Str) (sk E : List Sk) (z k : Str) : Prop where
  inn : ∀ q ∈ sk, q.1 ∈ fk ∧ q.2.1 ∈ fk
  ex : ∀ q ∈ E, (q.1 = k ∧ q.2.1 = z) ∨ (q.1 = z ∧ q.2.1 = k)
  ne : E ≠ []
  k : k ∈ fk
  z : z ∉ fk
def zt (E : List Sk) (k : Str) : List (Str × Int) := E.map fun q => (k, q.2.2)
def Rz (E : List Sk) (z k : Str) (f f' : List Ent) : Prop := z ∉ nms f ∧ (f' = f ∨ ∃ pre suf, f = pre ++ suf ∧ f' = pre ++ (z, zt E k) :: suf ∧ k ∈ nms pre)
section
variable {fk : List Str} {sk E : List Sk} {z k : Str}
theorem Nw.kz (N : Nw fk sk E z k) : k ≠ z := fun e => N.z (e ▸ N.k)
theorem Rz.mem {f f' : List Ent} (h : Rz E z k f f') {y : Str} (hy : y ≠ z) : y ∈ nms f' ↔ y ∈ nms f := by
  rcases h.2 with e | ⟨pre, suf, rfl, rfl, _⟩
  · rw [e]
  · simp [nms, hy]
theorem Rz.kz {f f' : List Ent} (h : Rz E z k f f') (hz : z ∈ nms f') : k ∈ nms f := by
  rcases h.2 with e | ⟨pre, suf, rfl, rfl, hk⟩
  · rw [e] at hz; exact absurd hz h.1
  · rw [nms_append]; exact List.mem_append_left _ hk
theorem Rz.snoc {f f' : List Ent} (h : Rz E z k f f') {e : Ent} (he : e.1 ≠ z) : Rz E z k (f ++ [e]) (f' ++ [e]) := by
  refine ⟨fun hz => ?_, ?_⟩
  · rw [nms_append] at hz
    rcases List.mem_append.mp hz with h2 | h2
    · exact h.1 h2
    · simp [nms] at h2; exact he h2.symm
  · rcases h.2 with e2 | ⟨pre, suf, rfl, rfl, hk⟩
    · exact .inl (by rw [e2])
    · exact .inr ⟨pre, suf ++ [e], by simp, by simp, hk⟩
theorem tie1_congr {fr : Str} {pl pl' : List Str} {q : Sk} (h1 : q.1 ∈ pl ↔ q.1 ∈ pl') (h2 : q.2.1 ∈ pl ↔ q.2.1 ∈ pl') : tie1 fr pl q = tie1 fr pl' q := by
  unfold tie1
  simp only [h1, h2]
theorem flat_congr {α β : Type} {f g : α → List β} : ∀ {l : List α}, (∀ x ∈ l, f x = g x) → l.flatMap f = l.flatMap g
  | [], _ => rfl
  | x :: l, h => by rw [List.flatMap_cons, List.flatMap_cons, h x (List.mem_cons_self ..), flat_congr fun y hy => h y (List.mem_cons_of_mem _ hy)]
theorem flat_nil {α β : Type} {f : α → List β} : ∀ {l : List α}, (∀ x ∈ l, f x = []) → l.flatMap f = []
  | [], _ => rfl
  | x :: l, h => by rw [List.flatMap_cons, h x (List.mem_cons_self ..), flat_nil fun y hy => h y (List.mem_cons_of_mem _ hy)]; rfl
theorem Rz.ties (N : Nw fk sk E z k) {f f' : List Ent} (h : Rz E z k f f') {fr : Str} (hz : fr ≠ z) (hn : fr ∉ nms f) : tiesF fr (nms f' ++ [fr]) (sk ++ E) = tiesF fr (nms f ++ [fr]) sk := by
  have hm : ∀ y, y ≠ z → (y ∈ nms f' ++ [fr] ↔ y ∈ nms f ++ [fr]) := fun y hy => by
    rw [List.mem_append, List.mem_append, h.mem hy]
  have h1 : sk.flatMap (tie1 fr (nms f' ++ [fr])) = sk.flatMap (tie1 fr (nms f ++ [fr])) := flat_congr fun q hq => by
    obtain ⟨a, b⟩ := N.inn q hq
    exact tie1_congr (hm _ fun e => N.z (e ▸ a)) (hm _ fun e => N.z (e ▸ b))
  have h2 : E.flatMap (tie1 fr (nms f' ++ [fr])) = [] := flat_nil fun q hq => by
    have no : ¬ (fr = k ∧ z ∈ nms f' ++ [fr]) := fun ⟨a, b⟩ => by
      rcases List.mem_append.mp b with b | b
      · exact hn (a ▸ h.kz b)
      · simp at b; exact hz b.symm
    unfold tie1
    rcases N.ex q hq with ⟨a, b⟩ | ⟨a, b⟩
    · rw [a, b, if_neg (fun h => no ⟨h.1.symm, h.2⟩), if_neg (fun h => hz h.1.symm)]
    · rw [a, b, if_neg (fun h => hz h.1.symm), if_neg (fun h => no ⟨h.1.symm, h.2⟩)]
  rw [tiesF, List.flatMap_append, h1, h2, List.append_nil]; rfl
theorem ties_z (N : Nw fk sk E z k) {pl : List Str} (hk : k ∈ pl) : tiesF z (pl ++ [z]) (sk ++ E) = zt E k := by
  have h1 : sk.flatMap (tie1 z (pl ++ [z])) = [] := flat_nil fun q hq => by
    obtain ⟨a, b⟩ := N.inn q hq
    unfold tie1
    rw [if_neg (fun h : q.1 = z ∧ _ => N.z (h.1 ▸ a)), if_neg (fun h : q.2.1 = z ∧ _ => N.z (h.1 ▸ b))]
  have h2 : ∀ l : List Sk, (∀ q ∈ l, q ∈ E) → l.flatMap (tie1 z (pl ++ [z])) = l.map fun q => (k, q.2.2) := fun l => by
    induction l with
    | nil => intro _; rfl
    | cons q l ih =>
      intro hl
      have hk2 : k ∈ pl ++ [z] := List.mem_append_left _ hk
      have e : tie1 z (pl ++ [z]) q = [(k, q.2.2)] := by
        unfold tie1
        rcases N.ex q (hl q (List.mem_cons_self ..)) with ⟨a, b⟩ | ⟨a, b⟩
        · rw [a, b, if_neg (fun h => N.kz h.1), if_pos ⟨rfl, hk2⟩]
        · rw [a, b, if_pos ⟨rfl, hk2⟩]
      rw [List.flatMap_cons, e, ih fun y hy => hl y (List.mem_cons_of_mem _ hy)]; rfl
  rw [tiesF, List.flatMap_append, h1, h2 E fun _ h => h]; rfl
theorem Rz.step (N : Nw fk sk E z k) {f f' : List Ent} (h : Rz E z k f f') {q : Sk} (hq : q ∈ sk) : Rz E z k (stepW sk f q) (stepW (sk ++ E) f' q) := by
  obtain ⟨a, b⟩ := N.inn q hq
  have az : q.1 ≠ z := fun e => N.z (e ▸ a)
  have bz : q.2.1 ≠ z := fun e => N.z (e ▸ b)
  unfold stepW
  simp only [h.mem az, h.mem bz]
  split
  · split
    · exact h
    · rename_i h2; rw [h.ties N bz h2]; exact h.snoc bz
  · split
    · rename_i h2 _; rw [h.ties N az h2]; exact h.snoc az
    · exact h
theorem Rz.stepE (N : Nw fk sk E z k) {f f' : List Ent} (h : Rz E z k f f') {q : Sk} (hq : q ∈ E) : Rz E z k f (stepW (sk ++ E) f' q) ∧ (k ∈ nms f → z ∈ nms (stepW (sk ++ E) f' q)) := by
  have key : stepW (sk ++ E) f' q = if k ∈ nms f' then (if z ∈ nms f' then f' else f' ++ [(z, tiesF z (nms f' ++ [z]) (sk ++ E))]) else (if z ∈ nms f' then f' ++ [(k, tiesF k (nms f' ++ [k]) (sk ++ E))] else f') := by
    unfold stepW
    rcases N.ex q hq with ⟨a, b⟩ | ⟨a, b⟩ <;> rw [a, b]
    by_cases h1 : k ∈ nms f' <;> by_cases h2 : z ∈ nms f' <;> simp [h1, h2]
  rw [key]
  by_cases h1 : k ∈ nms f'
  · rw [if_pos h1]
    by_cases h2 : z ∈ nms f'
    · rw [if_pos h2]; exact ⟨h, fun _ => h2⟩
    · rw [if_neg h2, ties_z N h1]
      have e : f' = f := by
        rcases h.2 with e | ⟨pre, suf, rfl, rfl, _⟩
        · exact e
        · exact absurd (by simp [nms]) h2
      subst e
      exact ⟨⟨h.1, .inr ⟨f', [], by simp, by simp, h1⟩⟩, fun _ => by simp [nms]⟩
  · rw [if_neg h1, if_neg (fun h2 => h1 ((h.mem N.kz).mpr (h.kz h2)))]
    exact ⟨h, fun h2 => absurd ((h.mem N.kz).mpr h2) h1⟩
theorem Rz.foldS (N : Nw fk sk E z k) : ∀ {l : List Sk} {f f' : List Ent}, (∀ q ∈ l, q ∈ sk) → Rz E z k f f' → Rz E z k (l.foldl (stepW sk) f) (l.foldl (stepW (sk ++ E)) f')
  | [], _, _, _, h => h
  | q :: l, f, f', hl, h => Rz.foldS N (l := l) (fun y hy => hl y (List.mem_cons_of_mem _ hy)) (h.step N (hl q (List.mem_cons_self ..)))
theorem Rz.foldE (N : Nw fk sk E z k) : ∀ {l : List Sk} {f f' : List Ent}, (∀ q ∈ l, q ∈ E) → Rz E z k f f' → (k ∈ nms f → z ∈ nms f') → Rz E z k f (l.foldl (stepW (sk ++ E)) f') ∧ (k ∈ nms f → z ∈ nms (l.foldl (stepW (sk ++ E)) f'))
  | [], _, _, _, h, h2 => ⟨h, h2⟩
  | q :: l, f, f', hl, h, h2 => by
    obtain ⟨a, b⟩ := h.stepE N (hl q (List.mem_cons_self ..))
    exact Rz.foldE N (l := l) (fun y hy => hl y (List.mem_cons_of_mem _ hy)) a b
/-- behind each pass -/
def Jz (E : List Sk) (z k : Str) (f f' : List Ent) : Prop := Rz E z k f f' ∧ (k ∈ nms f → z ∈ nms f')
theorem Rz.pass (N : Nw fk sk E z k) {f f' : List Ent} (h : Rz E z k f f') : Jz E z k (passW sk f) (passW (sk ++ E) f') := by
  have h1 := Rz.foldS N (l := sk) (fun _ h => h) h
  unfold passW
  rw [List.foldl_append]
  obtain ⟨q, E', hE⟩ := List.exists_cons_of_ne_nil N.ne
  have hq : q ∈ E := by rw [hE]; exact List.mem_cons_self ..
  obtain ⟨a, b⟩ := h1.stepE N hq
  have : ∀ g : List Ent, E.foldl (stepW (sk ++ E)) g = E'.foldl (stepW (sk ++ E)) (stepW (sk ++ E) g q) := fun g => by
    conv => lhs; arg 3; rw [hE]
    rfl
  rw [this]
  exact Rz.foldE N (l := E') (fun y hy => by rw [hE]; exact List.mem_cons_of_mem _ hy) a b
theorem Rz.walk (N : Nw fk sk E z k) : ∀ (n : Nat) {f f' : List Ent}, Rz E z k f f' → Jz E z k (walkN sk (n + 1) f) (walkN (sk ++ E) (n + 1) f')
  | 0, _, _, h => h.pass N
  | n + 1, _, _, h => Rz.walk N n (h.pass N).1
theorem Jz.ord (N : Nw fk sk E z k) {f f' : List Ent} (h : Jz E z k f f') {y : Str} (hy : y ∈ fk) : Jz E z k (ordStep sk f y) (ordStep (sk ++ E) f' y) := by
  have yz : y ≠ z := fun e => N.z (e ▸ hy)
  unfold ordStep
  simp only [h.1.mem yz]
  split
  · exact h
  · exact (h.1.snoc yz).walk N 19
theorem Jz.fold (N : Nw fk sk E z k) : ∀ {l : List Str} {f f' : List Ent}, (∀ y ∈ l, y ∈ fk) → Jz E z k f f' → Jz E z k (l.foldl (ordStep sk) f) (l.foldl (ordStep (sk ++ E)) f')
  | [], _, _, _, h => h
  | y :: l, f, f', hl, h => Jz.fold N (l := l) (fun x hx => hl x (List.mem_cons_of_mem _ hx)) (h.ord N (hl y (List.mem_cons_self ..)))
theorem order_new (N : Nw fk sk E z k) (S : SkOk fk sk) : ∃ pre suf, orderF fk sk = pre ++ suf ∧ orderF (fk ++ [z]) (sk ++ E) = pre ++ (z, zt E k) :: suf ∧ k ∈ nms pre := by
  have J : Jz E z k (orderF fk sk) (fk.foldl (ordStep (sk ++ E)) []) := Jz.fold N (fun _ h => h) ⟨⟨by simp [nms], .inl rfl⟩, fun h => by simp [nms] at h⟩
  have hz := J.2 ((orderF_ok S).2 k N.k)
  have e : orderF (fk ++ [z]) (sk ++ E) = fk.foldl (ordStep (sk ++ E)) [] := by
    rw [orderF, List.foldl_append]
    show ordStep _ _ z = _
    rw [ordStep, if_pos hz]
  rw [e]
  rcases J.1.2 with e2 | h
  · rw [e2] at hz; exact absurd hz J.1.1
  · exact h
end
end Fb
set_option maxHeartbeats 4000000
/-! Forkbeats: the levels with a new fork. -/
namespace Fb
open PySem PySem.Spec PyProof.Rows L2
theorem lvOf_ins {l1 l2 : Lvl} {z y : Str} {p : Int} (h : y ≠ z) : lvOf (l1 ++ (z, p) :: l2) y = lvOf (l1 ++ l2) y := by
  unfold lvOf
  have e : (y == z) = false := by simp [h]
  rw [List.lookup_append, List.lookup_append, List.lookup_cons, e]
theorem lvOf_pre {l1 lv : Lvl} {y : Str} (h : l1 <+: lv) (hy : y ∈ l1.map (·.1)) : lvOf lv y = lvOf l1 y := by
  obtain ⟨t, rfl⟩ := h
  unfold lvOf
  rw [List.lookup_append]
  have := lookup_isSome hy
  cases e : l1.lookup y with
  | none => rw [e] at this; cases this
  | some v => rfl
theorem lvOf_z {l1 l2 : Lvl} {z : Str} {p : Int} (h : z ∉ l1.map (·.1)) : lvOf (l1 ++ (z, p) :: l2) z = p := by
  unfold lvOf
  rw [List.lookup_append, lookup_none h, List.lookup_cons]
  simp
theorem okF_congr {p : Int} {lv lv' ts : Lvl} (h : ∀ q ∈ ts, lvOf lv q.1 = lvOf lv' q.1) : okF p lv ts = okF p lv' ts := by
  unfold okF
  induction ts with
  | nil => rfl
  | cons q ts ih =>
    simp only [List.all_cons]
    rw [h q (List.mem_cons_self ..), ih fun r hr => h r (List.mem_cons_of_mem _ hr)]
theorem choicesF_congr {lv lv' ts : Lvl} (h : ∀ q ∈ ts, lvOf lv q.1 = lvOf lv' q.1) : choicesF lv ts = choicesF lv' ts := by
  cases ts with
  | nil => rfl
  | cons q ts =>
    show ((marks q.2).map fun k => lvOf lv q.1 + k).filter (fun p => okF p lv (q :: ts)) = ((marks q.2).map fun k => lvOf lv' q.1 + k).filter (fun p => okF p lv' (q :: ts))
    rw [h q (List.mem_cons_self ..)]
    congr 1
    funext p
    exact okF_congr h
theorem lev_append : ∀ (a b : List Ent) (lv : Lvl), lev (a ++ b) lv = (lev a lv).flatMap (lev b)
  | [], b, lv => by simp [lev]
  | e :: a, b, lv => by
    show lev (e :: (a ++ b)) lv = _
    unfold lev
    split
    · exact lev_append a b _
    · rw [List.flatMap_assoc]
      exact flat_congr fun p _ => lev_append a b _
theorem map_flat {α β γ : Type} (f : β → γ) (g : α → List β) : ∀ l : List α, (l.flatMap g).map f = l.flatMap fun x => (g x).map f
  | [] => rfl
  | x :: l => by rw [List.flatMap_cons, List.map_append, map_flat f g l, List.flatMap_cons]
theorem flat_map {α β γ : Type} (f : β → List γ) (g : α → β) : ∀ l : List α, (l.map g).flatMap f = l.flatMap fun x => f (g x)
  | [] => rfl
  | x :: l => by rw [List.map_cons, List.flatMap_cons, flat_map f g l, List.flatMap_cons]
theorem lev_ins {z : Str} {p : Int} : ∀ (suf : List Ent) (l1 l2 : Lvl), (∀ e ∈ suf, ∀ q ∈ e.2, q.1 ≠ z) → lev suf (l1 ++ (z, p) :: l2) = (lev suf (l1 ++ l2)).map fun lv => l1 ++ (z, p) :: lv.drop l1.length
  | [], l1, l2, _ => by simp [lev]
  | e :: suf, l1, l2, h => by
    have go : ∀ v, lev suf (l1 ++ (z, p) :: l2 ++ [(e.1, v)]) = (lev suf (l1 ++ l2 ++ [(e.1, v)])).map fun lv => l1 ++ (z, p) :: lv.drop l1.length := fun v => by
      have := lev_ins (p := p) suf l1 (l2 ++ [(e.1, v)]) fun e he => h e (List.mem_cons_of_mem _ he)
      simpa using this
    have he := h e (List.mem_cons_self ..)
    unfold lev
    cases e2 : e.2 with
    | nil => exact go 0
    | cons q ts =>
      rw [e2] at he
      dsimp only
      rw [map_flat, choicesF_congr (lv' := l1 ++ l2) fun q hq => lvOf_ins (he q hq)]
      exact flat_congr fun v _ => go v
theorem RowOk.ties : ∀ {f : List Ent} {kn : List Str}, RowOk kn f → ∀ e ∈ f, ∀ q ∈ e.2, q.1 ∈ kn ++ nms f
  | [], _, _, e, he, _, _ => by cases he
  | e' :: f, kn, ⟨h1, h2, h3, h4⟩, e, he, q, hq => by
    rcases List.mem_cons.mp he with h | h
    · subst h; exact List.mem_append_left _ (h2 q hq).1
    · have := RowOk.ties h4 e h q hq
      simpa [nms] using this
theorem flat_perm {α β : Type} {f g : α → List β} : ∀ {l : List α}, (∀ x ∈ l, (f x).Perm (g x)) → (l.flatMap f).Perm (l.flatMap g)
  | [], _ => .refl _
  | x :: l, h => by
    rw [List.flatMap_cons, List.flatMap_cons]
    exact (h x (List.mem_cons_self ..)).append (flat_perm fun y hy => h y (List.mem_cons_of_mem _ hy))
theorem flat_perm_l {α β : Type} {f : α → List β} {l l' : List α} (h : l.Perm l') : (l.flatMap f).Perm (l'.flatMap f) := by
  induction h with
  | nil => exact .refl _
  | cons x _ ih => rw [List.flatMap_cons, List.flatMap_cons]; exact ih.append_left _
  | swap x y l =>
    simp only [List.flatMap_cons]
    rw [← List.append_assoc, ← List.append_assoc]
    exact List.perm_append_comm.append_right _
  | trans _ _ h1 h2 => exact h1.trans h2
theorem flat_two {α β : Type} (g h : α → List β) : ∀ l : List α, (l.flatMap fun x => g x ++ h x).Perm (l.flatMap g ++ l.flatMap h)
  | [] => .refl _
  | x :: l => by
    simp only [List.flatMap_cons]
    have ih := flat_two g h l
    have e1 : (g x ++ h x ++ (l.flatMap g ++ l.flatMap h)).Perm (g x ++ l.flatMap g ++ (h x ++ l.flatMap h)) := by
      rw [List.append_assoc, List.append_assoc]
      refine List.Perm.append_left _ ?_
      rw [← List.append_assoc, ← List.append_assoc]
      exact List.perm_append_comm.append_right _
    exact (ih.append_left _).trans e1
theorem flat_single {β γ : Type} (f : β → γ) : ∀ bs : List β, (bs.flatMap fun b => [f b]) = bs.map f
  | [] => rfl
  | b :: bs => by rw [List.flatMap_cons, flat_single f bs]; rfl
theorem flat_swap {α β γ : Type} (g : α → β → γ) (bs : List β) : ∀ as : List α, (as.flatMap fun a => bs.map (g a)).Perm (bs.flatMap fun b => as.map fun a => g a b)
  | [] => by
    rw [List.flatMap_nil, show (bs.flatMap fun b => ([] : List α).map fun a => g a b) = [] from flat_nil (fun _ _ => rfl)]
  | a :: as => by
    rw [List.flatMap_cons]
    have h1 : (bs.flatMap fun b => (a :: as).map fun a => g a b) = bs.flatMap fun b => [g a b] ++ as.map fun a => g a b := rfl
    rw [h1]
    refine List.Perm.trans ?_ (flat_two (fun b => [g a b]) (fun b => as.map fun a => g a b) bs).symm
    rw [flat_single (g a) bs]
    exact (flat_swap g bs as).append_left _
/-! ### the order of rows -/
theorem rowLe_eq (a b : List Int) : rowLe a b = decide (a ≤ b) := by
  show (!PySem.W.dataLt (.tuple (b.map .int)) (.tuple (a.map .int))) = _
  rw [PySem.W.dataLt_tuple]
  show (!PySem.W.rowLt (b.map .int) (a.map .int)) = _
  rw [PySem.W.dataLt_ints]
  by_cases h : b < a
  · have h' : ¬ a ≤ b := fun r => List.not_lt.mpr r h
    simp [h, h']
  · have h' : a ≤ b := List.not_lt.mp h
    simp [h, h']
theorem sortRows_pw (l : List (List Int)) : (sortRows l).Pairwise (· ≤ ·) := by
  have := List.pairwise_mergeSort (le := rowLe) (fun a b c => by rw [rowLe_eq, rowLe_eq, rowLe_eq]; simp; exact fun h1 h2 => List.le_trans h1 h2) (fun a b => by rw [rowLe_eq, rowLe_eq]; simp; exact List.le_total a b) l
  exact this.imp fun h => by rw [rowLe_eq] at h; simpa using h
theorem sortRows_perm (l : List (List Int)) : (sortRows l).Perm l := List.mergeSort_perm _ _
theorem rows_eq {l1 l2 : List (List Int)} (h : l1.Perm l2) (h1 : l1.Pairwise (· ≤ ·)) (h2 : l2.Pairwise (· ≤ ·)) : l1 = l2 :=
  h.eq_of_pairwise (le := (· ≤ ·)) (fun a b _ _ h1 h2 => List.le_antisymm h1 h2) h1 h2
theorem sortRows_congr {l1 l2 : List (List Int)} (h : l1.Perm l2) : sortRows l1 = sortRows l2 := rows_eq ((sortRows_perm l1).trans (h.trans (sortRows_perm l2).symm)) (sortRows_pw l1) (sortRows_pw l2)
theorem sortRows_filter (p : List Int → Bool) (l : List (List Int)) : (sortRows l).filter p = sortRows (l.filter p) :=
  rows_eq (((sortRows_perm l).filter p).trans (sortRows_perm _).symm) ((sortRows_pw l).filter _) (sortRows_pw _)
/-! ### the rows of the larger bench -/
section
variable {fk : List Str} {sk E : List Sk} {z k : Str}
/-- each row with its choices -/
def extR (ki : Nat) (cs : List Int) (row : List Int) : List (List Int) := cs.map fun m => row ++ [row.getD ki 0 + m]
theorem rowOf_getD {lv : Lvl} {ki : Nat} (h : fk[ki]? = some k) : (rowOf fk lv).getD ki 0 = lvOf lv k := by
  rw [rowOf, List.getD_eq_getElem?_getD, List.getElem?_map, h]; rfl
theorem lev_new (N : Nw fk sk E z k) (S : SkOk fk sk) {ki : Nat} (hki : fk[ki]? = some k) (cs : List Int) (hcs : ∀ l1 : Lvl, choicesF l1 (zt E k) = cs.map fun m => lvOf l1 k + m) :
    ((lev (orderF (fk ++ [z]) (sk ++ E)) []).map (rowOf (fk ++ [z]))).Perm (((lev (orderF fk sk) []).map (rowOf fk)).flatMap (extR ki cs)) := by
  obtain ⟨pre, suf, e0, e1, hk⟩ := order_new N S
  obtain ⟨⟨hw, hrow⟩, _⟩ := orderF_ok S
  rw [e0] at hrow hw
  have hsz : ∀ e ∈ suf, ∀ q ∈ e.2, q.1 ≠ z := fun e he q hq e2 => by
    have := hrow.ties e (List.mem_append_right _ he) q hq
    rw [List.nil_append] at this
    exact N.z (e2 ▸ hw.2 _ this)
  have hzn : z ∉ nms pre := fun h => N.z (hw.2 z (by rw [nms_append]; exact List.mem_append_left _ h))
  rw [e0, e1, lev_append, lev_append]
  have zt_ne : ∃ q ts, zt E k = q :: ts := by
    obtain ⟨q, E', hE⟩ := List.exists_cons_of_ne_nil N.ne
    exact ⟨_, _, by rw [zt, hE]; rfl⟩
  obtain ⟨q0, ts0, ezt⟩ := zt_ne
  have hl1 : ∀ l1, lev ((z, zt E k) :: suf) l1 = (cs.map fun m => lvOf l1 k + m).flatMap fun p => lev suf (l1 ++ [(z, p)]) := fun l1 => by
    rw [← hcs l1]
    show (match zt E k with
      | [] => lev suf (l1 ++ [(z, 0)])
      | q :: ts => (choicesF l1 (q :: ts)).flatMap fun p => lev suf (l1 ++ [(z, p)])) = _
    rw [ezt]
  rw [map_flat, map_flat, List.flatMap_assoc]
  refine flat_perm fun l1 hm => ?_
  obtain ⟨n1, _⟩ := lev_names pre [] l1 hm
  have n1 : l1.map (·.1) = nms pre := by simpa using n1
  have hzl : z ∉ l1.map (·.1) := by rw [n1]; exact hzn
  have hkl : k ∈ l1.map (·.1) := by rw [n1]; exact hk
  rw [hl1, flat_map, map_flat]
  have hrow1 : ∀ p, (lev suf (l1 ++ [(z, p)])).map (rowOf (fk ++ [z])) = (lev suf l1).map fun lv => rowOf fk lv ++ [p] := fun p => by
    have := lev_ins (z := z) (p := p) suf l1 [] hsz
    rw [List.append_nil] at this
    rw [this, List.map_map]
    refine List.map_congr_left fun lv hlv => ?_
    obtain ⟨_, hpre⟩ := lev_names suf l1 lv hlv
    show rowOf (fk ++ [z]) (l1 ++ (z, p) :: lv.drop l1.length) = _
    rw [rowOf, List.map_append]
    have hlv2 : l1 ++ lv.drop l1.length = lv := by
      obtain ⟨t, rfl⟩ := hpre
      simp
    congr 1
    · refine List.map_congr_left fun y hy => ?_
      have hyz : y ≠ z := fun e => N.z (e ▸ hy)
      rw [lvOf_ins hyz, hlv2]
    · show [lvOf _ z] = [p]
      rw [lvOf_z hzl]
  have e2 : (cs.flatMap fun x => (lev suf (l1 ++ [(z, lvOf l1 k + x)])).map (rowOf (fk ++ [z]))) = cs.flatMap fun x => (lev suf l1).map fun lv => rowOf fk lv ++ [lvOf l1 k + x] := flat_congr fun m _ => hrow1 _
  rw [e2]
  refine (flat_swap (fun m lv => rowOf fk lv ++ [lvOf l1 k + m]) (lev suf l1) cs).trans ?_
  rw [flat_map]
  refine flat_perm fun lv hlv => ?_
  obtain ⟨_, hpre⟩ := lev_names suf l1 lv hlv
  have : (extR ki cs (rowOf fk lv)) = cs.map fun m => rowOf fk lv ++ [lvOf l1 k + m] := by
    rw [extR, rowOf_getD hki, lvOf_pre hpre hkl]
  rw [this]
theorem keptR_ext {fc : List (Addr × Fx)} (hz : z ∉ fk) (hfc : ∀ q ∈ fc, ∀ y ∈ q.2.names, y ∈ fk) {row : List Int} (hl : row.length = fk.length) (p : Int) : keptR (fk ++ [z]) fc (row ++ [p]) = keptR fk fc row := by
  unfold keptR
  have hzip : (fk ++ [z]).zip (row ++ [p]) = fk.zip row ++ [(z, p)] := by
    rw [List.zip_append hl.symm]; rfl
  have : ∀ l : List (Addr × Fx), (∀ q ∈ l, ∀ y ∈ q.2.names, y ∈ fk) → (l.all fun q => q.2.ev (lvOf ((fk ++ [z]).zip (row ++ [p])))) = l.all fun q => q.2.ev (lvOf (fk.zip row)) := fun l => by
    induction l with
    | nil => intro _; rfl
    | cons q l ih =>
      intro h
      simp only [List.all_cons]
      rw [ih fun r hr => h r (List.mem_cons_of_mem _ hr), Fx.ev_congr (g := lvOf (fk.zip row)) fun y hy => ?_]
      have hyf := h q (List.mem_cons_self ..) y hy
      have hyz : y ≠ z := fun e => hz (e ▸ hyf)
      rw [hzip, lvOf_ins (l2 := []) hyz, List.append_nil]
  exact this fc hfc
theorem filter_flat {α β : Type} (p : β → Bool) (f : α → List β) (q : α → Bool) : ∀ l : List α, (∀ x ∈ l, ∀ y ∈ f x, p y = q x) → (l.flatMap f).filter p = (l.filter q).flatMap f
  | [], _ => rfl
  | x :: l, h => by
    rw [List.flatMap_cons, List.filter_append, filter_flat p f q l fun y hy => h y (List.mem_cons_of_mem _ hy)]
    have hx := h x (List.mem_cons_self ..)
    cases e : q x with
    | true =>
      rw [List.filter_cons, e, if_pos rfl, List.flatMap_cons]
      congr 1
      exact List.filter_eq_self.mpr fun y hy => by rw [hx y hy, e]
    | false =>
      rw [List.filter_cons, e, if_neg (by simp)]
      rw [List.filter_eq_nil_iff.mpr fun y hy => by rw [hx y hy, e]; simp]
      rfl
/-- the fittings with a new fork -/
theorem fits_new (N : Nw fk sk E z k) (S : SkOk fk sk) {fc : List (Addr × Fx)} (hfc : ∀ q ∈ fc, ∀ y ∈ q.2.names, y ∈ fk) {ki : Nat} (hki : fk[ki]? = some k) (cs : List Int) (hcs : ∀ l1 : Lvl, choicesF l1 (zt E k) = cs.map fun m => lvOf l1 k + m) :
    fitsF ⟨fk ++ [z], sk ++ E, fc⟩ = sortRows ((fitsF ⟨fk, sk, fc⟩).flatMap (extR ki cs)) := by
  have h1 := lev_new N S hki cs hcs
  show (sortRows ((lev (orderF (fk ++ [z]) (sk ++ E)) []).map (rowOf (fk ++ [z])))).filter (keptR (fk ++ [z]) fc) = sortRows (((sortRows ((lev (orderF fk sk) []).map (rowOf fk))).filter (keptR fk fc)).flatMap (extR ki cs))
  rw [sortRows_filter, sortRows_filter]
  refine sortRows_congr ((h1.filter _).trans ?_)
  have hrl : ∀ row ∈ (lev (orderF fk sk) []).map (rowOf fk), row.length = fk.length := fun row h => by
    obtain ⟨lv, _, rfl⟩ := List.mem_map.mp h
    rw [rowOf, List.length_map]
  rw [filter_flat (keptR (fk ++ [z]) fc) (extR ki cs) (keptR fk fc) _ fun row hr y hy => ?_]
  · exact flat_perm_l (sortRows_perm _).symm
  · obtain ⟨m, _, rfl⟩ := List.mem_map.mp hy
    exact keptR_ext N.z hfc (hrl row hr) _
/-! ### choices of the new fork -/
theorem choices_same {lv : Lvl} {c : Int} (hc : 0 ≤ c) (n : Nat) : choicesF lv (List.replicate (n + 1) (k, c)) = (marks c).map fun m => lvOf lv k + m := by
  show ((marks c).map fun m => lvOf lv k + m).filter (fun p => okF p lv (List.replicate (n + 1) (k, c))) = _
  refine List.filter_eq_self.mpr fun p hp => ?_
  obtain ⟨m, hm, rfl⟩ := List.mem_map.mp hp
  have := (marks_mem c m).mp hm
  unfold okF
  rw [List.all_eq_true]
  intro q hq
  have := List.eq_of_mem_replicate hq
  subst this
  have e : iabs (lvOf lv k + m - lvOf lv k) = c := by unfold iabs; split <;> omega
  simp [e]
theorem choices_none {lv : Lvl} {c : Int} : choicesF lv [(k, c), (k, c + 1)] = [] := by
  show ((marks c).map fun m => lvOf lv k + m).filter (fun p => okF p lv [(k, c), (k, c + 1)]) = _
  refine List.filter_eq_nil_iff.mpr fun p _ => ?_
  simp only [okF, List.all_cons, List.all_nil, Bool.and_true, Bool.and_eq_true, decide_eq_true_eq]
  omega
theorem flat_nil' {α β : Type} (l : List α) : (l.flatMap fun _ => ([] : List β)) = [] := flat_nil fun _ _ => rfl
theorem ext_nil : ∀ (rows : List (List Int)) (ki : Nat), rows.flatMap (extR ki []) = [] := fun rows ki => flat_nil fun _ _ => rfl
theorem sortRows_nil : sortRows [] = [] := by
  have := (sortRows_perm []).length_eq
  exact List.eq_nil_of_length_eq_zero this
end
end Fb
set_option maxHeartbeats 4000000
/-! Forkbeats: the law's bag. -/
namespace Fb
open PySem PySem.Spec PyProof.Rows L2
/-- the bag at a -/
def BagAt (H : Hp) (a cl : Addr) : Prop := ∃ (n c : Int) (i : Nat) (bs : Int) (cells : List Int), H a = some (.lst [.int n, .int c, .int (i : Int), .int bs, .ref cl]) ∧ cl ≠ a ∧ H cl = some (.lst (cells.map V.int)) ∧
  (∀ x ∈ cells, 0 ≤ x) ∧ i ≤ cells.length ∧ 0 ≤ bs ∧ bs < 2147483647
theorem BagAt.same {H H' : Hp} {a cl : Addr} (h : BagAt H a cl) (k : Same H H') : BagAt H' a cl := by
  obtain ⟨n, c, i, bs, cells, h1, h2, h3, h4⟩ := h
  exact ⟨n, c, i, bs, cells, k _ _ h1, h2, k _ _ h3, h4⟩
theorem BagAt.but {H H' : Hp} {a cl b : Addr} (h : BagAt H a cl) (k : But b H H') (hb : ∀ xs, H b ≠ some (.lst xs)) : BagAt H' a cl := by
  obtain ⟨n, c, i, bs, cells, h1, h2, h3, h4⟩ := h
  exact ⟨n, c, i, bs, cells, k _ _ (fun e => hb _ (e ▸ h1)) h1, h2, k _ _ (fun e => hb _ (e ▸ h3)) h3, h4⟩
theorem BagAt.not_stay {H : Hp} {a cl : Addr} (h : BagAt H a cl) {u : HO} (e : H a = some u) : ¬ Stay u := by
  obtain ⟨n, c, i, bs, cells, h1, _⟩ := h
  rw [h1] at e
  cases e
  exact fun h => h
theorem BagAt.upd {H : Hp} {a cl l : Addr} {o : HO} (h : BagAt H a cl) (h1 : l ≠ a) (h2 : l ≠ cl) : BagAt (upd H l o) a cl := by
  obtain ⟨n, c, i, bs, cells, e1, e2, e3, e4⟩ := h
  exact ⟨n, c, i, bs, cells, by rw [upd_ne h1.symm]; exact e1, e2, by rw [upd_ne h2.symm]; exact e3, e4⟩
theorem BagAt.new {H : Hp} {a cl l : Addr} (h : BagAt H a cl) (hl : H l = none) : l ≠ a ∧ l ≠ cl := by
  obtain ⟨n, c, i, bs, cells, e1, e2, e3, e4⟩ := h
  exact ⟨(ne_of_none e1 hl).symm, (ne_of_none e3 hl).symm⟩
theorem BagAt.kept {H H' : Hp} {a cl : Addr} (h : BagAt H a cl) (k : But a H H') : Kept H H' := fun x u s e => k x u (fun z => h.not_stay (z ▸ e) s) e
section
variable {P : Program} {w : World} {K : PySem.W.Frag} {mg : Str → Option Value} {base : Heap}
def spLawBag (K : PySem.W.Frag) : SpN := fun vs H Q => ∃ scr, vs = [.ref scr] ∧ ∃ ns : List Int, SqL K H scr (ns.map V.int) ∧ ∀ a cl H', H a = none → Same H H' → BagAt H' a cl → Q (.ref a) H'
theorem cut_ints (ns : List Int) : cutV (ns.map V.int) none (some ((63 : Nat) : Int)) = (ns.take (min 63 ns.length)).map V.int := by
  unfold cutV
  rw [HT.sIx_none, HT.sIx_nat, List.drop_zero, Nat.sub_zero, List.length_map, List.map_take]
theorem sc__law_bag : FnScope ["_law_script", "_law_cells", "_law_base", "_law_cell"] ["_law_script"] (defScope (top 55)) := ⟨rfl, rfl, rfl, by decide +kernel, rfl, by decide +kernel, by decide +kernel⟩
theorem w__law_bag (T : Txt P K mg) : FnN P w K mg base (0 + 1) (T.a__law_bag) (spLawBag K) := by
  refine fn_mk (k := 0) (T.f__law_bag) sc__law_bag (fun _ _ _ _ _ _ us hl => match us, hl with | [_], _ => rfl) (fun vs H Q h => by obtain ⟨scr, rfl, h⟩ := h; rfl) fun cdv A outer s H vs Q hr h => ?_
  have hu := hu_of hr
  have sc := sc__law_bag
  obtain ⟨scr, rfl, h⟩ := h
  refine ⟨_, (pss_cons (ps_setLc (i := 1) (own := [("_law_cell", 3)]) rfl sc.nd rfl rfl (sw_true rfl rfl rfl (by decide +kernel)) (pi_list (pe_slice sl_list (pv 0) po_none (po_some pe_int))) (blkOk_by (N := ["_law_script", "_law_cells", "_law_base", "_law_cell"]) (sc := (defScope (top 55))) (by decide +kernel)) (fun _ _ _ _ _ => (pg_name (i := 3) sc.nd rfl (.inl rfl) (.inr rfl))) (fun _ _ _ _ _ => pts_nil) (fun _ _ _ _ _ => (pe_callB call_abs (by rfl) T.n_abs (by decide +kernel) (pa_cons (pe_callTy call_int1 (by rfl) T.n_int (by decide +kernel) (pa_cons (pv 3) pa_nil)) pa_nil))))
    (pss_cons (ps_set (i := 2) sc.nd rfl (.inl rfl) pe_int)
    (pss_cons (ps_for PassesOwn.never rfl (pi_list (pv 1)) (pg_name (i := 3) sc.nd rfl (.inl rfl))
    (pss_one (ps_set (i := 2) sc.nd rfl (.inl rfl) (pe_op op_mod (pe_callTy call_int1 (by rfl) T.n_int (by decide +kernel) (pa_cons (pe_op op_add (pe_op op_mul (pv 2) pe_int) (pv 3)) pa_nil)) pe_int))))
    (pss_one (ps_ret (pe_lst (pa_cons pe_int (pa_cons pe_int (pa_cons pe_int (pa_cons (pv 2) (pa_cons (pv 1) pa_nil))))))))))), ?_⟩
  obtain ⟨ns, hs, q⟩ := h
  have em := cut_ints ns
  have hml : (ns.take (min 63 ns.length)).length ≤ 63 := by rw [List.length_take]; omega
  generalize ns.take (min 63 ns.length) = ms at em hml
  refine ⟨_, rfl, _, rfl, scr, _, rfl, hs, fun p hp => ⟨p, rfl, ⟨_, SqL.of upd_same⟩, fun D hD => ?_⟩⟩
  rw [show (63 : Int) = ((63 : Nat) : Int) from rfl, em] at *
  have s1 := same_new (o := .lst (ms.map V.int)) hp
  have hD0 : H D = none := by
    cases e : H D with
    | none => rfl
    | some u => exact absurd ((s1 _ _ e).symm.trans hD) (by intro z; cases z)
  refine lc_it (walk_list (xs := ms.map V.int)) (fun i H' => Same (upd H p (.lst (ms.map V.int))) H' ∧ ∃ cs : List Int, H' D = some (.lst (cs.map V.int)) ∧ (∀ x ∈ cs, 0 ≤ x) ∧ cs.length = i) ⟨same_new hD, [], upd_same, by simp, rfl⟩ (fun _ _ _ h => SqL.of (h.1 _ _ upd_same)) ?_ ?_
  · rintro i x H2 H1 hi ⟨s2, cs, hc1, hc2, hc3⟩ ⟨rfl, hx⟩
    obtain ⟨v, ev, rfl⟩ := map_get hx
    refine ⟨rfl, _, rfl, .inl ⟨_, rfl, _, rfl, _, hc1, ?_, same_mut s2 hD, cs ++ [if v < 0 then -v else v], ?_, ?_, ?_⟩⟩
    · rw [List.length_map, hc3]; rw [List.length_map] at hi; exact szl (by omega)
    · rw [upd_same, List.map_append]; rfl
    · intro y hy
      rcases List.mem_append.mp hy with h | h
      · exact hc2 y h
      · simp at h; subst h; split <;> omega
    · simp [hc3]
  · rintro H1 ⟨s2, cs, hc1, hc2, hc3⟩
    have s3 := same_trans s1 s2
    refine ⟨_, rfl, D, rfl, ⟨_, SqL.of hc1⟩, for_it (walk_list (xs := cs.map V.int)) (fun i σ H' => H' = H1 ∧ ∃ (b : Int) (l : Option V), σ = [some (.ref scr), some (.ref D), some (.int b), l] ∧ 0 ≤ b ∧ b < 2147483647) ⟨rfl, 0, _, rfl, by omega, by omega⟩ (fun _ _ _ _ h => by rw [h.1]; exact SqL.of hc1) ?_ ?_⟩
    · rintro i x σ H3 H2 hi ⟨rfl, b, l, rfl, b0, b1⟩ ⟨rfl, hx⟩
      obtain ⟨v, ev, rfl⟩ := map_get hx
      have m0 := Int.emod_nonneg (b * 31 + v) (b := 2147483647) (by omega)
      have m1 := Int.emod_lt_of_pos (b * 31 + v) (b := 2147483647) (by omega)
      exact ⟨_, rfl, _, _, rfl, rfl, .inl ⟨by omega, by omega⟩, _, rfl, _, _, rfl, rfl, .inl ⟨_, rfl, _, _, rfl, rfl, (by show (0 : Int) < 2147483647; decide), rfl, _, _, rfl, m0, m1⟩⟩
    · rintro σ H2 ⟨rfl, b, l, rfl, b0, b1⟩
      refine ⟨_, rfl, _, rfl, (by show 5 ≤ sizeLine; decide), fun a ha => ?_⟩
      have s4 := same_new (o := .lst [.int 0, .int 0, .int 0, .int b, .ref D]) ha
      have ha0 : H a = none := by
        cases e : H a with
        | none => rfl
        | some u => exact absurd ((s3 _ _ e).symm.trans ha) (by intro z; cases z)
      exact q a D _ ha0 (same_trans s3 s4) ⟨0, 0, 0, b, cs, upd_same, (fun z => by rw [← z, hc1] at ha; cases ha), s4 _ _ hc1, hc2, Nat.zero_le _, b0, b1⟩
def spMixed : SpN := fun vs H Q => ∃ c t, vs = [.int c, .int t] ∧ 0 ≤ c ∧ c < 10 ^ 18 ∧ ∀ r, Q (.int r) H
theorem sc__law_mixed : FnScope ["_law_cell", "_law_turn", "_law_number"] ["_law_cell", "_law_turn"] (defScope (top 56)) := ⟨rfl, rfl, rfl, by decide +kernel, rfl, by decide +kernel, by decide +kernel⟩
theorem w__law_mixed (T : Txt P K mg) : FnN P w K mg base (0 + 1) (T.a__law_mixed) (spMixed) := by
  refine fn_mk (k := 0) (T.f__law_mixed) sc__law_mixed (fun _ _ _ _ _ _ us hl => match us, hl with | [_, _], _ => rfl) (fun vs H Q h => by obtain ⟨c, t, rfl, h⟩ := h; rfl) fun cdv A outer s H vs Q hr h => ?_
  have hu := hu_of hr
  have sc := sc__law_mixed
  obtain ⟨c, t, rfl, h⟩ := h
  refine ⟨_, (pss_cons (ps_set (i := 2) sc.nd rfl (.inl rfl) (pe_op op_mod (pe_callTy call_int1 (by rfl) T.n_int (by decide +kernel) (pa_cons (pe_op op_mul (pv 0) (pe_op op_add (pe_op op_mul pe_int (pv 1)) pe_int)) pa_nil)) pe_int))
    (pss_cons (ps_set (i := 2) sc.nd rfl (.inl rfl) (pe_op op_mod (pe_callTy call_int1 (by rfl) T.n_int (by decide +kernel) (pa_cons (pe_op op_add (pe_op op_mul (pv 2) pe_int) (pe_op op_fdiv (pv 2) pe_int)) pa_nil)) pe_int))
    (pss_one (ps_ret (pe_op op_fdiv (pv 2) pe_int))))), ?_⟩
  obtain ⟨c0, c1, q⟩ := h
  refine ⟨_, rfl, _, rfl, _, _, rfl, rfl, .inl ⟨by decide, by decide⟩, _, _, rfl, rfl, _, _, rfl, rfl, .inl ⟨by omega, by omega⟩, .inl ⟨_, rfl, _, _, rfl, rfl, (by show (0 : Int) < 2147483647; decide), ?_⟩⟩
  have m0 := Int.emod_nonneg (c * (48271 * t + 69621)) (b := 2147483647) (by omega)
  have m1 := Int.emod_lt_of_pos (c * (48271 * t + 69621)) (b := 2147483647) (by omega)
  generalize c * (48271 * t + 69621) % 2147483647 = n at m0 m1
  refine ⟨_, rfl, _, _, rfl, rfl, .inl ⟨by omega, by omega⟩, _, rfl, _, _, rfl, rfl, ⟨by decide, by decide⟩, _, _, rfl, rfl, .inl ⟨_, rfl, _, _, rfl, rfl, (by show (0 : Int) < 2147483399; decide), ?_⟩⟩
  exact ⟨_, rfl, _, _, rfl, rfl, ⟨by decide, by decide⟩, q _⟩
def spTake : SpN := fun vs H Q => ∃ a m, vs = [.ref a, .int m] ∧ ∃ cl, BagAt H a cl ∧ m ≤ 400000000 ∧ ∀ r H', But a H H' → BagAt H' a cl → 0 ≤ r → r < (if m > 1 then m else 1) → Q (.int r) H'
theorem sc__law_take : FnScope ["_law_bag_here", "_law_many_here", "_law_cell", "_law_digit"] ["_law_bag_here", "_law_many_here"] (defScope (top 57)) := ⟨rfl, rfl, rfl, by decide +kernel, rfl, by decide +kernel, by decide +kernel⟩
theorem w__law_take (T : Txt P K mg) : FnN P w K mg base (1 + 1) (T.a__law_take) (spTake) := by
  refine fn_mk (k := 1) (T.f__law_take) sc__law_take (fun _ _ _ _ _ _ us hl => match us, hl with | [_, _], _ => rfl) (fun vs H Q h => by obtain ⟨a, m, rfl, h⟩ := h; rfl) fun cdv A outer s H vs Q hr h => ?_
  have hu := hu_of hr
  have sc := sc__law_take
  obtain ⟨a, m, rfl, h⟩ := h
  refine ⟨_, (pss_cons (ps_set (i := 1) sc.nd rfl (.inl rfl) (pe_callB (call_max2 rfl) (by rfl) T.n_max (by decide +kernel) (pa_cons pe_int (pa_cons (pv 1) pa_nil))))
    (pss_cons (ps_asg (pe_op op_add (pe_ix ix_list (pv 0) pe_int (fun _ _ => rfl)) pe_int) (pg_sub (pv 0) pe_int set_list))
    (pss_cons (ps_if (PW.pt (pw_and (pt_cmpR op_lt (pe_ix ix_list (pv 0) pe_int (fun _ _ => rfl)) (pv 1) (nomark _)) (pw_and1 (pt_cmpR op_lt (pe_ix ix_list (pv 0) pe_int (fun _ _ => rfl)) (pe_callB call_len_seq (by rfl) T.n_len PySem.boot_len (pa_cons (pe_ix ix_list (pv 0) pe_int (fun _ _ => rfl)) pa_nil)) (nomark _)))))
    (pss_cons (ps_set (i := 2) sc.nd rfl (.inl rfl) (pe_ix ix_list (pe_ix ix_list (pv 0) pe_int (fun _ _ => rfl)) (pe_ix ix_list (pv 0) pe_int (fun _ _ => rfl)) (fun _ _ => rfl)))
    (pss_cons (ps_asg (pe_op op_add (pe_ix ix_list (pv 0) pe_int (fun _ _ => rfl)) pe_int) (pg_sub (pv 0) pe_int set_list))
    (pss_cons (ps_if (pt_cmpR op_lt (pv 2) (pe_op op_pow pe_int pe_int) (nomark _))
    (pss_one (ps_ret (pe_op op_mod (pe_callTy call_int1 (by rfl) T.n_int (by decide +kernel) (pa_cons (pe_cal (by rfl) (pa_cons (pv 2) (pa_cons (pe_ix ix_list (pv 0) pe_int (fun _ _ => rfl)) pa_nil))) pa_nil)) (pv 1))))
    pss_nil)
    (pss_one (ps_asg (pv 2) (pg_sub (pv 0) pe_int set_list))))))
    pss_nil)
    (pss_cons (ps_if (pt_cmpR op_ge (pe_ix ix_list (pv 0) pe_int (fun _ _ => rfl)) (pv 1) (nomark _))
    (pss_cons (ps_set (i := 3) sc.nd rfl (.inl rfl) (pe_op op_mod (pe_callTy call_int1 (by rfl) T.n_int (by decide +kernel) (pa_cons (pe_ix ix_list (pv 0) pe_int (fun _ _ => rfl)) pa_nil)) (pv 1)))
    (pss_cons (ps_asg (pe_op op_fdiv (pe_ix ix_list (pv 0) pe_int (fun _ _ => rfl)) (pv 1)) (pg_sub (pv 0) pe_int set_list))
    (pss_one (ps_ret (pv 3)))))
    pss_nil)
    (pss_one (ps_ret (pe_op op_mod (pe_callTy call_int1 (by rfl) T.n_int (by decide +kernel) (pa_cons (pe_cal (by rfl) (pa_cons (pe_ix ix_list (pv 0) pe_int (fun _ _ => rfl)) (pa_cons (pe_ix ix_list (pv 0) pe_int (fun _ _ => rfl)) pa_nil))) pa_nil)) (pv 1)))))))), ?_⟩
  obtain ⟨cl, ⟨n, c, i, bs, cells, h1, h2, h3, h4, h5, h6, h7⟩, hm, q⟩ := h
  refine ⟨_, rfl, _, _, rfl, ?_⟩
  have hM : 0 < (if m > 1 then m else 1) ∧ (if m > 1 then m else 1) ≤ 400000000 := by split <;> omega
  generalize (if m > 1 then m else 1) = M at *
  have bag : ∀ (G : Hp) (n1 c1 : Int) (i1 : Nat), But a H G → G a = some (.lst [.int n1, .int c1, .int (i1 : Int), .int bs, .ref cl]) → i1 ≤ cells.length → BagAt G a cl := fun G n1 c1 i1 k e hi => ⟨n1, c1, i1, bs, cells, e, h2, k _ _ h2 h3, h4, hi, h6, h7⟩
  refine ⟨_, rfl, a, _, _, .int n, rfl, rfl, SqL.of h1, rfl, _, _, rfl, rfl, _, rfl, a, _, 0, 0, rfl, rfl, h1, rfl, ?_⟩
  have k1 : But a H (upd H a (.lst [.int (n + 1), .int c, .int (i : Int), .int bs, .ref cl])) := (same_but same_refl).put
  have g1 : upd H a (.lst [.int (n + 1), .int c, .int (i : Int), .int bs, .ref cl]) a = _ := upd_same
  show _
  refine ⟨_, rfl, a, _, _, .int c, rfl, rfl, SqL.of g1, rfl, _, rfl, _, _, rfl, rfl, _, rfl, ifD (fun hc => ?_) (fun hc => iteF ?_)⟩
  · have c1 := k1 _ _ h2 h3
    refine ⟨_, rfl, a, _, _, .int (i : Int), rfl, rfl, SqL.of g1, rfl, _, rfl, a, _, _, .ref cl, rfl, rfl, SqL.of g1, rfl, cl, _, rfl, .inl (SqL.of c1), _, _, rfl, rfl, _, rfl, ifD (fun hl => ?_) (fun hl => ?_)⟩
    · rw [List.length_map] at hl
      have hi : i < cells.length := by omega
      obtain ⟨v, hv⟩ : ∃ v, cells[i]? = some v := ⟨_, List.getElem?_eq_getElem hi⟩
      have hv0 := h4 v (List.mem_of_getElem? hv)
      refine ⟨_, rfl, a, _, _, .ref cl, rfl, rfl, SqL.of g1, rfl, _, rfl, a, _, _, .int (i : Int), rfl, rfl, SqL.of g1, rfl, cl, _, _, .int v, rfl, rfl, SqL.of c1, by rw [atI_nat]; simp [hv], ?_⟩
      refine ⟨_, rfl, a, _, _, .int (i : Int), rfl, rfl, SqL.of g1, rfl, _, _, rfl, rfl, _, rfl, a, _, 2, 2, rfl, rfl, g1, rfl, ?_⟩
      have k2 := k1.put (o := .lst [.int (n + 1), .int c, .int (i + 1 : Nat), .int bs, .ref cl])
      have g2 : upd (upd H a (.lst [.int (n + 1), .int c, .int (i : Int), .int bs, .ref cl])) a (.lst [.int (n + 1), .int c, .int (i + 1 : Nat), .int bs, .ref cl]) a = some (.lst [.int (n + 1), .int c, .int (i + 1 : Nat), .int bs, .ref cl]) := upd_same
      refine ⟨_, rfl, _, _, rfl, rfl, ⟨by decide, by decide, by decide⟩, _, _, rfl, rfl, _, rfl, ifD (fun hlt => ?_) (fun hlt => ?_)⟩
      · exact ⟨spMixed, ⟨_, 1, T.g__law_mixed, T.f__law_mixed.kp, w__law_mixed T, hr⟩, _, rfl, _, rfl, a, _, _, .int (n + 1), rfl, rfl, SqL.of g2, rfl, v, n + 1, rfl, hv0, hlt, fun r => .inl ⟨_, rfl, _, rfl, _, _, rfl, rfl, hM.1, q _ _ k2 (bag _ _ _ _ k2 g2 (by omega)) (Int.emod_nonneg _ (by omega)) (Int.emod_lt_of_pos _ hM.1)⟩⟩
      · refine ⟨_, rfl, _, rfl, a, _, 1, 1, rfl, rfl, g2, rfl, ?_⟩
        have k3 := k2.put (o := .lst [.int (n + 1), .int v, .int (i + 1 : Nat), .int bs, .ref cl])
        have g3 : upd (upd (upd H a (.lst [.int (n + 1), .int c, .int (i : Int), .int bs, .ref cl])) a (.lst [.int (n + 1), .int c, .int (i + 1 : Nat), .int bs, .ref cl])) a (.lst [.int (n + 1), .int v, .int (i + 1 : Nat), .int bs, .ref cl]) a = some (.lst [.int (n + 1), .int v, .int (i + 1 : Nat), .int bs, .ref cl]) := upd_same
        exact
      ⟨_, rfl, a, _, _, .int v, rfl, rfl, SqL.of g3, rfl, _, rfl, _, _, rfl, rfl, _, rfl, ifD (fun hge => ⟨_, rfl, a, _, _, .int v, rfl, rfl, SqL.of g3, rfl, .inl ⟨_, rfl, _, rfl, _, _, rfl, rfl, hM.1, _, rfl, a, _, _, .int v, rfl, rfl, SqL.of g3, rfl, _, rfl, _, _, rfl, rfl, ⟨hM.1, by omega⟩, _, rfl, a, _, 1, 1, rfl, rfl, g3, rfl, _, rfl, q _ _ (k3.put) (bag _ _ _ _ k3.put upd_same (by omega)) (Int.emod_nonneg _ (by omega)) (Int.emod_lt_of_pos _ hM.1)⟩⟩)
        (fun hlt => ⟨spMixed, ⟨_, 1, T.g__law_mixed, T.f__law_mixed.kp, w__law_mixed T, hr⟩, _, rfl, a, _, _, .int bs, rfl, rfl, SqL.of g3, rfl, _, rfl, a, _, _, .int (n + 1), rfl, rfl, SqL.of g3, rfl, bs, n + 1, rfl, h6, by omega, fun r => .inl ⟨_, rfl, _, rfl, _, _, rfl, rfl, hM.1, q _ _ k3 (bag _ _ _ _ k3 g3 (by omega)) (Int.emod_nonneg _ (by omega)) (Int.emod_lt_of_pos _ hM.1)⟩⟩)⟩
    · exact
      ⟨_, rfl, a, _, _, .int c, rfl, rfl, SqL.of g1, rfl, _, rfl, _, _, rfl, rfl, _, rfl, ifD (fun hge => ⟨_, rfl, a, _, _, .int c, rfl, rfl, SqL.of g1, rfl, .inl ⟨_, rfl, _, rfl, _, _, rfl, rfl, hM.1, _, rfl, a, _, _, .int c, rfl, rfl, SqL.of g1, rfl, _, rfl, _, _, rfl, rfl, ⟨hM.1, by omega⟩, _, rfl, a, _, 1, 1, rfl, rfl, g1, rfl, _, rfl, q _ _ (k1.put) (bag _ _ _ _ k1.put upd_same h5) (Int.emod_nonneg _ (by omega)) (Int.emod_lt_of_pos _ hM.1)⟩⟩)
        (fun hlt => ⟨spMixed, ⟨_, 1, T.g__law_mixed, T.f__law_mixed.kp, w__law_mixed T, hr⟩, _, rfl, a, _, _, .int bs, rfl, rfl, SqL.of g1, rfl, _, rfl, a, _, _, .int (n + 1), rfl, rfl, SqL.of g1, rfl, bs, n + 1, rfl, h6, by omega, fun r => .inl ⟨_, rfl, _, rfl, _, _, rfl, rfl, hM.1, q _ _ k1 (bag _ _ _ _ k1 g1 h5) (Int.emod_nonneg _ (by omega)) (Int.emod_lt_of_pos _ hM.1)⟩⟩)⟩
  · exact
      ⟨_, rfl, a, _, _, .int c, rfl, rfl, SqL.of g1, rfl, _, rfl, _, _, rfl, rfl, _, rfl, ifD (fun hge => ⟨_, rfl, a, _, _, .int c, rfl, rfl, SqL.of g1, rfl, .inl ⟨_, rfl, _, rfl, _, _, rfl, rfl, hM.1, _, rfl, a, _, _, .int c, rfl, rfl, SqL.of g1, rfl, _, rfl, _, _, rfl, rfl, ⟨hM.1, by omega⟩, _, rfl, a, _, 1, 1, rfl, rfl, g1, rfl, _, rfl, q _ _ (k1.put) (bag _ _ _ _ k1.put upd_same h5) (Int.emod_nonneg _ (by omega)) (Int.emod_lt_of_pos _ hM.1)⟩⟩)
        (fun hlt => ⟨spMixed, ⟨_, 1, T.g__law_mixed, T.f__law_mixed.kp, w__law_mixed T, hr⟩, _, rfl, a, _, _, .int bs, rfl, rfl, SqL.of g1, rfl, _, rfl, a, _, _, .int (n + 1), rfl, rfl, SqL.of g1, rfl, bs, n + 1, rfl, h6, by omega, fun r => .inl ⟨_, rfl, _, rfl, _, _, rfl, rfl, hM.1, q _ _ k1 (bag _ _ _ _ k1 g1 h5) (Int.emod_nonneg _ (by omega)) (Int.emod_lt_of_pos _ hM.1)⟩⟩)⟩
end
end Fb
set_option maxHeartbeats 4000000
/-! Forkbeats: the law's names. -/
namespace Fb
open PySem PySem.Spec PyProof.Rows L2
def zy : Str := "zyzyzyzyzyzy"
/-- a drawn name -/
structure Nm (z : Str) : Prop where
  ok : NameOk z
  zy : z ≠ zy
def qw : Str := "qwertyuiopasdfghjklzxcvbnm"
def az : Str := "abcdefghijkl"
theorem qw_at {i : Int} (h0 : 0 ≤ i) (h1 : i < 26) : ∃ c, atI qw.cps.toList i = some c ∧ 97 ≤ c ∧ c ≤ 122 := by
  have hl : qw.cps.toList.length = 26 := by decide +kernel
  have ha : ∀ c ∈ qw.cps.toList, 97 ≤ c ∧ c ≤ 122 := by decide +kernel
  obtain ⟨n, rfl⟩ : ∃ n : Nat, i = n := ⟨i.toNat, by omega⟩
  have hn : n < qw.cps.toList.length := by omega
  exact ⟨qw.cps.toList[n], atI_nat (List.getElem?_eq_getElem hn), ha _ (List.getElem_mem hn)⟩
theorem str_of_tl {z : Str} {l : List Nat} (h : z.cps.toList = l) : z = ⟨l.toArray⟩ := by
  cases z with
  | mk a => cases a; simp at h; subst h; rfl
theorem nm_short {z : Str} (h1 : 1 ≤ z.length) (h2 : z.length ≤ 4) (h3 : ∀ c ∈ z.cps.toList, 97 ≤ c ∧ c ≤ 122) : Nm z := by
  refine ⟨⟨h1, by omega, h3⟩, fun e => ?_⟩
  rw [e] at h2
  exact absurd h2 (by decide +kernel)
theorem nm_of {l : List Nat} (h1 : 1 ≤ l.length) (h2 : l.length ≤ 4) (h3 : ∀ c ∈ l, 97 ≤ c ∧ c ≤ 122) : Nm ⟨l.toArray⟩ := nm_short (by simpa [Str.length] using h1) (by simpa [Str.length] using h2) (by simpa using h3)
theorem tl_len (z : Str) : z.cps.toList.length = z.length := by simp [Str.length]
def cut3 (z : Str) : Str := cutS z none (some 3)
theorem cut3_tl (z : Str) : (cut3 z).cps.toList = z.cps.toList.take (min 3 z.length) := by
  unfold cut3 cutS
  rw [HT.sIx_none, show (3 : Int) = ((3 : Nat) : Int) from rfl, HT.sIx_nat, List.drop_zero, Nat.sub_zero]
def lets : List Nat := [97, 98, 99, 100, 101, 102, 103, 104, 105, 106, 107, 108]
theorem az_tl : az.cps.toList = lets := by decide +kernel
def poolT (z : Str) : List Str := lets.map fun c => cut3 z ++ ⟨#[c]⟩
theorem app_tl (x y : Str) : (x ++ y).cps.toList = x.cps.toList ++ y.cps.toList := by
  show (x.cps ++ y.cps).toList = _
  simp
theorem poolT_ok {z : Str} (h : Nm z) : ∀ y ∈ poolT z, Nm y := fun y hy => by
  obtain ⟨c, hc, rfl⟩ := List.mem_map.mp hy
  have e : (cut3 z ++ (⟨#[c]⟩ : Str)).cps.toList = z.cps.toList.take (min 3 z.length) ++ [c] := by rw [app_tl, cut3_tl]
  have hl : (cut3 z ++ (⟨#[c]⟩ : Str)).length = (z.cps.toList.take (min 3 z.length) ++ [c]).length := by rw [← tl_len, e]
  rw [List.length_append, List.length_take] at hl
  simp only [List.length_cons, List.length_nil] at hl
  refine nm_short (by omega) (by omega) fun d hd => ?_
  rw [e] at hd
  rcases List.mem_append.mp hd with h1 | h1
  · exact h.ok.az d (List.mem_of_mem_take h1)
  · simp at h1
    subst h1
    have : ∀ c ∈ lets, 97 ≤ c ∧ c ≤ 122 := by decide
    exact this d hc
theorem poolT_nodup (z : Str) : (poolT z).Nodup := by
  have h : lets.Nodup := by decide
  refine List.Pairwise.map _ (fun a b hab e => hab ?_) h
  have : (cut3 z ++ (⟨#[a]⟩ : Str)).cps.toList = (cut3 z ++ (⟨#[b]⟩ : Str)).cps.toList := by rw [e]
  rw [app_tl, app_tl] at this
  have := List.append_cancel_left this
  simpa using this
theorem pool_left {z : Str} {ns : List Str} (h : ns.length ≤ 11) : (z :: poolT z).filter (fun y => decide (y ∉ ns)) ≠ [] := fun e => by
  have ha : ∀ y ∈ poolT z, y ∈ ns := fun y hy => by
    have := List.filter_eq_nil_iff.mp e y (List.mem_cons_of_mem _ hy)
    simpa using this
  have := nodup_len (poolT_nodup z) ha
  have e12 : (poolT z).length = 12 := by simp [poolT, lets]
  omega
theorem rep_tl {c1 c2 c3 : Nat} : (rep4 ⟨#[c1, c2, c3]⟩).cps.toList = [c1, c2, c3, c1, c2, c3, c1, c2, c3, c1, c2, c3] := by
  simp [rep4, List.replicate]
theorem cut12 {z : Str} (h : z.length = 12) : cutS z none (some 12) = z := by
  unfold cutS
  rw [HT.sIx_none, show (12 : Int) = ((12 : Nat) : Int) from rfl, HT.sIx_nat, List.drop_zero, Nat.sub_zero, h, List.take_of_length_le (by rw [tl_len, h]; decide)]
theorem nm_rep {c1 c2 c3 : Nat} (h1 : 97 ≤ c1 ∧ c1 ≤ 122) (h2 : 97 ≤ c2 ∧ c2 ≤ 122) (h3 : 97 ≤ c3 ∧ c3 ≤ 122) : (rep4 ⟨#[c1, c2, c3]⟩).length = 12 ∧ Nm (rep4 ⟨#[c1, c2, c3]⟩) := by
  have hl : (rep4 ⟨#[c1, c2, c3]⟩).length = 12 := by rw [← tl_len, rep_tl]; rfl
  refine ⟨hl, ⟨by omega, by omega, fun d hd => ?_⟩, fun e => ?_⟩
  · rw [rep_tl] at hd
    simp only [List.mem_cons, List.not_mem_nil, or_false] at hd
    omega
  · have e2 : (rep4 ⟨#[c1, c2, c3]⟩).cps.toList = zy.cps.toList := by rw [e]
    rw [rep_tl, show zy.cps.toList = [122, 121, 122, 121, 122, 121, 122, 121, 122, 121, 122, 121] by decide +kernel] at e2
    simp only [List.cons.injEq] at e2
    omega
theorem join_tl (ys : List Str) : (Txt.join "" ys).cps.toList = TL.joinL [] (ys.map TL.tl) := by
  rw [TL.join_eq]
  exact TL.tl_join "" ys
theorem bag_ne {H : Hp} {a cl l : Addr} {ns : List Str} (h : BagAt H a cl) (hl : LsT H l ns) : l ≠ a := fun e => by
  obtain ⟨n, c, i, bs, cells, h1, _⟩ := h
  have hl : H l = some (.lst (ns.map V.str)) := hl
  rw [e, h1] at hl
  cases ns with
  | nil => cases hl
  | cons x r => cases hl
section
variable {P : Program} {w : World} {K : PySem.W.Frag} {mg : Str → Option Value} {base : Heap}
theorem cal_take (T : Txt P K mg) {A : Around} (hr : Room 2 A) : Cal ⟨P, w, K, mg, base, A⟩ "_law_take" spTake := ⟨_, 2, T.g__law_take, T.f__law_take.kp, w__law_take T, hr⟩
def spName : SpN := fun vs H Q => ∃ a l, vs = [.ref a, .ref l] ∧ ∃ cl ns, BagAt H a cl ∧ LsT H l ns ∧ ns.length ≤ 11 ∧ ∀ z H', But a H H' → BagAt H' a cl → Nm z → z ∉ ns → Q (.str z) H'
theorem sc__law_name : FnScope ["_law_bag_here", "_law_names_here", "_law_letters", "_law_number", "_law_row_here", "_law_name_here", "_law_pool", "_law_letter", "_law_one"] ["_law_bag_here", "_law_names_here"] (defScope (top 58)) := ⟨rfl, rfl, rfl, by decide +kernel, rfl, by decide +kernel, by decide +kernel⟩
theorem w__law_name (T : Txt P K mg) : FnN P w K mg base (2 + 1) (T.a__law_name) (spName) := by
  refine fn_mk (k := 2) (T.f__law_name) sc__law_name (fun _ _ _ _ _ _ us hl => match us, hl with | [_, _], _ => rfl) (fun vs H Q h => by obtain ⟨a, l, rfl, h⟩ := h; rfl) fun cdv A outer s H vs Q hr h => ?_
  have hu := hu_of hr
  have sc := sc__law_name
  obtain ⟨a, l, rfl, h⟩ := h
  refine ⟨_, (pss_cons (ps_set (i := 2) sc.nd rfl (.inl rfl) pe_str)
    (pss_cons (ps_set (i := 3) sc.nd rfl (.inl rfl) (pe_cal (by rfl) (pa_cons (pv 0) (pa_cons (pe_op op_mul (pe_op op_mul (pe_op op_mul pe_int pe_int) pe_int) pe_int) pa_nil))))
    (pss_cons (ps_set (i := 4) sc.nd rfl (.inl rfl) (pe_lst (pa_cons (pe_ix ix_str (pv 2) (pe_op op_mod (pe_callTy call_int1 (by rfl) T.n_int (by decide +kernel) (pa_cons (pe_op op_fdiv (pv 3) pe_int) pa_nil)) pe_int) (fun _ _ => rfl)) (pa_cons (pe_ix ix_str (pv 2) (pe_op op_mod (pe_callTy call_int1 (by rfl) T.n_int (by decide +kernel) (pa_cons (pe_op op_fdiv (pv 3) pe_int) pa_nil)) pe_int) (fun _ _ => rfl)) (pa_cons (pe_ix ix_str (pv 2) (pe_op op_mod (pe_callTy call_int1 (by rfl) T.n_int (by decide +kernel) (pa_cons (pe_op op_fdiv (pv 3) pe_int) pa_nil)) pe_int) (fun _ _ => rfl)) pa_nil)))))
    (pss_cons (ps_set (i := 5) sc.nd rfl (.inr rfl) (pe_join pe_str (pe_slice sl_list (pv 4) po_none (po_some (pe_op op_add pe_int (pe_op op_mod (pe_callTy call_int1 (by rfl) T.n_int (by decide +kernel) (pa_cons (pv 3) pa_nil)) pe_int))))))
    (pss_cons (ps_if (pt_cmpR op_eq (pe_op op_mod (pe_callTy call_int1 (by rfl) T.n_int (by decide +kernel) (pa_cons (pv 3) pa_nil)) pe_int) pe_int (nomark _))
    (pss_one (ps_set (i := 5) sc.nd rfl (.inr rfl) (pe_slice sl_str (pe_op op_rep4 (pe_join pe_str (pv 4)) pe_int) po_none (po_some pe_int))))
    pss_nil)
    (pss_cons (ps_set (i := 6) sc.nd rfl (.inl rfl) (pe_op op_cat (pe_lst (pa_cons (pv 5) pa_nil)) (pe_lc (own := [("_law_letter", 7)]) rfl sc.nd (pi_str pe_str) (blkOk_by (N := ["_law_bag_here", "_law_names_here", "_law_letters", "_law_number", "_law_row_here", "_law_name_here", "_law_pool", "_law_letter", "_law_one"]) (sc := (defScope (top 58))) (by decide +kernel)) (fun _ _ _ _ _ => (pg_name (i := 7) sc.nd rfl (.inl rfl) (.inr rfl))) (fun _ _ _ _ _ => pts_nil) (fun _ _ _ _ _ => (pe_op op_add_str (pe_slice sl_str (pv 5) po_none (po_some pe_int)) (pv 7))))))
    (pss_one (ps_ret (pe_ix ix_list (pe_lc (own := [("_law_one", 8)]) rfl sc.nd (pi_list (pv 6)) (blkOk_by (N := ["_law_bag_here", "_law_names_here", "_law_letters", "_law_number", "_law_row_here", "_law_name_here", "_law_pool", "_law_letter", "_law_one"]) (sc := (defScope (top 58))) (by decide +kernel)) (fun _ _ _ _ _ => (pg_name (i := 8) sc.nd rfl (.inl rfl) (.inr rfl))) (fun _ _ _ _ _ => (pts_one (pt_cmpR op_notIn_seqc (pv 8) (pv 1) (by rfl)))) (fun _ _ _ _ _ => (pv 8))) pe_int (fun _ _ => rfl)))))))))), ?_⟩
  obtain ⟨cl, ns, hb, hl, hz, q⟩ := h
  refine ⟨spTake, cal_take T hr, _, rfl, _, _, rfl, rfl, .inl ⟨by decide, by decide⟩, _, _, rfl, rfl, .inl ⟨by decide, by decide⟩, _, _, rfl, rfl, .inl ⟨by decide, by decide⟩, a, _, rfl, cl, hb, by decide, fun n H1 k1 hb1 n0 n1 => ?_⟩
  have hl0 : LsT H1 l ns := k1 _ _ (bag_ne hb hl) hl
  refine ⟨_, rfl, _, rfl, _, _, rfl, rfl, ⟨by decide, by decide⟩, .inl ⟨_, rfl, _, _, rfl, rfl, (by show (0 : Int) < 26; decide), ?_⟩⟩
  obtain ⟨c1, e1, o1⟩ := qw_at (Int.emod_nonneg (n / 8) (b := 26) (by omega)) (Int.emod_lt_of_pos (n / 8) (b := 26) (by omega))
  refine ⟨_, _, c1, rfl, rfl, (by decide +kernel), e1, ?_⟩
  refine ⟨_, rfl, _, rfl, _, _, rfl, rfl, ⟨by decide, by decide⟩, .inl ⟨_, rfl, _, _, rfl, rfl, (by show (0 : Int) < 26; decide), ?_⟩⟩
  obtain ⟨c2, e2, o2⟩ := qw_at (Int.emod_nonneg (n / 208) (b := 26) (by omega)) (Int.emod_lt_of_pos (n / 208) (b := 26) (by omega))
  refine ⟨_, _, c2, rfl, rfl, (by decide +kernel), e2, ?_⟩
  refine ⟨_, rfl, _, rfl, _, _, rfl, rfl, ⟨by decide, by decide⟩, .inl ⟨_, rfl, _, _, rfl, rfl, (by show (0 : Int) < 26; decide), ?_⟩⟩
  obtain ⟨c3, e3, o3⟩ := qw_at (Int.emod_nonneg (n / 5408) (b := 26) (by omega)) (Int.emod_lt_of_pos (n / 5408) (b := 26) (by omega))
  refine ⟨_, _, c3, rfl, rfl, (by decide +kernel), e3, ?_⟩
  refine ⟨(by show 3 ≤ sizeLine; decide), fun lr hlr => ?_⟩
  have s2 := same_new (o := .lst [.str ⟨#[c1]⟩, .str ⟨#[c2]⟩, .str ⟨#[c3]⟩]) hlr
  have r2 : upd H1 lr (.lst [.str ⟨#[c1]⟩, .str ⟨#[c2]⟩, .str ⟨#[c3]⟩]) lr = some (.lst [.str ⟨#[c1]⟩, .str ⟨#[c2]⟩, .str ⟨#[c3]⟩]) := upd_same
  show _
  generalize upd H1 lr (.lst [.str ⟨#[c1]⟩, .str ⟨#[c2]⟩, .str ⟨#[c3]⟩]) = H2 at s2 r2
  have f0 := Int.emod_nonneg n (b := 4) (by omega)
  have f1 := Int.emod_lt_of_pos n (b := 4) (by omega)
  refine ⟨⟨_, rfl⟩, _, rfl, _, rfl, .inl ⟨_, rfl, _, _, rfl, rfl, (by show (0 : Int) < 4; decide), _, _, rfl, rfl, _, rfl, lr, _, rfl, SqL.of r2, fun p hp => ?_⟩⟩
  obtain ⟨ys, ey, oy, zy2⟩ : ∃ ys : List Str, cutV [V.str ⟨#[c1]⟩, .str ⟨#[c2]⟩, .str ⟨#[c3]⟩] none (some (1 + n % 4)) = ys.map V.str ∧ Nm (Txt.join "" ys) ∧ (ys.map (·.length)).sum ≤ 3 ∧ ys.length ≤ 3 := by
    have hc : n % 4 = 0 ∨ n % 4 = 1 ∨ n % 4 = 2 ∨ n % 4 = 3 := by omega
    have fin : ∀ ys : List Str, ∀ l : List Nat, TL.joinL [] (ys.map TL.tl) = l → 1 ≤ l.length → l.length ≤ 4 → (∀ c ∈ l, 97 ≤ c ∧ c ≤ 122) → Nm (Txt.join "" ys) := fun ys l e h1 h2 h3 => by
      rw [str_of_tl ((join_tl ys).trans e)]
      exact nm_of h1 h2 h3
    rcases hc with e | e | e | e <;> rw [e]
    · exact ⟨[⟨#[c1]⟩], rfl, fin _ [c1] rfl (by simp) (by simp) (by simp; omega), by simp [Str.length]⟩
    · exact ⟨[⟨#[c1]⟩, ⟨#[c2]⟩], rfl, fin _ [c1, c2] rfl (by simp) (by simp) (by simp; omega), by simp [Str.length]⟩
    · exact ⟨[⟨#[c1]⟩, ⟨#[c2]⟩, ⟨#[c3]⟩], rfl, fin _ [c1, c2, c3] rfl (by simp) (by simp) (by simp; omega), by simp [Str.length]⟩
    · exact ⟨[⟨#[c1]⟩, ⟨#[c2]⟩, ⟨#[c3]⟩], rfl, fin _ [c1, c2, c3] rfl (by simp) (by simp) (by simp; omega), by simp [Str.length]⟩
  rw [ey]
  have s3 := same_trans s2 (same_new (o := .lst (ys.map V.str)) hp)
  have r3 := same_new (o := .lst (ys.map V.str)) hp _ _ r2
  refine ⟨_, p, ys, rfl, rfl, .inl (SqL.of upd_same), by rw [show Str.length "" = 0 from rfl]; omega, ?_⟩
  generalize upd H2 p (.lst (ys.map V.str)) = H3 at s3 r3
  refine ⟨_, rfl, .inl ⟨_, rfl, _, _, rfl, rfl, (by show (0 : Int) < 8; decide), rfl, _, rfl, ifD (fun e7 => ?a) (fun e7 => ?b)⟩⟩
  case' a =>
    refine ⟨⟨_, rfl⟩, _, rfl, _, lr, [⟨#[c1]⟩, ⟨#[c2]⟩, ⟨#[c3]⟩], rfl, rfl, .inl (SqL.of r3), (by show 3 + 3 * 0 ≤ 16777216; decide), ?_⟩
    have ej : Txt.join "" [(⟨#[c1]⟩ : Str), ⟨#[c2]⟩, ⟨#[c3]⟩] = ⟨#[c1, c2, c3]⟩ := str_of_tl (join_tl _)
    rw [ej]
    obtain ⟨q1, okn⟩ := nm_rep o1 o2 o3
    refine ⟨_, rfl, rfl, (by show 1 ≤ 3; decide), (by show 3 ≤ 1000; decide), _, rfl, _, rfl, by rw [q1]; decide, ?_⟩
    rw [cut12 q1]
    clear oy
    generalize rep4 ⟨#[c1, c2, c3]⟩ = nm at okn
  case' b =>
    have okn := oy
    generalize Txt.join "" ys = nm at okn
  all_goals
    have hnl := okn.ok.hi
    refine ⟨_, rfl, (by show 1 ≤ sizeLine; decide), fun l1 hl1 => ?_⟩
    have s4 := same_trans s3 (same_new (o := .lst [.str nm]) hl1)
    have r4 : upd H3 l1 (.lst [.str nm]) l1 = some (.lst [.str nm]) := upd_same
    generalize upd H3 l1 (.lst [.str nm]) = H4 at s4 r4
    refine ⟨_, rfl, fun D hD => ?_⟩
    refine lc_it walk_str (fun i H' => Same H4 H' ∧ H' D = some (.lst (((poolT nm).take i).map V.str))) ⟨same_new hD, upd_same⟩ (fun _ _ _ _ => trivial) ?_ ?_
    · rintro i x H6 H5 hi ⟨s5, hd5⟩ ⟨rfl, c, hc, rfl⟩
      have hc2 : lets[i]? = some c := by
        rw [← az_tl]
        have hc : az.cps[i]? = some c := hc
        simpa using hc
      have hpt : (poolT nm)[i]? = some (cut3 nm ++ ⟨#[c]⟩) := by simp [poolT, hc2]
      have hcl : (cut3 nm).length ≤ 12 := by rw [← tl_len, cut3_tl, List.length_take, tl_len]; omega
      refine ⟨rfl, _, rfl, _, rfl, nm, rfl, szt (by omega), _, rfl, _, _, rfl, rfl, szt (by have : (cutS nm none (some 3)).length ≤ 12 := hcl; show _ + 1 ≤ _; omega), _, hd5, ?_, same_mut s5 hD, ?_⟩
      · rw [List.length_map, List.length_take]
        exact szl (by have : (poolT nm).length = 12 := by simp [poolT, lets]
                      omega)
      · rw [upd_same, List.take_add_one, hpt]; simp; rfl
    · rintro H5 ⟨s5, hd5⟩
      have hd6 : H5 D = some (.lst (((poolT nm).take az.cps.size).map V.str)) := hd5
      have e12 : (poolT nm).length = 12 := by simp [poolT, lets]
      rw [List.take_of_length_le (by rw [e12]; decide +kernel)] at hd6
      refine ⟨l1, D, _, _, rfl, rfl, s5 _ _ r4, hd6, (by rw [List.length_map, e12]; show 1 + 12 ≤ sizeLine; decide), fun p5 hp5 => ?_⟩
      have s6 := same_trans s4 (same_trans s5 (same_new (o := .lst ([V.str nm] ++ (poolT nm).map V.str)) hp5))
      have r6 : upd H5 p5 (.lst ([V.str nm] ++ (poolT nm).map V.str)) p5 = some (.lst ((nm :: poolT nm).map V.str)) := upd_same
      generalize upd H5 p5 (.lst ([V.str nm] ++ (poolT nm).map V.str)) = H6 at s6 r6
      refine ⟨_, rfl, p5, rfl, ⟨_, SqL.of r6⟩, fun D2 hD2 => ?_⟩
      refine lc_it (walk_list (xs := (nm :: poolT nm).map V.str)) (fun i H' => Same H6 H' ∧ H' D2 = some (.lst ((((nm :: poolT nm).take i).filter (fun y => decide (y ∉ ns))).map V.str))) ⟨same_new hD2, upd_same⟩ (fun _ _ _ h => SqL.of (h.1 _ _ r6)) ?_ ?_
      · rintro i x H8 H7 hi ⟨s7, hd7⟩ ⟨rfl, hx⟩
        obtain ⟨y, ey2, rfl⟩ := map_get hx
        have etk := filter_take (p := fun y => decide (y ∉ ns)) ey2
        refine ⟨rfl, _, rfl, _, rfl, l, _, rfl, .inl (SqL.of (s7 _ _ (s6 _ _ hl0))), rfl, flat_strs _, _, rfl, ?_⟩
        show if (!inV _ _) = true then _ else _
        rw [inV_strs]
        refine ifnD (fun hn => ⟨_, rfl, _, hd7, ?_, same_mut s7 hD2, ?_⟩) (fun hm => ⟨s7, ?_⟩)
        · rw [List.length_map]
          refine Nat.lt_of_le_of_lt (List.length_filter_le ..) ?_
          rw [List.length_take]
          exact szl (by simp [e12]; omega)
        · rw [upd_same, etk, if_pos (by simpa using hn)]; simp
        · rw [etk, if_neg (by simpa using hm), List.append_nil]; exact hd7
      · rintro H7 ⟨s7, hd7⟩
        rw [List.length_map, List.take_length] at hd7
        obtain ⟨z, r, ez⟩ := List.exists_cons_of_ne_nil (pool_left (z := nm) hz)
        have hzm : z ∈ (nm :: poolT nm).filter (fun y => decide (y ∉ ns)) := by rw [ez]; exact List.mem_cons_self ..
        obtain ⟨hz1, hz2⟩ := List.mem_filter.mp hzm
        have hz2 : z ∉ ns := by simpa using hz2
        have hz3 : Nm z := by
          rcases List.mem_cons.mp hz1 with e | e
          · rw [e]; exact okn
          · exact poolT_ok okn z e
        rw [ez] at hd7
        refine ⟨D2, _, _, .str z, rfl, rfl, SqL.of hd7, at_zero _ _, ?_⟩
        have sall := same_trans s6 s7
        exact q z _ (k1.trans (same_but sall)) (hb1.same sall) hz3 hz2
def spNames : SpN := fun vs H Q => ∃ a m, vs = [.ref a, .int m] ∧ ∃ cl, BagAt H a cl ∧ 0 ≤ m ∧ m ≤ 10 ∧ ∀ l ns H', H l = none → But a H H' → BagAt H' a cl → LsT H' l ns → ns.Nodup → (∀ z ∈ ns, Nm z) → ns.length = m.toNat → Q (.ref l) H'
theorem ins_strs (ns : List Str) (y : Str) (i : Nat) : (ns.map V.str).take i ++ [V.str y] ++ (ns.map V.str).drop i = (ns.take i ++ [y] ++ ns.drop i).map V.str := by
  simp [List.map_take, List.map_drop]
theorem ins_perm (ns : List Str) (y : Str) (i : Nat) : (ns.take i ++ [y] ++ ns.drop i).Perm (y :: ns) := by
  have h : (ns.take i ++ [y] ++ ns.drop i).Perm ([y] ++ ns.take i ++ ns.drop i) := (List.perm_append_comm).append_right _
  refine h.trans ?_
  rw [List.append_assoc, List.take_append_drop]
  exact List.Perm.refl _
theorem sc__law_names : FnScope ["_law_bag_here", "_law_many_here", "_law_names_here", "_law_k"] ["_law_bag_here", "_law_many_here"] (defScope (top 59)) := ⟨rfl, rfl, rfl, by decide +kernel, rfl, by decide +kernel, by decide +kernel⟩
theorem w__law_names (T : Txt P K mg) : FnN P w K mg base (3 + 1) (T.a__law_names) (spNames) := by
  refine fn_mk (k := 3) (T.f__law_names) sc__law_names (fun _ _ _ _ _ _ us hl => match us, hl with | [_, _], _ => rfl) (fun vs H Q h => by obtain ⟨a, m, rfl, h⟩ := h; rfl) fun cdv A outer s H vs Q hr h => ?_
  have hu := hu_of hr
  have sc := sc__law_names
  obtain ⟨a, m, rfl, h⟩ := h
  refine ⟨_, (pss_cons (ps_set (i := 2) sc.nd rfl (.inl rfl) (pe_lst pa_nil))
    (pss_cons (ps_for PassesOwn.never rfl (pi_range1 (by rfl) T.n_range (pa_cons (pv 1) pa_nil)) (pg_name (i := 3) sc.nd rfl (.inl rfl))
    (pss_one (ps_expr (pe_bm PySem.F.plainAttrs_list PySem.F.slot_list_insert PySem.F.type_list_insert mt_insert (pv 2) (pa_cons (pe_cal (by rfl) (pa_cons (pv 0) (pa_cons (pe_op op_add (pe_callB call_len_seq (by rfl) T.n_len PySem.boot_len (pa_cons (pv 2) pa_nil)) pe_int) pa_nil))) (pa_cons (pe_cal (by rfl) (pa_cons (pv 0) (pa_cons (pv 2) pa_nil))) pa_nil))))))
    (pss_one (ps_ret (pv 2))))), ?_⟩
  obtain ⟨cl, hb, hm0, hm, q⟩ := h
  refine ⟨Nat.zero_le _, fun l hl => ?_⟩
  obtain ⟨hla, hlc⟩ := hb.new hl
  refine ⟨_, rfl, m, rfl, by omega, by omega, for_it (walk_range (lo := 0) (n := m.toNat)) (fun i σ H' => (∃ k, σ = [some (.ref a), some (.int m), some (.ref l), k]) ∧ But a H H' ∧ BagAt H' a cl ∧ ∃ ns, LsT H' l ns ∧ ns.Nodup ∧ (∀ z ∈ ns, Nm z) ∧ ns.length = i) ⟨⟨_, rfl⟩, same_but (same_new hl), hb.same (same_new hl), [], upd_same, by simp, by simp, rfl⟩ (fun _ _ _ _ _ => trivial) ?_ ?_⟩
  · rintro i x σ H2 H1 hi ⟨⟨k, rfl⟩, k1, b1, ns, hn1, hn2, hn3, hn4⟩ ⟨rfl, rfl⟩
    refine ⟨_, rfl, .inl ⟨rfl, _, SqL.of hn1⟩, spTake, cal_take T (hr.mono (by decide)), _, rfl, _, rfl, l, _, rfl, .inl (SqL.of hn1), _, _, rfl, rfl, a, _, rfl, cl, b1, (by rw [List.length_map]; omega), fun r H3 k3 b3 r0 r1 => ?_⟩
    have r2 : r ≤ ns.length := by
      rw [List.length_map] at r1
      split at r1 <;> omega
    have hn5 : LsT H3 l ns := k3 _ _ hla hn1
    refine ⟨spName, ⟨_, 3, T.g__law_name, T.f__law_name.kp, w__law_name T, hr⟩, _, rfl, _, rfl, a, l, rfl, cl, ns, b3, hn5, by omega, fun z H4 k4 b4 hz hzn => ?_⟩
    have hn6 : LsT H4 l ns := k4 _ _ hla hn5
    refine ⟨l, _, r, .str z, rfl, rfl, hn6, by rw [List.length_map]; exact szl (by omega), r0, by omega, ?_⟩
    rw [ins_strs]
    have hp := ins_perm ns z r.toNat
    refine ⟨⟨_, rfl⟩, fun x u hx e => ?_, b4.upd hla hlc, _, upd_same, hp.nodup_iff.mpr (List.nodup_cons.mpr ⟨hzn, hn2⟩), fun y hy => ?_, by rw [hp.length_eq, List.length_cons, hn4]⟩
    · rw [upd_ne (ne_of_none e hl)]; exact ((k1.trans k3).trans k4) x u hx e
    · rcases List.mem_cons.mp (hp.mem_iff.mp hy) with e | e
      · rw [e]; exact hz
      · exact hn3 y e
  · rintro σ H2 ⟨⟨k, rfl⟩, k1, b1, ns, hn1, hn2, hn3, hn4⟩
    exact ⟨_, rfl, q l ns H2 hl k1 b1 hn1 hn2 hn3 hn4⟩
end
end Fb
set_option maxHeartbeats 4000000
/-! Forkbeats: rows compared; some of the names; many. -/
namespace Fb
open PySem PySem.Spec PyProof.Rows L2
/-- a list of tuples of ints -/
def RowsAt (H : Hp) (l : Addr) (rs : List (List Int)) : Prop := ∃ ts, H l = some (.lst (ts.map V.ref)) ∧ Paired (TupI H) ts rs
theorem RowsAt.same {H H' : Hp} {l : Addr} {rs : List (List Int)} (h : RowsAt H l rs) (k : Same H H') : RowsAt H' l rs := by
  obtain ⟨ts, h1, h2⟩ := h
  exact ⟨ts, k _ _ h1, paired_imp (fun _ _ e => k _ _ e) h2⟩
theorem eqv_tups (ns : List Int) : PyData.eqv (.tuple (ns.map .int)) (.tuple (ns.map .int)) = true := by
  rw [PyData.eqv, eqvAll_ints]; simp
theorem all_true {α : Type} (l : List α) : ((l.map fun _ => true).all id) = true := by simp
section
variable {P : Program} {w : World} {K : PySem.W.Frag} {mg : Str → Option Value} {base : Heap}
def spIsInt : SpN := fun vs H Q => ∃ i, vs = [.int i] ∧ Q (.bl true) H
theorem sc__law_is_int : FnScope ["_law_thing"] ["_law_thing"] (defScope (top 60)) := ⟨rfl, rfl, rfl, by decide +kernel, rfl, by decide +kernel, by decide +kernel⟩
theorem w__law_is_int (T : Txt P K mg) : FnN P w K mg base (0 + 1) (T.a__law_is_int) (spIsInt) := by
  refine fn_mk (k := 0) (T.f__law_is_int) sc__law_is_int (fun _ _ _ _ _ _ us hl => match us, hl with | [_], _ => rfl) (fun vs H Q h => by obtain ⟨i, rfl, h⟩ := h; rfl) fun cdv A outer s H vs Q hr h => ?_
  have hu := hu_of hr
  have sc := sc__law_is_int
  obtain ⟨i, rfl, h⟩ := h
  refine ⟨_, (pss_one (ps_ret (pe_and (pe_callB call_isi (by rfl) T.n_isinstance (by decide +kernel) (pa_cons (pv 0) (pa_cons (pe_bltn (v := .ty "int") (by rfl) T.n_int (by decide +kernel) rfl) pa_nil))) (pe_one (pe_not (pe_callB call_isi (by rfl) T.n_isinstance (by decide +kernel) (pa_cons (pv 0) (pa_cons (pe_bltn (v := .ty "bool") (by rfl) T.n_bool (by decide +kernel) rfl) pa_nil)))))))), ?_⟩
  refine ⟨_, rfl, _, _, _, _, true, rfl, .ty _, .base (.int i), kit_ty (by decide +kernel), true, rfl, iteT ⟨_, rfl, _, _, _, _, false, rfl, .ty _, .base (.int i), kit_ty (by decide +kernel), false, rfl, h⟩⟩
def spRow : SpN := fun vs H Q => ∃ a b, vs = [.ref a, .ref b] ∧ ∃ r, TupI H a r ∧ TupI H b r ∧ r.length ≤ 1000 ∧ ∀ H', Same H H' → Q (.bl true) H'
theorem sc__law_row : FnScope ["_law_thing", "_law_due", "_law_one"] ["_law_thing", "_law_due"] (defScope (top 61)) := ⟨rfl, rfl, rfl, by decide +kernel, rfl, by decide +kernel, by decide +kernel⟩
theorem w__law_row (T : Txt P K mg) : FnN P w K mg base (1 + 1) (T.a__law_row) (spRow) := by
  refine fn_mk (k := 1) (T.f__law_row) sc__law_row (fun _ _ _ _ _ _ us hl => match us, hl with | [_, _], _ => rfl) (fun vs H Q h => by obtain ⟨a, b, rfl, h⟩ := h; rfl) fun cdv A outer s H vs Q hr h => ?_
  have hu := hu_of hr
  have sc := sc__law_row
  obtain ⟨a, b, rfl, h⟩ := h
  refine ⟨_, (pss_cons (ps_if (PW.pt (pw_or (pt_not (pt_val (pe_callB call_isi (by rfl) T.n_isinstance (by decide +kernel) (pa_cons (pv 0) (pa_cons (pe_bltn (v := .ty "tuple") (by rfl) T.n_tuple (by decide +kernel) rfl) pa_nil))))) (pw_or1 (pt_cmpR op_ne (pe_callB call_len_seq (by rfl) T.n_len PySem.boot_len (pa_cons (pv 0) pa_nil)) (pe_callB call_len_seq (by rfl) T.n_len PySem.boot_len (pa_cons (pv 1) pa_nil)) (nomark _)))))
    (pss_one (ps_ret pe_bl))
    pss_nil)
    (pss_one (ps_ret (pe_and (pe_callB (cr_all rfl) (by rfl) T.n_all (by decide +kernel) (pa_cons (pe_lc (own := [("_law_one", 2)]) rfl sc.nd (pi_tup (pv 0)) (blkOk_by (N := ["_law_thing", "_law_due", "_law_one"]) (sc := (defScope (top 61))) (by decide +kernel)) (fun _ _ _ _ _ => (pg_name (i := 2) sc.nd rfl (.inl rfl) (.inr rfl))) (fun _ _ _ _ _ => pts_nil) (fun _ _ _ _ _ => (pe_calc (by rfl) (pa_cons (pv 2) pa_nil)))) pa_nil)) (pe_one (pe_cmpR (op_eqD (hu64 hr)) (pv 0) (pv 1) (nomark _))))))), ?_⟩
  obtain ⟨r, ha, hb, hz, q⟩ := h
  refine ⟨_, rfl, _, _, _, _, true, rfl, .ty _, .base (.tup ha), kit_ty (by decide +kernel), true, rfl, iteF ?_⟩
  refine ⟨_, rfl, a, _, rfl, .inr (SqT.of ha), _, rfl, b, _, rfl, .inr (SqT.of hb), rfl, _, rfl, ifnN rfl ?_⟩
  refine ⟨_, rfl, a, rfl, ⟨_, SqT.of ha⟩, fun D hD => ?_⟩
  refine lc_it (walk_tup (xs := r.map V.int)) (fun i H' => Same H H' ∧ H' D = some (.lst (((r.take i).map fun _ => true).map V.bl))) ⟨same_new hD, upd_same⟩ (fun _ _ _ h => SqT.of (h.1 _ _ ha)) ?_ ?_
  · rintro i x H2 H1 hi ⟨s1, hd⟩ ⟨rfl, hx⟩
    obtain ⟨v, ev, rfl⟩ := map_get hx
    refine ⟨rfl, spIsInt, ⟨_, 1, T.g__law_is_int, T.f__law_is_int.kp, w__law_is_int T, hr⟩, _, rfl, v, rfl, _, hd, ?_, same_mut s1 hD, ?_⟩
    · rw [List.length_map, List.length_map, List.length_take]; exact szl (by omega)
    · rw [upd_same, List.take_add_one, ev]; simp
  · rintro H1 ⟨s1, hd⟩
    refine ⟨D, _, rfl, SqL.of hd, true, by rw [all_true], iteT ?_⟩
    refine ⟨_, rfl, _, rfl, .tuple (r.map .int), .tuple (r.map .int), .tup (SqT.of (s1 _ _ ha)) (dp_ints r), .tup (SqT.of (s1 _ _ hb)) (dp_ints r), ?_, ?_, ?_⟩
    · exact PySem.W.shaped_ints r
    · exact PySem.W.shaped_ints r
    · rw [eqv_tups]; exact q _ s1
def spRows : SpN := fun vs H Q => ∃ a b, vs = [.ref a, .ref b] ∧ ∃ rs, RowsAt H a rs ∧ RowsAt H b rs ∧ (∀ r ∈ rs, r.length ≤ 1000) ∧ rs.length ≤ 10000 ∧ ∀ H', Same H H' → Q (.bl true) H'
theorem sc__law_rows : FnScope ["_law_thing", "_law_due", "_law_k"] ["_law_thing", "_law_due"] (defScope (top 62)) := ⟨rfl, rfl, rfl, by decide +kernel, rfl, by decide +kernel, by decide +kernel⟩
theorem w__law_rows (T : Txt P K mg) : FnN P w K mg base (2 + 1) (T.a__law_rows) (spRows) := by
  refine fn_mk (k := 2) (T.f__law_rows) sc__law_rows (fun _ _ _ _ _ _ us hl => match us, hl with | [_, _], _ => rfl) (fun vs H Q h => by obtain ⟨a, b, rfl, h⟩ := h; rfl) fun cdv A outer s H vs Q hr h => ?_
  have hu := hu_of hr
  have sc := sc__law_rows
  obtain ⟨a, b, rfl, h⟩ := h
  refine ⟨_, (pss_cons (ps_if (PW.pt (pw_or (pt_not (pt_val (pe_callB call_isi (by rfl) T.n_isinstance (by decide +kernel) (pa_cons (pv 0) (pa_cons (pe_bltn (v := .ty "list") (by rfl) T.n_list (by decide +kernel) rfl) pa_nil))))) (pw_or1 (pt_cmpR op_ne (pe_callB call_len_seq (by rfl) T.n_len PySem.boot_len (pa_cons (pv 0) pa_nil)) (pe_callB call_len_seq (by rfl) T.n_len PySem.boot_len (pa_cons (pv 1) pa_nil)) (nomark _)))))
    (pss_one (ps_ret pe_bl))
    pss_nil)
    (pss_cons (ps_for PassesOwn.never rfl (pi_range1 (by rfl) T.n_range (pa_cons (pe_callB call_len_seq (by rfl) T.n_len PySem.boot_len (pa_cons (pv 1) pa_nil)) pa_nil)) (pg_name (i := 2) sc.nd rfl (.inl rfl))
    (pss_one (ps_if (pt_not (pt_val (pe_cal (by rfl) (pa_cons (pe_ix ix_list (pv 0) (pv 2) (fun _ _ => rfl)) (pa_cons (pe_ix ix_list (pv 1) (pv 2) (fun _ _ => rfl)) pa_nil)))))
    (pss_one (ps_ret pe_bl))
    pss_nil)))
    (pss_one (ps_ret pe_bl)))), ?_⟩
  obtain ⟨rs, ⟨ta, ha1, ha2⟩, ⟨tb, hb1, hb2⟩, hz, hl, q⟩ := h
  have la := Paired.length ha2
  have lb := Paired.length hb2
  have l2 : ((tb.map V.ref).length : Int) = (rs.length : Int) := by rw [List.length_map, lb]
  refine ⟨_, rfl, _, _, _, _, true, rfl, .ty _, .base (.lst ha1), kit_ty (by decide +kernel), true, rfl, iteF ?_⟩
  refine ⟨_, rfl, a, _, rfl, .inl (SqL.of ha1), _, rfl, b, _, rfl, .inl (SqL.of hb1), rfl, _, rfl, ifnN (by rw [List.length_map, List.length_map, la, lb]) ?_⟩
  refine ⟨_, rfl, b, _, rfl, .inl (SqL.of hb1), _, rfl, by omega, by omega, ?_⟩
  refine for_it (walk_range (lo := 0) (n := ((tb.map V.ref).length : Int).toNat)) (fun i σ H' => (∃ k, σ = [some (.ref a), some (.ref b), k]) ∧ Same H H') ⟨⟨_, rfl⟩, same_refl⟩ (fun _ _ _ _ _ => trivial) ?_ ?_
  · rintro i x σ H2 H1 hi ⟨⟨k, rfl⟩, s1⟩ ⟨rfl, rfl⟩
    have hi2 : i < rs.length := by omega
    obtain ⟨x1, e1⟩ : ∃ x, ta[i]? = some x := ⟨_, List.getElem?_eq_getElem (by omega)⟩
    obtain ⟨x2, e2⟩ : ∃ x, tb[i]? = some x := ⟨_, List.getElem?_eq_getElem (by omega)⟩
    obtain ⟨r1, f1, g1⟩ := paired_get ha2 e1
    obtain ⟨r2, f2, g2⟩ := paired_get hb2 e2
    rw [f1] at f2
    cases f2
    refine ⟨spRow, ⟨_, 2, T.g__law_row, T.f__law_row.kp, w__law_row T, hr⟩, _, rfl, _, rfl, a, _, _, .ref x1, rfl, rfl, SqL.of (s1 _ _ ha1), ?_, _, rfl, _, rfl, b, _, _, .ref x2, rfl, rfl, SqL.of (s1 _ _ hb1), ?_, x1, x2, rfl, r1, s1 _ _ g1, s1 _ _ g2, hz r1 (List.mem_of_getElem? f1), fun H3 s2 => ⟨true, rfl, iteF ⟨⟨_, rfl⟩, same_trans s1 s2⟩⟩⟩
    · rw [Int.zero_add]; exact atI_nat (by simp [e1])
    · rw [Int.zero_add]; exact atI_nat (by simp [e2])
  · rintro σ H2 ⟨⟨k, rfl⟩, s1⟩
    exact q _ s1
def spMany : SpN := fun vs H Q => ∃ a m, vs = [.ref a, .int m] ∧ ∃ cl, BagAt H a cl ∧ 0 < m ∧ m ≤ 1000 ∧ ∀ r H', But a H H' → BagAt H' a cl → 1 ≤ r → r ≤ m → Q (.int r) H'
theorem sc__law_many : FnScope ["_law_bag_here", "_law_top"] ["_law_bag_here", "_law_top"] (defScope (top 67)) := ⟨rfl, rfl, rfl, by decide +kernel, rfl, by decide +kernel, by decide +kernel⟩
theorem w__law_many (T : Txt P K mg) : FnN P w K mg base (2 + 1) (T.a__law_many) (spMany) := by
  refine fn_mk (k := 2) (T.f__law_many) sc__law_many (fun _ _ _ _ _ _ us hl => match us, hl with | [_, _], _ => rfl) (fun vs H Q h => by obtain ⟨a, m, rfl, h⟩ := h; rfl) fun cdv A outer s H vs Q hr h => ?_
  have hu := hu_of hr
  have sc := sc__law_many
  obtain ⟨a, m, rfl, h⟩ := h
  refine ⟨_, (pss_one (ps_ret (pe_op op_add pe_int (pe_op op_mod (pe_callTy call_int1 (by rfl) T.n_int (by decide +kernel) (pa_cons (pe_op op_add pe_int (pe_cal (by rfl) (pa_cons (pv 0) (pa_cons (pv 1) pa_nil)))) pa_nil)) (pv 1))))), ?_⟩
  obtain ⟨cl, hb, h0, h1, q⟩ := h
  refine ⟨spTake, cal_take T hr, _, rfl, _, rfl, a, m, rfl, cl, hb, by omega, fun r H1 k1 b1 r0 r1 => ?_⟩
  refine ⟨_, _, rfl, rfl, .inl ⟨_, rfl, _, rfl, _, _, rfl, rfl, h0, _, _, rfl, rfl, ?_⟩⟩
  have m0 := Int.emod_nonneg (1 + r) (b := m) (by omega)
  have m1 := Int.emod_lt_of_pos (1 + r) h0
  exact q _ _ k1 b1 (by omega) (by omega)
theorem pick_perm : ∀ {ns : List Str} {k : Nat} {y : Str}, ns[k]? = some y → (y :: ns.eraseIdx k).Perm ns
  | [], _, _, h => by simp at h
  | a :: ns, 0, y, h => by simp at h; subst h; simp
  | a :: ns, k + 1, y, h => by
    rw [List.getElem?_cons_succ] at h
    rw [List.eraseIdx_cons_succ]
    exact (List.Perm.swap a y _).trans ((pick_perm h).cons a)
theorem erase_strs : ∀ (ns : List Str) (k : Nat), (ns.map V.str).eraseIdx k = (ns.eraseIdx k).map V.str
  | [], _ => by simp
  | a :: ns, 0 => by simp
  | a :: ns, k + 1 => by simp [erase_strs ns k]
def spSome : SpN := fun vs H Q => ∃ a l m, vs = [.ref a, .ref l, .int m] ∧ ∃ cl ns, BagAt H a cl ∧ LsT H l ns ∧ ns.length ≤ 100 ∧ 0 ≤ m ∧ ∀ p fs rest H', H p = none → But a H H' → BagAt H' a cl → LsT H' p fs → (fs ++ rest).Perm ns → fs.length = min m.toNat ns.length → Q (.ref p) H'
theorem sc__law_some : FnScope ["_law_bag_here", "_law_names_here", "_law_many_here", "_law_rest", "_law_found", "_law_k"] ["_law_bag_here", "_law_names_here", "_law_many_here"] (defScope (top 63)) := ⟨rfl, rfl, rfl, by decide +kernel, rfl, by decide +kernel, by decide +kernel⟩
theorem w__law_some (T : Txt P K mg) : FnN P w K mg base (2 + 1) (T.a__law_some) (spSome) := by
  refine fn_mk (k := 2) (T.f__law_some) sc__law_some (fun _ _ _ _ _ _ us hl => match us, hl with | [_, _, _], _ => rfl) (fun vs H Q h => by obtain ⟨a, l, m, rfl, h⟩ := h; rfl) fun cdv A outer s H vs Q hr h => ?_
  have hu := hu_of hr
  have sc := sc__law_some
  obtain ⟨a, l, m, rfl, h⟩ := h
  refine ⟨_, (pss_cons (ps_set (i := 3) sc.nd rfl (.inl rfl) (pe_callTy call_list_of (by rfl) T.n_list (by decide +kernel) (pa_cons (pv 1) pa_nil)))
    (pss_cons (ps_set (i := 4) sc.nd rfl (.inl rfl) (pe_lst pa_nil))
    (pss_cons (ps_for PassesOwn.never rfl (pi_range1 (by rfl) T.n_range (pa_cons (pe_callB (call_min2 rfl) (by rfl) T.n_min (by decide +kernel) (pa_cons (pv 2) (pa_cons (pe_callB call_len_seq (by rfl) T.n_len PySem.boot_len (pa_cons (pv 1) pa_nil)) pa_nil))) pa_nil)) (pg_name (i := 5) sc.nd rfl (.inl rfl))
    (pss_one (ps_expr (pe_bm PySem.F.plainAttrs_list PySem.F.slot_list_append PySem.F.type_list_append mt_append (pv 4) (pa_cons (pe_bm PySem.F.plainAttrs_list PySem.F.slot_list_pop PySem.F.type_list_pop mt_popAt (pv 3) (pa_cons (pe_cal (by rfl) (pa_cons (pv 0) (pa_cons (pe_callB call_len_seq (by rfl) T.n_len PySem.boot_len (pa_cons (pv 3) pa_nil)) pa_nil))) pa_nil)) pa_nil)))))
    (pss_one (ps_ret (pv 4)))))), ?_⟩
  obtain ⟨cl, ns, hb, hl, hz, hm, q⟩ := h
  have hla := bag_ne hb hl
  refine ⟨_, rfl, l, _, rfl, .inl (SqL.of hl), fun R hR => ⟨Nat.zero_le _, fun F hF => ?_⟩⟩
  obtain ⟨hRa, hRc⟩ := hb.new hR
  have hb1 := hb.same (same_new (o := .lst (ns.map V.str)) hR)
  obtain ⟨hFa, hFc⟩ := hb1.new hF
  have hRF : R ≠ F := ne_of_none upd_same hF
  have hF0 : H F = none := by rw [upd_ne hRF.symm] at hF; exact hF
  have s2 := same_trans (same_new (o := .lst (ns.map V.str)) hR) (same_new (o := .lst []) hF)
  have hlen : ((ns.map V.str).length : Int) = ns.length := by rw [List.length_map]
  refine ⟨_, rfl, _, rfl, l, _, rfl, .inl (SqL.of (s2 _ _ hl)), _, _, rfl, _, rfl, ?_⟩
  rw [hlen]
  have hn : (if (ns.length : Int) < m then (ns.length : Int) else m).toNat = min m.toNat ns.length := by split <;> omega
  refine ⟨by split <;> omega, by split <;> omega, ?_⟩
  rw [hn]
  refine for_it (walk_range (lo := 0) (n := min m.toNat ns.length)) (fun i σ H' => (∃ k, σ = [some (.ref a), some (.ref l), some (.int m), some (.ref R), some (.ref F), k]) ∧ But a H H' ∧ BagAt H' a cl ∧ ∃ fs rest, LsT H' F fs ∧ LsT H' R rest ∧ (fs ++ rest).Perm ns ∧ fs.length = i)
    ⟨⟨_, rfl⟩, same_but s2, hb.same s2, [], ns, upd_same, by show upd _ F _ R = _; rw [upd_ne hRF, upd_same], List.Perm.refl _, rfl⟩ (fun _ _ _ _ _ => trivial) ?_ ?_
  · rintro i x σ H2 H1 hi ⟨⟨k, rfl⟩, k1, b1, fs, rest, f1, f2, f3, f4⟩ ⟨rfl, rfl⟩
    have hlr := f3.length_eq
    rw [List.length_append] at hlr
    have hrl : ((rest.map V.str).length : Int) = rest.length := by rw [List.length_map]
    refine ⟨_, rfl, .inl ⟨rfl, _, SqL.of f1⟩, _, rfl, .inl ⟨rfl, _, SqL.of f2⟩, spTake, cal_take T hr, _, rfl, _, rfl, R, _, rfl, .inl (SqL.of f2), a, _, rfl, cl, b1, by omega, fun r H3 k3 b3 r0 r1 => ?_⟩
    have hr1 : r < rest.length := by rw [hrl] at r1; split at r1 <;> omega
    have g1 : LsT H3 F fs := k3 _ _ hFa f1
    have g2 : LsT H3 R rest := k3 _ _ hRa f2
    obtain ⟨y, ey⟩ : ∃ y, rest[r.toNat]? = some y := ⟨_, List.getElem?_eq_getElem (by omega)⟩
    refine ⟨R, _, r, r.toNat, .str y, rfl, rfl, g2, by omega, by omega, seqIndex_of r0 (by rw [List.length_map]; omega), by simp [ey], ?_⟩
    rw [erase_strs]
    have g1' : upd H3 R (.lst ((rest.eraseIdx r.toNat).map V.str)) F = some (.lst (fs.map V.str)) := by rw [upd_ne hRF.symm]; exact g1
    refine ⟨F, _, _, rfl, rfl, g1', by rw [List.length_map]; exact szl (by omega), ⟨_, rfl⟩, fun x u hx e => ?_, (b3.upd hRa hRc).upd hFa hFc, fs ++ [y], rest.eraseIdx r.toNat, ?_, ?_, ?_, by simp [f4]⟩
    · rw [upd_ne (ne_of_none e hF0), upd_ne (ne_of_none e hR)]
      exact (k1.trans k3) x u hx e
    · exact ls_snoc _ _ _ _
    · show upd _ F _ R = _
      rw [upd_ne hRF, upd_same]
    · rw [List.append_assoc]
      exact ((pick_perm ey).append_left fs).trans f3
  · rintro σ H2 ⟨⟨k, rfl⟩, k1, b1, fs, rest, f1, f2, f3, f4⟩
    exact ⟨_, rfl, q F fs rest H2 hF0 k1 b1 f1 f3 f4⟩
end
end Fb
set_option maxHeartbeats 4000000
/-! Forkbeats: pairs drawn; levels drawn. -/
namespace Fb
open PySem PySem.Spec PyProof.Rows L2
/-- a list of tuples -/
def LtAt {α : Type} (f : α → List V) (H : Hp) (l : Addr) (xs : List α) : Prop := ∃ rs : List Addr, H l = some (.lst (rs.map V.ref)) ∧ Paired (fun r x => H r = some (.tup (f x))) rs xs
section
variable {α : Type} {f : α → List V} {H H' : Hp} {l b t : Addr} {xs : List α} {x : α}
theorem LtAt.same (h : LtAt f H l xs) (k : Same H H') : LtAt f H' l xs := by
  obtain ⟨rs, h1, h2⟩ := h
  exact ⟨rs, k _ _ h1, paired_imp (fun _ _ e => k _ _ e) h2⟩
theorem LtAt.but (h : LtAt f H l xs) (k : But b H H') (hl : l ≠ b) (hb : ∀ ys, H b ≠ some (.tup ys)) : LtAt f H' l xs := by
  obtain ⟨rs, h1, h2⟩ := h
  exact ⟨rs, k _ _ hl h1, paired_imp (fun r _ e => k _ _ (fun z => hb _ (z ▸ e)) e) h2⟩
theorem LtAt.len (h : LtAt f H l xs) : ∃ rs : List Addr, H l = some (.lst (rs.map V.ref)) ∧ rs.length = xs.length := by
  obtain ⟨rs, h1, h2⟩ := h
  exact ⟨rs, h1, Paired.length h2⟩
theorem LtAt.push {rs : List Addr} (h1 : H l = some (.lst (rs.map V.ref))) (h2 : Paired (fun r x => H r = some (.tup (f x))) rs xs) (ht : H t = some (.tup (f x))) : LtAt f (upd H l (.lst (rs.map V.ref ++ [.ref t]))) l (xs ++ [x]) := by
  have go : ∀ {r : Addr} {ys : List V}, H r = some (.tup ys) → upd H l (.lst (rs.map V.ref ++ [.ref t])) r = some (.tup ys) := fun {r ys} e => by
    rw [upd_ne (ne_of e h1 (by intro z; cases z))]; exact e
  exact ⟨rs ++ [t], by rw [upd_same, List.map_append]; rfl, paired_snoc (paired_imp (fun _ _ e => go e) h2) (go ht)⟩
theorem paired_take {α β : Type} {R : α → β → Prop} : ∀ {xs : List α} {ys : List β} (n : Nat), Paired R xs ys → Paired R (xs.take n) (ys.take n)
  | _, _, 0, _ => by simp; exact .nil
  | _, _, n + 1, .nil => by simp; exact .nil
  | _, _, n + 1, .cons h1 h2 => by simp only [List.take_succ_cons]; exact .cons h1 (paired_take n h2)
theorem paired_drop {α β : Type} {R : α → β → Prop} : ∀ {xs : List α} {ys : List β} (n : Nat), Paired R xs ys → Paired R (xs.drop n) (ys.drop n)
  | _, _, 0, h => h
  | _, _, n + 1, .nil => by simp; exact .nil
  | _, _, n + 1, .cons h1 h2 => by simp only [List.drop_succ_cons]; exact paired_drop n h2
theorem LtAt.ins {rs : List Addr} (n : Nat) (h1 : H l = some (.lst (rs.map V.ref))) (h2 : Paired (fun r x => H r = some (.tup (f x))) rs xs) (ht : H t = some (.tup (f x))) : LtAt f (upd H l (.lst ((rs.map V.ref).take n ++ [V.ref t] ++ (rs.map V.ref).drop n))) l (xs.take n ++ [x] ++ xs.drop n) := by
  have go : ∀ {o : HO} {r : Addr} {ys : List V}, H r = some (.tup ys) → upd H l o r = some (.tup ys) := fun {o r ys} e => by
    rw [upd_ne (ne_of e h1 (by intro z; cases z))]; exact e
  refine ⟨rs.take n ++ [t] ++ rs.drop n, by rw [upd_same]; simp [List.map_take, List.map_drop], paired_append (paired_snoc (paired_take n (paired_imp (fun _ _ e => go e) h2)) (go ht)) (paired_drop n (paired_imp (fun _ _ e => go e) h2))⟩
end
abbrev Pr := Str × Str
abbrev fPr (q : Pr) : List V := [.str q.1, .str q.2]
theorem bag_ntup {H : Hp} {a cl : Addr} (h : BagAt H a cl) : ∀ ys, H a ≠ some (.tup ys) := fun ys e => by
  obtain ⟨n, c, i, bs, cells, h1, _⟩ := h
  rw [h1] at e; cases e
/-- pairs of names -/
def PrOk (ns : List Str) (prs : List Pr) : Prop := ∀ q ∈ prs, q.1 ∈ ns ∧ q.2 ∈ ns ∧ q.1 ≠ q.2
theorem PrOk.snoc {ns : List Str} {prs : List Pr} {q : Pr} (h : PrOk ns prs) (hq : q.1 ∈ ns ∧ q.2 ∈ ns ∧ q.1 ≠ q.2) : PrOk ns (prs ++ [q]) := fun p hp => by
  rcases List.mem_append.mp hp with h1 | h1
  · exact h p h1
  · simp at h1; subst h1; exact hq
section
variable {P : Program} {w : World} {K : PySem.W.Frag} {mg : Str → Option Value} {base : Heap}
theorem cal_some (T : Txt P K mg) {A : Around} (hr : Room 3 A) : Cal ⟨P, w, K, mg, base, A⟩ "_law_some" spSome := ⟨_, 3, T.g__law_some, T.f__law_some.kp, w__law_some T, hr⟩
def spPairs : SpN := fun vs H Q => ∃ a l, vs = [.ref a, .ref l, .int 2] ∧ ∃ cl ns, BagAt H a cl ∧ LsT H l ns ∧ ns.Nodup ∧ ns.length ≤ 5 ∧ ∀ p prs H', H p = none → But a H H' → BagAt H' a cl → LtAt fPr H' p prs → PrOk ns prs → prs.length ≤ 6 → Q (.ref p) H'
theorem sc__law_pairs : FnScope ["_law_bag_here", "_law_names_here", "_law_extra", "_law_order", "_law_loose", "_law_pairs_here", "_law_k", "_law_mixed_here", "_law_near", "_law_a", "_law_b", "_law_pair"] ["_law_bag_here", "_law_names_here", "_law_extra"] (defScope (top 64)) := ⟨rfl, rfl, rfl, by decide +kernel, rfl, by decide +kernel, by decide +kernel⟩
theorem w__law_pairs (T : Txt P K mg) : FnN P w K mg base (3 + 1) (T.a__law_pairs) (spPairs) := by
  refine fn_mk (k := 3) (T.f__law_pairs) sc__law_pairs (fun _ _ _ _ _ _ us hl => match us, hl with | [_, _, _], _ => rfl) (fun vs H Q h => by obtain ⟨a, l, rfl, h⟩ := h; rfl) fun cdv A outer s H vs Q hr h => ?_
  have hu := hu_of hr
  have sc := sc__law_pairs
  obtain ⟨a, l, rfl, h⟩ := h
  refine ⟨_, (pss_cons (ps_set (i := 3) sc.nd rfl (.inl rfl) (pe_cal (by rfl) (pa_cons (pv 0) (pa_cons (pv 1) (pa_cons (pe_callB call_len_seq (by rfl) T.n_len PySem.boot_len (pa_cons (pv 1) pa_nil)) pa_nil)))))
    (pss_cons (ps_set (i := 4) sc.nd rfl (.inl rfl) (pe_cmpR op_eq (pe_cal (by rfl) (pa_cons (pv 0) (pa_cons pe_int pa_nil))) pe_int (nomark _)))
    (pss_cons (ps_set (i := 5) sc.nd rfl (.inl rfl) (pe_lst pa_nil))
    (pss_cons (ps_for PassesOwn.never rfl (pi_range2 (by rfl) T.n_range (pa_cons pe_int (pa_cons (pe_callB call_len_seq (by rfl) T.n_len PySem.boot_len (pa_cons (pv 3) pa_nil)) pa_nil))) (pg_name (i := 6) sc.nd rfl (.inl rfl))
    (pss_cons (ps_set (i := 8) sc.nd rfl (.inl rfl) (pe_ix ix_list (pv 3) (pe_cal (by rfl) (pa_cons (pv 0) (pa_cons (pv 6) pa_nil))) (fun _ _ => rfl)))
    (pss_one (ps_if (PW.pt (pw_or (pt_not (pt_val (pv 4))) (pw_or1 (pt_cmpR op_gt (pe_cal (by rfl) (pa_cons (pv 0) (pa_cons pe_int pa_nil))) pe_int (nomark _)))))
    (pss_one (ps_expr (pe_bm PySem.F.plainAttrs_list PySem.F.slot_list_append PySem.F.type_list_append mt_append (pv 5) (pa_cons (pe_tup (pa_cons (pv 8) (pa_cons (pe_ix ix_list (pv 3) (pv 6) (fun _ _ => rfl)) pa_nil))) pa_nil))))
    pss_nil))))
    (pss_cons (ps_if (pt_cmpR op_gt (pe_callB call_len_seq (by rfl) T.n_len PySem.boot_len (pa_cons (pv 1) pa_nil)) pe_int (nomark _))
    (pss_one (ps_for PassesOwn.never rfl (pi_range1 (by rfl) T.n_range (pa_cons (pe_cal (by rfl) (pa_cons (pv 0) (pa_cons (pe_op op_add (pv 2) pe_int) pa_nil))) pa_nil)) (pg_name (i := 6) sc.nd rfl (.inl rfl))
    (pss_one (ps_expr (pe_bm PySem.F.plainAttrs_list PySem.F.slot_list_append PySem.F.type_list_append mt_append (pv 5) (pa_cons (pe_callTy call_tuple_of (by rfl) T.n_tuple (by decide +kernel) (pa_cons (pe_cal (by rfl) (pa_cons (pv 0) (pa_cons (pv 1) (pa_cons pe_int pa_nil)))) pa_nil)) pa_nil))))))
    pss_nil)
    (pss_cons (ps_set (i := 7) sc.nd rfl (.inl rfl) (pe_lst pa_nil))
    (pss_cons (ps_for PassesOwn.never rfl (pi_list (pv 5)) (pg_tup rfl (pgs_cons (pg_name (i := 9) sc.nd rfl (.inl rfl)) (pgs_cons (pg_name (i := 10) sc.nd rfl (.inl rfl)) pgs_nil)))
    (pss_cons (ps_set (i := 11) sc.nd rfl (.inl rfl) (pe_tup (pa_cons (pv 9) (pa_cons (pv 10) pa_nil))))
    (pss_cons (ps_if (pt_cmpR op_eq (pe_cal (by rfl) (pa_cons (pv 0) (pa_cons pe_int pa_nil))) pe_int (nomark _))
    (pss_one (ps_set (i := 11) sc.nd rfl (.inl rfl) (pe_tup (pa_cons (pv 10) (pa_cons (pv 9) pa_nil)))))
    pss_nil)
    (pss_one (ps_expr (pe_bm PySem.F.plainAttrs_list PySem.F.slot_list_insert PySem.F.type_list_insert mt_insert (pv 7) (pa_cons (pe_cal (by rfl) (pa_cons (pv 0) (pa_cons (pe_op op_add (pe_callB call_len_seq (by rfl) T.n_len PySem.boot_len (pa_cons (pv 7) pa_nil)) pe_int) pa_nil))) (pa_cons (pv 11) pa_nil))))))))
    (pss_one (ps_ret (pv 7)))))))))), ?_⟩
  obtain ⟨cl, ns, hb, hl, hnd, hz, q⟩ := h
  have hla := bag_ne hb hl
  refine ⟨spSome, cal_some T hr, _, rfl, _, rfl, _, rfl, l, _, rfl, .inl (SqL.of hl), a, l, _, rfl, cl, ns, hb, hl, by omega, by omega, fun p od rest H1 hp k1 b1 ho hperm hol => ?_⟩
  have holn : od.length = ns.length := by rw [hol, List.length_map]; omega
  have hpa := (hb.new hp).1
  have hond : od.Nodup := (List.nodup_append.mp (hperm.nodup_iff.mpr hnd)).1
  have home : ∀ z ∈ od, z ∈ ns := fun z hz => hperm.mem_iff.mp (List.mem_append_left _ hz)
  refine ⟨spTake, cal_take T (hr.mono (by decide)), _, rfl, a, _, rfl, cl, b1, by decide, fun r1 H2 k2 b2 r10 r11 => ⟨rfl, ?_⟩⟩
  generalize decide (V.int r1 = V.int 4) = lo
  have ho2 : LsT H2 p od := k2 _ _ hpa ho
  refine ⟨Nat.zero_le _, fun L hL => ?_⟩
  have k12 := k1.trans k2
  have hL0 : H L = none := by
    cases e : H L with
    | none => rfl
    | some u =>
      by_cases eL : L = a
      · subst eL; obtain ⟨_, _, _, _, _, h1, _⟩ := b2; rw [h1] at hL; cases hL
      · exact absurd ((k12 _ _ eL e).symm.trans hL) (by intro z; cases z)
  obtain ⟨hLa, hLc⟩ := b2.new hL
  have hLp : L ≠ p := (ne_of_none ho2 hL).symm
  have hoL : ((od.map V.str).length : Int) = od.length := by rw [List.length_map]
  refine ⟨_, rfl, p, _, rfl, .inl (SqL.of (same_new hL _ _ ho2)), _, _, rfl, ⟨by omega, by omega, by omega, by omega⟩, ?_⟩
  rw [hoL]
  refine for_it (walk_range (lo := 1) (n := ((od.length : Int) - 1).toNat)) (fun i σ H' => (∃ a6 a8, σ = [some (.ref a), some (.ref l), some (.int 2), some (.ref p), some (.bl lo), some (.ref L), a6, none, a8, none, none, none]) ∧ But a H H' ∧ BagAt H' a cl ∧ LsT H' p od ∧ ∃ prs, LtAt fPr H' L prs ∧ PrOk ns prs ∧ prs.length ≤ i)
    ⟨⟨_, _, rfl⟩, k12.trans (same_but (same_new hL)), b2.same (same_new hL), same_new hL _ _ ho2, [], ⟨[], upd_same, .nil⟩, by simp [PrOk], by simp⟩ (fun _ _ _ _ _ => trivial) ?_ ?_
  · rintro i x σ H4 H3 hi ⟨⟨a6, a8, rfl⟩, k3, b3, ho3, prs, hpr, hok, hpl⟩ ⟨rfl, rfl⟩
    refine ⟨_, rfl, spTake, cal_take T (hr.mono (by decide)), _, rfl, _, rfl, a, _, rfl, cl, b3, by omega, fun r H5 k5 b5 r0 rr => ?_⟩
    have hr1 : r < 1 + i := by split at rr <;> omega
    have ho5 : LsT H5 p od := k5 _ _ hpa ho3
    have hpr5 := hpr.but k5 hLa (bag_ntup b3)
    obtain ⟨y, ey⟩ : ∃ y, od[r.toNat]? = some y := ⟨_, List.getElem?_eq_getElem (by omega)⟩
    obtain ⟨y2, ey2⟩ : ∃ y, od[1 + i]? = some y := ⟨_, List.getElem?_eq_getElem (by omega)⟩
    have hyne : y ≠ y2 := fun e => by
      obtain ⟨g1, g2⟩ := List.getElem?_eq_some_iff.mp ey
      obtain ⟨g3, g4⟩ := List.getElem?_eq_some_iff.mp ey2
      have e3 : od[r.toNat] = od[1 + i] := by rw [g2, g4, e]
      have := (List.getElem_inj hond).mp e3
      omega
    have hyq : y ∈ ns ∧ y2 ∈ ns ∧ y ≠ y2 := ⟨home _ (List.mem_of_getElem? ey), home _ (List.mem_of_getElem? ey2), hyne⟩
    refine ⟨p, _, r, .str y, rfl, rfl, SqL.of ho5, ?_, ?_⟩
    · have : r = (r.toNat : Int) := by omega
      rw [this]; exact atI_nat (by simp [ey])
    have at2 : atI (od.map V.str) (1 + (i : Int)) = some (.str y2) := by
      rw [show (1 + (i : Int)) = ((1 + i : Nat) : Int) by omega]; exact atI_nat (by simp [ey2])
    have fin : ∀ (G : Hp) (rs : List Addr) (t : Addr), But a H G → BagAt G a cl → LsT G p od → G L = some (.lst (rs.map V.ref)) → Paired (fun r x => G r = some (.tup (fPr x))) rs prs → G t = none →
        But a H (upd (upd G t (.tup [.str y, .str y2])) L (.lst (rs.map V.ref ++ [.ref t]))) ∧ BagAt (upd (upd G t (.tup [.str y, .str y2])) L (.lst (rs.map V.ref ++ [.ref t]))) a cl ∧ LsT (upd (upd G t (.tup [.str y, .str y2])) L (.lst (rs.map V.ref ++ [.ref t]))) p od ∧ ∃ prs, LtAt fPr (upd (upd G t (.tup [.str y, .str y2])) L (.lst (rs.map V.ref ++ [.ref t]))) L prs ∧ PrOk ns prs ∧ prs.length ≤ i + 1 := fun G rs t g1 g2 g3 g4 g5 g6 => by
      have sn := same_new (o := .tup [.str y, .str y2]) g6
      refine ⟨fun x u hx e => ?_, (g2.same sn).upd hLa hLc, ?_, prs ++ [(y, y2)], LtAt.push (f := fPr) (x := (y, y2)) (sn _ _ g4) (paired_imp (fun _ _ e => sn _ _ e) g5) upd_same, hok.snoc hyq, by simp; omega⟩
      · rw [upd_ne (ne_of_none e hL0)]; exact sn _ _ (g1 x u hx e)
      · show upd _ L _ p = _
        rw [upd_ne hLp.symm]; exact sn _ _ g3
    have k35 := k3.trans k5
    refine ⟨_, rfl, lo, rfl, ?_⟩
    cases lo with
    | false =>
      obtain ⟨rs, hr5, hr6⟩ := hpr5
      refine iteT ⟨_, rfl, .inl ⟨rfl, _, SqL.of hr5⟩, _, rfl, _, rfl, _, rfl, p, _, _, .str y2, rfl, rfl, SqL.of ho5, at2, (by show 2 ≤ sizeLine; decide), fun t ht => ⟨L, _, _, rfl, rfl, same_new ht _ _ hr5, by rw [List.length_map, Paired.length hr6]; exact szl (by omega), ⟨_, _, rfl⟩, fin H5 rs t k35 b5 ho5 hr5 hr6 ht⟩⟩
    | true =>
      refine iteF ⟨spTake, cal_take T (hr.mono (by decide)), _, rfl, a, _, rfl, cl, b5, by decide, fun r3 H6 k6 b6 _ _ => ?_⟩
      have ho6 : LsT H6 p od := k6 _ _ hpa ho5
      have hpr6 := hpr5.but k6 hLa (bag_ntup b5)
      refine ⟨_, _, rfl, rfl, _, rfl, ifD (fun _ => ?_) (fun _ => ?_)⟩
      · obtain ⟨rs, hr5, hr6⟩ := hpr6
        refine ⟨_, rfl, .inl ⟨rfl, _, SqL.of hr5⟩, _, rfl, _, rfl, _, rfl, p, _, _, .str y2, rfl, rfl, SqL.of ho6, at2, (by show 2 ≤ sizeLine; decide), fun t ht => ⟨L, _, _, rfl, rfl, same_new ht _ _ hr5, by rw [List.length_map, Paired.length hr6]; exact szl (by omega), ⟨_, _, rfl⟩, fin H6 rs t (k35.trans k6) b6 ho6 hr5 hr6 ht⟩⟩
      · exact ⟨⟨_, _, rfl⟩, k35.trans k6, b6, ho6, prs, hpr6, hok, by omega⟩
  rintro σ H3 ⟨⟨a6, a8, rfl⟩, k3, b3, ho3, prs, hpr, hok, hpl⟩
  have hl3 : LsT H3 l ns := k3 _ _ hla hl
  have hpl : prs.length ≤ 4 := by omega
  refine ⟨_, rfl, l, _, rfl, .inl (SqL.of hl3), _, _, rfl, rfl, _, rfl, ifD (fun hgt => ?a) (fun hgt => ?b)⟩
  case' a =>
    rw [List.length_map] at hgt
    refine ⟨spTake, cal_take T (hr.mono (by decide)), _, rfl, _, rfl, _, _, rfl, rfl, a, _, rfl, cl, b3, by decide, fun r5 H5 k5 b5 r50 r51 => ?_⟩
    have r52 : r5 < 3 := r51
    refine ⟨r5, rfl, by omega, by omega, ?_⟩
    refine for_it (walk_range (lo := 0) (n := r5.toNat)) (fun i σ H' => (∃ a6 a8, σ = [some (.ref a), some (.ref l), some (.int 2), some (.ref p), some (.bl lo), some (.ref L), a6, none, a8, none, none, none]) ∧ But a H H' ∧ BagAt H' a cl ∧ ∃ prs, LtAt fPr H' L prs ∧ PrOk ns prs ∧ prs.length ≤ 4 + i)
      ⟨⟨_, _, rfl⟩, k3.trans k5, b5, prs, hpr.but k5 hLa (bag_ntup b3), hok, by omega⟩ (fun _ _ _ _ _ => trivial) ?t ?e
    case t =>
      rintro i x σ H7 H6 hi ⟨⟨a6, a8, rfl⟩, k6, b6, prs, hpr, hok, hpl⟩ ⟨rfl, rfl⟩
      have hl6 : LsT H6 l ns := k6 _ _ hla hl
      obtain ⟨rs, h61, h62⟩ := id hpr
      refine ⟨_, rfl, .inl ⟨rfl, _, SqL.of h61⟩, spSome, cal_some T hr, _, rfl, _, rfl, a, l, 2, rfl, cl, ns, b6, hl6, by omega, by omega, fun pf fs rest H8 hpf k8 b8 hf hperm hfl => ?_⟩
      have hf2 : fs.length = 2 := by rw [hfl]; have : (2 : Int).toNat = 2 := rfl
                                     omega
      obtain ⟨y, y2, rfl⟩ : ∃ y y2, fs = [y, y2] := by
        match fs, hf2 with
        | [y, y2], _ => exact ⟨y, y2, rfl⟩
      have hfnd : [y, y2].Nodup := (List.nodup_append.mp (hperm.nodup_iff.mpr hnd)).1
      have hfm : ∀ z ∈ [y, y2], z ∈ ns := fun z hz => hperm.mem_iff.mp (List.mem_append_left _ hz)
      have hyq : y ∈ ns ∧ y2 ∈ ns ∧ y ≠ y2 := ⟨hfm _ (by simp), hfm _ (by simp), by simpa using hfnd⟩
      refine ⟨pf, _, rfl, .inl ⟨SqL.of hf, fun t ht => ?_⟩⟩
      obtain ⟨rs, h81, h82⟩ := hpr.but k8 hLa (bag_ntup b6)
      have sn := same_new (o := .tup ([y, y2].map V.str)) ht
      refine ⟨L, _, _, rfl, rfl, sn _ _ h81, by rw [List.length_map, Paired.length h82]; exact szl (by omega), ⟨_, _, rfl⟩, fun x u hx e => ?_, (b8.same sn).upd hLa hLc, prs ++ [(y, y2)], LtAt.push (f := fPr) (x := (y, y2)) (sn _ _ h81) (paired_imp (fun _ _ e => sn _ _ e) h82) upd_same, hok.snoc hyq, by simp; omega⟩
      rw [upd_ne (ne_of_none e hL0)]; exact sn _ _ ((k6.trans k8) x u hx e)
    case' e =>
      rintro σ H3 ⟨⟨a6, a8, rfl⟩, k3, b3, prs, hpr, hok, hpl⟩
      have hpl : prs.length ≤ 6 := by omega
  case' b =>
    have hpl : prs.length ≤ 6 := by omega
  all_goals
    refine ⟨Nat.zero_le _, fun M hM => ?_⟩
    have hM0 : H M = none := by
      cases e : H M with
      | none => rfl
      | some u =>
        by_cases eL : M = a
        · subst eL; obtain ⟨_, _, _, _, _, h1, _⟩ := b3; rw [h1] at hM; cases hM
        · exact absurd ((k3 _ _ eL e).symm.trans hM) (by intro z; cases z)
    obtain ⟨hMa, hMc⟩ := b3.new hM
    obtain ⟨rs, hL1, hL2⟩ := hpr.same (same_new (o := .lst []) hM)
    have hLM : L ≠ M := by
      obtain ⟨_, h1, _⟩ := hpr
      exact ne_of_none h1 hM
    have hrl := Paired.length hL2
    refine ⟨_, rfl, L, rfl, ⟨_, SqL.of hL1⟩, for_it (walk_list (xs := rs.map V.ref)) (fun i σ H' => (∃ a6 a8 a9 a10 a11, σ = [some (.ref a), some (.ref l), some (.int 2), some (.ref p), some (.bl lo), some (.ref L), a6, some (.ref M), a8, a9, a10, a11]) ∧ But a H H' ∧ BagAt H' a cl ∧ H' L = some (.lst (rs.map V.ref)) ∧ Paired (fun r x => H' r = some (.tup (fPr x))) rs prs ∧ ∃ ms, LtAt fPr H' M ms ∧ PrOk ns ms ∧ ms.length = i)
      ⟨⟨_, _, _, _, _, rfl⟩, k3.trans (same_but (same_new hM)), b3.same (same_new hM), hL1, hL2, [], ⟨[], upd_same, .nil⟩, by simp [PrOk], rfl⟩ (fun _ _ _ _ h => SqL.of h.2.2.2.1) ?t2 ?e2⟩
    case t2 =>
      rintro i x σ H5 H4 hi ⟨⟨a6, a8, a9, a10, a11, rfl⟩, k4, b4, g1, g2, ms, hms, hmo, hml⟩ ⟨rfl, hx⟩
      obtain ⟨r, er, rfl⟩ := map_get hx
      obtain ⟨⟨qa, qb⟩, eq, hr1⟩ := paired_get g2 er
      have hq1 := hok _ (List.mem_of_getElem? eq)
      have hi6 : i < 6 := by rw [List.length_map] at hi; omega
      refine ⟨r, _, rfl, SqT.of hr1, rfl, _, _, rfl, _, _, rfl, rfl, _, rfl, _, rfl, (by show 2 ≤ sizeLine; decide), fun t1 ht1 => ?_⟩
      have s1 := same_new (o := .tup [.str qa, .str qb]) ht1
      refine ⟨spTake, cal_take T (hr.mono (by decide)), _, rfl, a, _, rfl, cl, b4.same s1, by decide, fun r2 H6 k6 b6 _ _ => ?_⟩
      have t1a : t1 ≠ a := ((b4.new ht1).1)
      have f6 : H6 t1 = some (.tup (fPr (qa, qb))) := k6 _ _ t1a upd_same
      have hLa2 : L ≠ a := hLa
      have L6 : H6 L = some (.lst (rs.map V.ref)) := k6 _ _ hLa (s1 _ _ g1)
      have nt := bag_ntup (b4.same s1)
      have P6 : Paired (fun r x => H6 r = some (.tup (fPr x))) rs prs := paired_imp (fun r _ e => k6 _ _ (fun z => nt _ (z ▸ (s1 _ _ e))) (s1 _ _ e)) g2
      have M6 := (hms.same s1).but k6 hMa nt
      have k46 := (k4.trans (same_but s1)).trans k6
      have fin : ∀ (G : Hp) (t : Addr) (q : Pr) (n : Nat), But a H G → BagAt G a cl → G L = some (.lst (rs.map V.ref)) → Paired (fun r x => G r = some (.tup (fPr x))) rs prs → ∀ tr : List Addr, G M = some (.lst (tr.map V.ref)) → Paired (fun r x => G r = some (.tup (fPr x))) tr ms → G t = some (.tup (fPr q)) → (q.1 ∈ ns ∧ q.2 ∈ ns ∧ q.1 ≠ q.2) →
          But a H (upd G M (.lst ((tr.map V.ref).take n ++ [V.ref t] ++ (tr.map V.ref).drop n))) ∧ BagAt (upd G M (.lst ((tr.map V.ref).take n ++ [V.ref t] ++ (tr.map V.ref).drop n))) a cl ∧ upd G M (.lst ((tr.map V.ref).take n ++ [V.ref t] ++ (tr.map V.ref).drop n)) L = some (.lst (rs.map V.ref)) ∧ Paired (fun r x => upd G M (.lst ((tr.map V.ref).take n ++ [V.ref t] ++ (tr.map V.ref).drop n)) r = some (.tup (fPr x))) rs prs ∧ ∃ ms, LtAt fPr (upd G M (.lst ((tr.map V.ref).take n ++ [V.ref t] ++ (tr.map V.ref).drop n))) M ms ∧ PrOk ns ms ∧ ms.length = i + 1 := fun G t q n c1 c2 c3 c4 tr c5 c6 c7 c8 => by
        refine ⟨fun x u hx e => ?_, c2.upd hMa hMc, by rw [upd_ne hLM]; exact c3, paired_imp (fun r _ e => ?_) c4, _, LtAt.ins n c5 c6 c7, fun y hy => ?_, ?_⟩
        · rw [upd_ne (ne_of_none e hM0)]; exact c1 x u hx e
        · rw [upd_ne (ne_of e c5 (by intro z; cases z))]; exact e
        · simp only [List.mem_append, List.mem_singleton] at hy
          rcases hy with (hy | hy) | hy
          · exact hmo y (List.mem_of_mem_take hy)
          · rw [hy]; exact c8
          · exact hmo y (List.mem_of_mem_drop hy)
        · simp only [List.length_append, List.length_take, List.length_drop, List.length_singleton]; omega
      refine ⟨rfl, _, rfl, ifD (fun _ => ?_) (fun _ => ?_)⟩
      · refine ⟨_, rfl, _, rfl, (by show 2 ≤ sizeLine; decide), fun t2 ht2 => ?_⟩
        have s2 := same_new (o := .tup [.str qb, .str qa]) ht2
        have b7 := b6.same s2
        have hlt2 : H6 t2 = none := ht2
        have t2a : t2 ≠ a := (b6.new ht2).1
        obtain ⟨tr0, h70, h71⟩ := M6.same s2
        refine ⟨_, rfl, .inl ⟨rfl, _, SqL.of h70⟩, spTake, cal_take T (hr.mono (by decide)), _, rfl, _, rfl, M, _, rfl, .inl (SqL.of h70), _, _, rfl, rfl, a, _, rfl, cl, b7, (by rw [List.length_map, Paired.length h71]; omega), fun r8 H8 k8 b8 r80 r81 => ?_⟩
        have nt2 := bag_ntup b7
        obtain ⟨tr, h80, h81⟩ := (M6.same s2).but k8 hMa nt2
        refine ⟨_, rfl, M, _, r8, .ref t2, rfl, rfl, h80, by rw [List.length_map, Paired.length h81]; exact szl (by omega), r80, ?_, ⟨_, _, _, _, _, rfl⟩, fin H8 t2 (qb, qa) r8.toNat ((k46.trans (same_but s2)).trans k8) b8 (k8 _ _ hLa (s2 _ _ L6)) (paired_imp (fun r _ e => k8 _ _ (fun z => nt2 _ (z ▸ (s2 _ _ e))) (s2 _ _ e)) P6) tr h80 h81 (k8 _ _ t2a upd_same) ⟨hq1.2.1, hq1.1, Ne.symm hq1.2.2⟩⟩
        rw [List.length_map, Paired.length h71] at r81
        split at r81 <;> omega
      · obtain ⟨tr0, h70, h71⟩ := id M6
        refine ⟨_, rfl, .inl ⟨rfl, _, SqL.of h70⟩, spTake, cal_take T (hr.mono (by decide)), _, rfl, _, rfl, M, _, rfl, .inl (SqL.of h70), _, _, rfl, rfl, a, _, rfl, cl, b6, (by rw [List.length_map, Paired.length h71]; omega), fun r8 H8 k8 b8 r80 r81 => ?_⟩
        have nt2 := bag_ntup b6
        obtain ⟨tr, h80, h81⟩ := M6.but k8 hMa nt2
        refine ⟨_, rfl, M, _, r8, .ref t1, rfl, rfl, h80, by rw [List.length_map, Paired.length h81]; exact szl (by omega), r80, ?_, ⟨_, _, _, _, _, rfl⟩, fin H8 t1 (qa, qb) r8.toNat (k46.trans k8) b8 (k8 _ _ hLa L6) (paired_imp (fun r _ e => k8 _ _ (fun z => nt2 _ (z ▸ e)) e) P6) tr h80 h81 (k8 _ _ t1a f6) hq1⟩
        rw [List.length_map, Paired.length h71] at r81
        split at r81 <;> omega
    case e2 =>
      rintro σ H4 ⟨⟨a6, a8, a9, a10, a11, rfl⟩, k4, b4, g1, g2, ms, hms, hmo, hml⟩
      exact ⟨_, rfl, q M ms H4 hM0 k4 b4 hms hmo (by rw [hml, List.length_map]; omega)⟩
end
end Fb
set_option maxHeartbeats 4000000
/-! Forkbeats: levels drawn, strikes, the bench. -/
namespace Fb
open PySem PySem.Spec PyProof.Rows L2
abbrev fSk (q : Sk) : List V := [.str q.1, .str q.2.1, .int q.2.2]
/-- strikes over pairs -/
def SkFrom (prs : List Pr) (sk : List Sk) : Prop := sk.map (fun q => (q.1, q.2.1)) = prs ∧ ∀ q ∈ sk, 0 ≤ q.2.2 ∧ q.2.2 ≤ 500000000
/-- levels -/
def LvOk (ns : List Str) (lv : List (Str × Int)) : Prop := lv.map (·.1) = ns ∧ ∀ q ∈ lv, -100000000 ≤ q.2 ∧ q.2 ≤ 100000000
theorem LvOk.get {ns : List Str} {lv : List (Str × Int)} (h : LvOk ns lv) {z : Str} (hz : z ∈ ns) : ∃ v, lv.lookup z = some v ∧ -100000000 ≤ v ∧ v ≤ 100000000 := by
  cases e : lv.lookup z with
  | none =>
    exfalso
    rw [← h.1] at hz
    obtain ⟨v, hv, e2⟩ := List.mem_map.mp hz
    have := List.lookup_eq_none_iff.mp e v hv
    rw [e2] at this
    simp at this
  | some v => exact ⟨v, rfl, h.2 _ (PySem.mem_of_lookup e)⟩
section
variable {P : Program} {w : World} {K : PySem.W.Frag} {mg : Str → Option Value} {base : Heap}
def spLevel : SpN := fun vs H Q => ∃ a l, vs = [.ref a, .ref l] ∧ ∃ cl ns, BagAt H a cl ∧ LsT H l ns ∧ ns.Nodup ∧ ns.length ≤ 10 ∧ ∀ d lv H', H d = none → But a H H' → BagAt H' a cl → H' d = some (.dK (dS lv)) → LvOk ns lv → Q (.ref d) H'
theorem sc__law_level : FnScope ["_law_bag_here", "_law_names_here", "_law_wide", "_law_level_here", "_law_name_here"] ["_law_bag_here", "_law_names_here"] (defScope (top 65)) := ⟨rfl, rfl, rfl, by decide +kernel, rfl, by decide +kernel, by decide +kernel⟩
theorem w__law_level (T : Txt P K mg) : FnN P w K mg base (2 + 1) (T.a__law_level) (spLevel) := by
  refine fn_mk (k := 2) (T.f__law_level) sc__law_level (fun _ _ _ _ _ _ us hl => match us, hl with | [_, _], _ => rfl) (fun vs H Q h => by obtain ⟨a, l, rfl, h⟩ := h; rfl) fun cdv A outer s H vs Q hr h => ?_
  have hu := hu_of hr
  have sc := sc__law_level
  obtain ⟨a, l, rfl, h⟩ := h
  refine ⟨_, (pss_cons (ps_set (i := 2) sc.nd rfl (.inl rfl) (pe_ix ix_list (pe_lst (pa_cons pe_int (pa_cons pe_int (pa_cons pe_int (pa_cons pe_int (pa_cons pe_int (pa_cons pe_int pa_nil))))))) (pe_cal (by rfl) (pa_cons (pv 0) (pa_cons pe_int pa_nil))) (fun _ _ => rfl)))
    (pss_cons (ps_set (i := 3) sc.nd rfl (.inl rfl) pe_dnewK)
    (pss_cons (ps_for PassesOwn.never rfl (pi_list (pv 1)) (pg_name (i := 4) sc.nd rfl (.inl rfl))
    (pss_one (ps_dput hu (pv 3) (pv 4) (pe_op op_sub (pe_cal (by rfl) (pa_cons (pv 0) (pa_cons (pv 2) pa_nil))) (pe_op op_fdiv (pv 2) pe_int)) rfl)))
    (pss_one (ps_ret (pv 3)))))), ?_⟩
  obtain ⟨cl, ns, hb, hl, hnd, hz, q⟩ := h
  have hla := bag_ne hb hl
  refine ⟨(by show 6 ≤ sizeLine; decide), fun p hp => ?_⟩
  have s1 := same_new (o := .lst [.int 3, .int 8, .int 2, .int 50, .int 5, .int 100000000]) hp
  have b1 := hb.same s1
  refine ⟨spTake, cal_take T hr, _, rfl, a, _, rfl, cl, b1, by decide, fun r H2 k2 b2 r0 r1 => ?_⟩
  have r1 : r < 6 := r1
  have hpw : H2 p = some (.lst [.int 3, .int 8, .int 2, .int 50, .int 5, .int 100000000]) := k2 _ _ (hb.new hp).1 upd_same
  obtain ⟨w, hw, w0, w1⟩ : ∃ w : Int, atI [V.int 3, .int 8, .int 2, .int 50, .int 5, .int 100000000] r = some (.int w) ∧ 2 ≤ w ∧ w ≤ 100000000 := by
    have : r = 0 ∨ r = 1 ∨ r = 2 ∨ r = 3 ∨ r = 4 ∨ r = 5 := by omega
    rcases this with e | e | e | e | e | e <;> subst e
    · exact ⟨3, rfl, by omega, by omega⟩
    · exact ⟨8, rfl, by omega, by omega⟩
    · exact ⟨2, rfl, by omega, by omega⟩
    · exact ⟨50, rfl, by omega, by omega⟩
    · exact ⟨5, rfl, by omega, by omega⟩
    · exact ⟨100000000, rfl, by omega, by omega⟩
  refine ⟨p, _, r, .int w, rfl, rfl, SqL.of hpw, hw, fun d hd => ?_⟩
  have k12 := (same_but (b := a) s1).trans k2
  have hd0 : H d = none := by
    cases e : H d with
    | none => rfl
    | some u =>
      by_cases eL : d = a
      · subst eL; obtain ⟨_, _, _, _, _, h1, _⟩ := b2; rw [h1] at hd; cases hd
      · exact absurd ((k12 _ _ eL e).symm.trans hd) (by intro z; cases z)
  obtain ⟨hda, hdc⟩ := b2.new hd
  have hl2 : LsT H2 l ns := k12 _ _ hla hl
  have hld : l ≠ d := ne_of_none hl2 hd
  refine ⟨_, rfl, l, rfl, ⟨_, SqL.of (same_new hd _ _ hl2)⟩, for_it (walk_list (xs := ns.map V.str)) (fun i σ H' => (∃ a4, σ = [some (.ref a), some (.ref l), some (.int w), some (.ref d), a4]) ∧ But a H H' ∧ BagAt H' a cl ∧ ∃ lv, H' d = some (.dK (dS lv)) ∧ LvOk (ns.take i) lv)
    ⟨⟨_, rfl⟩, k12.trans (same_but (same_new hd)), b2.same (same_new hd), [], upd_same, ⟨rfl, by simp⟩⟩ (fun _ _ _ _ h => SqL.of (h.2.1 _ _ hla hl)) ?_ ?_⟩
  · rintro i x σ H4 H3 hi ⟨⟨a4, rfl⟩, k3, b3, lv, hlv, hok⟩ ⟨rfl, hx⟩
    obtain ⟨z, ez, rfl⟩ := map_get hx
    have hlvl : lv.length ≤ 10 := by
      have := congrArg List.length hok.1
      rw [List.length_map, List.length_take] at this
      omega
    refine ⟨spTake, cal_take T hr, _, rfl, _, rfl, a, _, rfl, cl, b3, by omega, fun r H5 k5 b5 r0 r1 => ?_⟩
    have r2 : r < w := by split at r1 <;> omega
    have hlv5 := k5 _ _ hda hlv
    refine ⟨_, rfl, _, _, rfl, rfl, ⟨by decide, by decide⟩, _, _, rfl, rfl, _, rfl, _, rfl, d, _, rfl, DPut.k (k := Sum.inr z) hlv5 (by rw [dS, List.length_map]; exact szl (by omega)), ⟨_, rfl⟩, fun x u hx e => ?_, b5.upd hda hdc, lv ++ [(z, r - w / 2)], ?_, ?_⟩
    · rw [upd_ne (ne_of_none e hd0)]; exact (k3.trans k5) x u hx e
    · rw [upd_same, dS_new (lookup_none (by rw [hok.1]; exact mem_take_nodup hnd ez))]
    · refine ⟨?_, fun y hy => ?_⟩
      · rw [List.map_append, hok.1, List.take_add_one, ez]; rfl
      · rcases List.mem_append.mp hy with h | h
        · exact hok.2 y h
        · simp at h; subst h; constructor <;> (show _ ≤ _; dsimp only; omega)
  · rintro σ H3 ⟨⟨a4, rfl⟩, k3, b3, lv, hlv, hok⟩
    rw [List.length_map, List.take_length] at hok
    exact ⟨_, rfl, q d lv H3 hd0 k3 b3 hlv hok⟩
def spStruck : SpN := fun vs H Q => ∃ a l d, vs = [.ref a, .ref l, .ref d] ∧ ∃ cl ns prs lv, BagAt H a cl ∧ LtAt fPr H l prs ∧ PrOk ns prs ∧ prs.length ≤ 6 ∧ H d = some (.dK (dS lv)) ∧ LvOk ns lv ∧ ∀ p sk H', H p = none → But a H H' → BagAt H' a cl → LtAt fSk H' p sk → SkFrom prs sk → Q (.ref p) H'
theorem iabs_if (x : Int) : (if x < 0 then -x else x) = iabs x := by unfold iabs; split <;> rfl
theorem sc__law_struck : FnScope ["_law_bag_here", "_law_pairs_here", "_law_level_here", "_law_way", "_law_strikes", "_law_a", "_law_b", "_law_count"] ["_law_bag_here", "_law_pairs_here", "_law_level_here"] (defScope (top 66)) := ⟨rfl, rfl, rfl, by decide +kernel, rfl, by decide +kernel, by decide +kernel⟩
theorem w__law_struck (T : Txt P K mg) : FnN P w K mg base (2 + 1) (T.a__law_struck) (spStruck) := by
  refine fn_mk (k := 2) (T.f__law_struck) sc__law_struck (fun _ _ _ _ _ _ us hl => match us, hl with | [_, _, _], _ => rfl) (fun vs H Q h => by obtain ⟨a, l, d, rfl, h⟩ := h; rfl) fun cdv A outer s H vs Q hr h => ?_
  have hu := hu_of hr
  have sc := sc__law_struck
  obtain ⟨a, l, d, rfl, h⟩ := h
  refine ⟨_, (pss_cons (ps_set (i := 3) sc.nd rfl (.inl rfl) (pe_cal (by rfl) (pa_cons (pv 0) (pa_cons pe_int pa_nil))))
    (pss_cons (ps_set (i := 4) sc.nd rfl (.inl rfl) (pe_lst pa_nil))
    (pss_cons (ps_for PassesOwn.never rfl (pi_list (pv 1)) (pg_tup rfl (pgs_cons (pg_name (i := 5) sc.nd rfl (.inl rfl)) (pgs_cons (pg_name (i := 6) sc.nd rfl (.inl rfl)) pgs_nil)))
    (pss_cons (ps_set (i := 7) sc.nd rfl (.inl rfl) (pe_callB call_abs (by rfl) T.n_abs (by decide +kernel) (pa_cons (pe_op op_sub (pe_dget hu (pv 2) (pv 5) (fun _ _ => rfl)) (pe_dget hu (pv 2) (pv 6) (fun _ _ => rfl))) pa_nil)))
    (pss_cons (ps_if (pt_cmpR op_eq (pv 3) pe_int (nomark _))
    (pss_one (ps_set (i := 7) sc.nd rfl (.inl rfl) (pe_cal (by rfl) (pa_cons (pv 0) (pa_cons pe_int pa_nil)))))
    pss_nil)
    (pss_cons (ps_if (PW.pt (pw_and (pt_cmpR op_eq (pv 3) pe_int (nomark _)) (pw_and1 (pt_cmpR op_eq (pe_cal (by rfl) (pa_cons (pv 0) (pa_cons pe_int pa_nil))) pe_int (nomark _)))))
    (pss_one (ps_set (i := 7) sc.nd rfl (.inl rfl) (pe_callB call_abs (by rfl) T.n_abs (by decide +kernel) (pa_cons (pe_op op_sub (pe_op op_add (pv 7) (pe_op op_mul pe_int (pe_cal (by rfl) (pa_cons (pv 0) (pa_cons pe_int pa_nil))))) pe_int) pa_nil))))
    pss_nil)
    (pss_one (ps_expr (pe_bm PySem.F.plainAttrs_list PySem.F.slot_list_append PySem.F.type_list_append mt_append (pv 4) (pa_cons (pe_tup (pa_cons (pv 5) (pa_cons (pv 6) (pa_cons (pv 7) pa_nil)))) pa_nil))))))))
    (pss_one (ps_ret (pv 4)))))), ?_⟩
  obtain ⟨cl, ns, prs, lv, hb, ⟨rs, hl1, hl2⟩, hpo, hpl, hd, hlv, q⟩ := h
  have hda : d ≠ a := fun e => by obtain ⟨_, _, _, _, _, h1, _⟩ := hb; rw [e, h1] at hd; cases hd
  have hrl := Paired.length hl2
  have nt := bag_ntup hb
  have hla : l ≠ a := fun e => by
    obtain ⟨_, _, _, _, _, h1, _⟩ := hb
    rw [e, h1] at hl1
    cases rs with
    | nil => cases hl1
    | cons x r => cases hl1
  refine ⟨spTake, cal_take T hr, _, rfl, a, _, rfl, cl, hb, by decide, fun way H1 k1 b1 _ _ => ⟨Nat.zero_le _, fun M hM => ?_⟩⟩
  have hM0 : H M = none := by
    cases e : H M with
    | none => rfl
    | some u =>
      by_cases eL : M = a
      · subst eL; obtain ⟨_, _, _, _, _, h1, _⟩ := b1; rw [h1] at hM; cases hM
      · exact absurd ((k1 _ _ eL e).symm.trans hM) (by intro z; cases z)
  obtain ⟨hMa, hMc⟩ := b1.new hM
  refine ⟨_, rfl, l, rfl, ⟨_, SqL.of (same_new hM _ _ (k1 _ _ hla hl1))⟩, for_it (walk_list (xs := rs.map V.ref)) (fun i σ H' => (∃ a5 a6 a7, σ = [some (.ref a), some (.ref l), some (.ref d), some (.int way), some (.ref M), a5, a6, a7]) ∧ But a H H' ∧ BagAt H' a cl ∧ ∃ sk, LtAt fSk H' M sk ∧ SkFrom (prs.take i) sk)
    ⟨⟨_, _, _, rfl⟩, k1.trans (same_but (same_new hM)), b1.same (same_new hM), [], ⟨[], upd_same, .nil⟩, ⟨rfl, by simp⟩⟩ (fun _ _ _ _ h => SqL.of (h.2.1 _ _ hla hl1)) ?_ ?_⟩
  · rintro i x σ H3 H2 hi ⟨⟨a5, a6, a7, rfl⟩, k2, b2, sk, hsk, hso⟩ ⟨rfl, hx⟩
    obtain ⟨r, er, rfl⟩ := map_get hx
    obtain ⟨⟨qa, qb⟩, eq, hr1⟩ := paired_get hl2 er
    obtain ⟨m1, m2, m3⟩ := hpo _ (List.mem_of_getElem? eq)
    obtain ⟨va, ea, va0, va1⟩ := hlv.get m1
    obtain ⟨vb, eb, vb0, vb1⟩ := hlv.get m2
    have hi6 : i < 6 := by rw [List.length_map] at hi; omega
    have hr2 := k2 _ _ (fun z => nt _ (z ▸ hr1)) hr1
    have hd2 := k2 _ _ hda hd
    refine ⟨r, _, rfl, SqT.of hr2, rfl, _, _, rfl, _, _, rfl, rfl, ?_⟩
    refine ⟨_, rfl, _, rfl, d, .int va, rfl, dgetS hd2 ea, _, rfl, _, rfl, d, .int vb, rfl, dgetS hd2 eb, _, _, rfl, rfl, _, rfl, ?_⟩
    rw [iabs_if]
    have c0 : 0 ≤ iabs (va - vb) ∧ iabs (va - vb) ≤ 200000000 := by unfold iabs; split <;> omega
    generalize iabs (va - vb) = c at c0
    have fin : ∀ (G : Hp) (c : Int) (t : Addr), But a H2 G → BagAt G a cl → 0 ≤ c → c ≤ 500000000 → G t = none → ∀ tr : List Addr, G M = some (.lst (tr.map V.ref)) → Paired (fun r x => G r = some (.tup (fSk x))) tr sk →
        But a H (upd (upd G t (.tup [.str qa, .str qb, .int c])) M (.lst (tr.map V.ref ++ [.ref t]))) ∧ BagAt (upd (upd G t (.tup [.str qa, .str qb, .int c])) M (.lst (tr.map V.ref ++ [.ref t]))) a cl ∧ ∃ sk, LtAt fSk (upd (upd G t (.tup [.str qa, .str qb, .int c])) M (.lst (tr.map V.ref ++ [.ref t]))) M sk ∧ SkFrom (prs.take (i + 1)) sk := fun G c t g1 g2 g3 g4 g5 tr g6 g7 => by
      have sn := same_new (o := .tup [.str qa, .str qb, .int c]) g5
      refine ⟨fun x u hx e => ?_, (g2.same sn).upd hMa hMc, sk ++ [(qa, qb, c)], LtAt.push (f := fSk) (x := (qa, qb, c)) (sn _ _ g6) (paired_imp (fun _ _ e => sn _ _ e) g7) upd_same, ?_, fun y hy => ?_⟩
      · rw [upd_ne (ne_of_none e hM0)]; exact sn _ _ ((k2.trans g1) x u hx e)
      · rw [List.map_append, hso.1, List.take_add_one, eq]; rfl
      · rcases List.mem_append.mp hy with h | h
        · exact hso.2 y h
        · simp at h; subst h; exact ⟨g3, g4⟩
    have hskl : sk.length ≤ 6 := by
      have := congrArg List.length hso.1
      rw [List.length_map, List.length_take] at this
      omega
    refine ⟨_, rfl, rfl, _, rfl, ifD (fun e2 => ?a) (fun e2 => ?b)⟩
    case' a =>
      refine ⟨spTake, cal_take T hr, _, rfl, a, _, rfl, cl, b2, by decide, fun c H4 k4 b4 c0 c1 => ?_⟩
      have c0 : 0 ≤ c ∧ c ≤ 200000000 := by have : c < 4 := c1
                                            omega
      have hsk4 := hsk.but k4 hMa (bag_ntup b2)
    case' b =>
      have k4 := same_but (b := a) (same_refl (H := H2))
      have b4 := b2
      have hsk4 := hsk
    all_goals
      refine ⟨_, rfl, rfl, _, rfl, ifD (fun e3 => ?_) (fun e3 => iteF ?_)⟩
      · refine ⟨spTake, cal_take T hr, _, rfl, a, _, rfl, cl, b4, by decide, fun r3 H5 k5 b5 _ _ => ?_⟩
        have hsk5 := hsk4.but k5 hMa (bag_ntup b4)
        refine ⟨rfl, _, rfl, ifD (fun _ => ?_) (fun _ => ?_)⟩
        · refine ⟨_, rfl, spTake, cal_take T hr, _, rfl, a, _, rfl, cl, b5, by decide, fun r4 H6 k6 b6 r40 r41 => ?_⟩
          have r42 : r4 < 2 := r41
          have hsk6 := hsk5.but k6 hMa (bag_ntup b5)
          refine ⟨_, _, rfl, rfl, .inl ⟨by decide, by decide⟩, _, _, rfl, rfl, _, _, rfl, rfl, _, rfl, ?_⟩
          rw [iabs_if]
          have c2 : 0 ≤ iabs (c + 2 * r4 - 1) ∧ iabs (c + 2 * r4 - 1) ≤ 500000000 := by unfold iabs; split <;> omega
          generalize iabs (c + 2 * r4 - 1) = c3 at c2
          obtain ⟨tr, h61, h62⟩ := hsk6
          refine ⟨_, rfl, .inl ⟨rfl, _, SqL.of h61⟩, _, rfl, _, rfl, _, rfl, (by show 3 ≤ sizeLine; decide), fun t ht => ⟨M, _, _, rfl, rfl, same_new ht _ _ h61, by rw [List.length_map, Paired.length h62]; exact szl (by omega), ⟨_, _, _, rfl⟩, fin _ c3 t ((k4.trans k5).trans k6) b6 c2.1 c2.2 ht tr h61 h62⟩⟩
        · obtain ⟨tr, h61, h62⟩ := hsk5
          refine ⟨_, rfl, .inl ⟨rfl, _, SqL.of h61⟩, _, rfl, _, rfl, _, rfl, (by show 3 ≤ sizeLine; decide), fun t ht => ⟨M, _, _, rfl, rfl, same_new ht _ _ h61, by rw [List.length_map, Paired.length h62]; exact szl (by omega), ⟨_, _, _, rfl⟩, fin _ c t (k4.trans k5) b5 c0.1 (by omega) ht tr h61 h62⟩⟩
      · obtain ⟨tr, h61, h62⟩ := hsk4
        refine ⟨_, rfl, .inl ⟨rfl, _, SqL.of h61⟩, _, rfl, _, rfl, _, rfl, (by show 3 ≤ sizeLine; decide), fun t ht => ⟨M, _, _, rfl, rfl, same_new ht _ _ h61, by rw [List.length_map, Paired.length h62]; exact szl (by omega), ⟨_, _, _, rfl⟩, fin _ c t k4 b4 c0.1 (by omega) ht tr h61 h62⟩⟩
  · rintro σ H3 ⟨⟨a5, a6, a7, rfl⟩, k3, b3, sk, hsk, hso⟩
    rw [List.length_map, hrl, List.take_length] at hso
    exact ⟨_, rfl, q M sk H3 hM0 k3 b3 hsk hso⟩
def spLawBench (T : Txt P K mg) : SpN := fun vs H Q => ∃ l ls, vs = [.ref l, .ref ls, .int 0] ∧ ∃ ns prs sk, LsT H l ns ∧ ns.Nodup ∧ (∀ z ∈ ns, NameOk z) ∧ ns.length ≤ 5 ∧ LtAt fSk H ls sk ∧ SkFrom prs sk ∧ PrOk ns prs ∧ prs.length ≤ 6 ∧
  ∀ b S ps H', H b = none → Same H H' → BnAt T H' b S ps [] → StAt T H' S ⟨ns, sk, []⟩ → ps.length ≤ 20 → Q (.ref b) H'
theorem sc__law_bench : FnScope ["_law_names_here", "_law_strikes", "_law_spare", "_law_bench_here", "_law_name_here", "_law_a", "_law_b", "_law_count"] ["_law_names_here", "_law_strikes", "_law_spare"] (defScope (top 68)) := ⟨rfl, rfl, rfl, by decide +kernel, rfl, by decide +kernel, by decide +kernel⟩
theorem w__law_bench (T : Txt P K mg) : FnN P w K mg base (4 + 1) (T.a__law_bench) (spLawBench T) := by
  refine fn_mk (k := 4) (T.f__law_bench) sc__law_bench (fun _ _ _ _ _ _ us hl => match us, hl with | [_, _, _], _ => rfl) (fun vs H Q h => by obtain ⟨l, ls, rfl, h⟩ := h; rfl) fun cdv A outer s H vs Q hr h => ?_
  have hu := hu_of hr
  have sc := sc__law_bench
  obtain ⟨l, ls, rfl, h⟩ := h
  refine ⟨_, (pss_cons (ps_set (i := 3) sc.nd rfl (.inl rfl) (pe_mkr (by rfl) (pa_cons (pv 2) pa_nil)))
    (pss_cons (ps_for PassesOwn.never rfl (pi_list (pv 0)) (pg_name (i := 4) sc.nd rfl (.inl rfl))
    (pss_one (ps_expr (pe_met (pv 3) (pa_cons (pv 4) pa_nil)))))
    (pss_cons (ps_for PassesOwn.never rfl (pi_list (pv 1)) (pg_tup rfl (pgs_cons (pg_name (i := 5) sc.nd rfl (.inl rfl)) (pgs_cons (pg_name (i := 6) sc.nd rfl (.inl rfl)) (pgs_cons (pg_name (i := 7) sc.nd rfl (.inl rfl)) pgs_nil))))
    (pss_one (ps_expr (pe_met (pv 3) (pa_cons (pv 5) (pa_cons (pv 6) (pa_cons (pv 7) pa_nil)))))))
    (pss_one (ps_ret (pv 3)))))), ?_⟩
  obtain ⟨ns, prs, sk, hl, hnd, hnm, hnl, ⟨rs, hs1, hs2⟩, hso, hpo, hpl, q⟩ := h
  have hskl : sk.length = prs.length := by rw [← hso.1, List.length_map]
  have hrl := Paired.length hs2
  refine ⟨T.C_Bench, spBenchInit T, ⟨T.g_Bench, _, 2, T.mk_Bench, w_Bench_init T, hr.mono (by decide)⟩, _, rfl, fun b dx hb hdx hne => ⟨b, rfl, dx, upd_same, fun S H1 k1 hb1 hst1 => ⟨rfl, ?_⟩⟩⟩
  have s1 : Same H H1 := out_same hb hdx hne k1
  have hbut : ∀ {G : Hp}, Same H G → ∀ {G' : Hp}, But b G G' → Same H G' := fun {G} k {G'} k2 x u e => k2 x u (ne_of_none e hb) (k x u e)
  refine ⟨_, rfl, l, rfl, ⟨_, SqL.of (s1 _ _ hl)⟩, for_it (walk_list (xs := ns.map V.str)) (fun i σ H' => (∃ a4 a5 a6 a7, σ = [some (.ref l), some (.ref ls), some (.int 0), some (.ref b), a4, a5, a6, a7]) ∧ Same H H' ∧ ∃ S ps, BnAt T H' b S ps [] ∧ StAt T H' S ⟨ns.take i, [], []⟩ ∧ ps.length = i)
    ⟨⟨_, _, _, _, rfl⟩, s1, S, [], hb1, hst1, rfl⟩ (fun _ _ _ _ h => SqL.of (h.2.1 _ _ hl)) ?_ ?_⟩
  · rintro i x σ H3 H2 hi ⟨⟨a4, a5, a6, a7, rfl⟩, s2, S, ps, hbn, hst, hps⟩ ⟨rfl, hx⟩
    obtain ⟨z, ez, rfl⟩ := map_get hx
    have hi5 : i < 5 := by rw [List.length_map] at hi; omega
    obtain ⟨dxb, Pp, Fu, g1, _⟩ := id hbn
    refine ⟨_, rfl, b, _, dxb, _, _, rfl, g1, rfl, ⟨T.cl_Bench, _, 4, T.m_Bench_add, w_Bench_add T (z := z), hr⟩, _, rfl, [.ref b], [.str z], rfl, rfl, (by show 1 ≤ sizeLine; decide), fun p hp => ?_⟩
    have sp := same_new (o := .tup [.str z]) hp
    refine ⟨b, p, rfl, S, ps, [], ⟨ns.take i, [], []⟩, hbn.same sp, hst.at (same_kept sp), by omega, upd_same, hnm z (List.mem_of_getElem? ez), mem_take_nodup hnd ez, by show (ns.take i).length < 10; rw [List.length_take]; omega, fun S' r tx H4 k4 hb4 hst4 _ => ⟨⟨_, _, _, _, rfl⟩, hbut (same_trans s2 sp) k4, S', _, hb4, ?_, by simp [hps]⟩⟩
    rw [List.take_add_one, ez]
    exact hst4
  · rintro σ H2 ⟨⟨a4, a5, a6, a7, rfl⟩, s2, S, ps, hbn, hst, hps⟩
    rw [List.length_map, List.take_length] at hst
    rw [List.length_map] at hps
    refine ⟨_, rfl, ls, rfl, ⟨_, SqL.of (s2 _ _ hs1)⟩, for_it (walk_list (xs := rs.map V.ref)) (fun i σ H' => (∃ a4 a5 a6 a7, σ = [some (.ref l), some (.ref ls), some (.int 0), some (.ref b), a4, a5, a6, a7]) ∧ Same H H' ∧ ∃ S ps, BnAt T H' b S ps [] ∧ StAt T H' S ⟨ns, sk.take i, []⟩ ∧ ps.length = ns.length + i)
      ⟨⟨_, _, _, _, rfl⟩, s2, S, ps, hbn, hst, hps⟩ (fun _ _ _ _ h => SqL.of (h.2.1 _ _ hs1)) ?_ ?_⟩
    · rintro i x σ H4 H3 hi ⟨⟨a4, a5, a6, a7, rfl⟩, s3, S, ps, hbn, hst, hps⟩ ⟨rfl, hx⟩
      obtain ⟨r, er, rfl⟩ := map_get hx
      obtain ⟨⟨qa, qb, qn⟩, eq, hr1⟩ := paired_get hs2 er
      have hi6 : i < 6 := by rw [List.length_map] at hi; omega
      obtain ⟨c0, c1⟩ := hso.2 _ (List.mem_of_getElem? eq)
      have c1 : qn ≤ 500000000 := c1
      have hqm : (qa, qb) ∈ prs := by rw [← hso.1]; exact List.mem_map.mpr ⟨_, List.mem_of_getElem? eq, rfl⟩
      obtain ⟨m1, m2, m3⟩ := hpo _ hqm
      obtain ⟨dxb, Pp, Fu, g1, _⟩ := id hbn
      refine ⟨r, _, rfl, SqT.of (s3 _ _ hr1), rfl, _, _, rfl, _, _, rfl, _, _, rfl, rfl, ?_⟩
      refine ⟨_, rfl, b, _, dxb, _, _, rfl, g1, rfl, ⟨T.cl_Bench, _, 4, T.m_Bench_strike, w_Bench_strike T, hr⟩, _, rfl, _, rfl, _, rfl, b, qa, qb, qn, rfl, S, ps, [], ⟨ns, sk.take i, []⟩, hbn, hst, by omega, m1, m2, m3, hnm _ m1, hnm _ m2, c0, by unfold big; omega, by show (sk.take i).length < 20; rw [List.length_take]; omega, fun S' r tx H5 k5 hb5 hst5 _ => ⟨⟨_, _, _, _, rfl⟩, hbut s3 k5, S', _, hb5, ?_, by simp [hps]; omega⟩⟩
      rw [List.take_add_one, eq]
      exact hst5
    · rintro σ H3 ⟨⟨a4, a5, a6, a7, rfl⟩, s3, S, ps, hbn, hst, hps⟩
      rw [List.length_map, hrl, List.take_length] at hst
      rw [List.length_map] at hps
      exact ⟨_, rfl, q b S ps H3 hb s3 hbn hst (by omega)⟩
end
end Fb
set_option maxHeartbeats 4000000
/-! Forkbeats: rises; pieces. -/
namespace Fb
open PySem PySem.Spec PyProof.Rows L2
section
variable {P : Program} {w : World} {K : PySem.W.Frag} {mg : Str → Option Value} {base : Heap}
def spRises : SpN := fun vs H Q => ∃ c, vs = [.int c, .int 0] ∧ 0 ≤ c ∧ ∀ p H', Same H H' → H' p = some (.lst ((marks c).map V.int)) → Q (.ref p) H'
theorem sc__law_rises : FnScope ["_law_count", "_law_spare", "_law_found", "_law_one"] ["_law_count", "_law_spare"] (defScope (top 69)) := ⟨rfl, rfl, rfl, by decide +kernel, rfl, by decide +kernel, by decide +kernel⟩
theorem w__law_rises (T : Txt P K mg) : FnN P w K mg base (0 + 1) (T.a__law_rises) (spRises) := by
  refine fn_mk (k := 0) (T.f__law_rises) sc__law_rises (fun _ _ _ _ _ _ us hl => match us, hl with | [_, _], _ => rfl) (fun vs H Q h => by obtain ⟨c, rfl, h⟩ := h; rfl) fun cdv A outer s H vs Q hr h => ?_
  have hu := hu_of hr
  have sc := sc__law_rises
  obtain ⟨c, rfl, h⟩ := h
  refine ⟨_, (pss_cons (ps_set (i := 2) sc.nd rfl (.inl rfl) (pe_lst (pa_cons (pv 0) pa_nil)))
    (pss_cons (ps_if (pt_cmpR op_gt (pv 1) pe_int (nomark _))
    (pss_one (ps_setLc (i := 2) (own := [("_law_one", 3)]) rfl sc.nd rfl rfl (sw_true rfl rfl rfl (by decide +kernel)) (pi_list (pe_lst (pa_cons (pe_op op_sub (pv 0) pe_int) (pa_cons (pv 0) (pa_cons (pe_op op_add (pv 0) pe_int) pa_nil))))) (blkOk_by (N := ["_law_count", "_law_spare", "_law_found", "_law_one"]) (sc := (defScope (top 69))) (by decide +kernel)) (fun _ _ _ _ _ => (pg_name (i := 3) sc.nd rfl (.inl rfl) (.inr rfl))) (fun _ _ _ _ _ => (pts_one (pt_cmpR op_ge (pv 3) pe_int (nomark _)))) (fun _ _ _ _ _ => (pv 3))))
    pss_nil)
    (pss_one (ps_ret (pe_callB (cr_sortedSet rfl) (by rfl) T.n_sorted (by decide +kernel) (pa_cons (pe_callTy (cr_setL1 rfl) (by rfl) T.n_set (by decide +kernel) (pa_cons (pe_op op_cat (pe_lc (own := [("_law_one", 3)]) rfl sc.nd (pi_list (pv 2)) (blkOk_by (N := ["_law_count", "_law_spare", "_law_found", "_law_one"]) (sc := (defScope (top 69))) (by decide +kernel)) (fun _ _ _ _ _ => (pg_name (i := 3) sc.nd rfl (.inl rfl) (.inr rfl))) (fun _ _ _ _ _ => pts_nil) (fun _ _ _ _ _ => (pv 3))) (pe_lc (own := [("_law_one", 3)]) rfl sc.nd (pi_list (pv 2)) (blkOk_by (N := ["_law_count", "_law_spare", "_law_found", "_law_one"]) (sc := (defScope (top 69))) (by decide +kernel)) (fun _ _ _ _ _ => (pg_name (i := 3) sc.nd rfl (.inl rfl) (.inr rfl))) (fun _ _ _ _ _ => pts_nil) (fun _ _ _ _ _ => (pe_un un_neg (pv 3))))) pa_nil)) pa_nil)))))), ?_⟩
  obtain ⟨hc0, q⟩ := h
  refine ⟨_, rfl, (by show 1 ≤ sizeLine; decide), fun F hF => ?_⟩
  have s1 := same_new (o := .lst [.int c]) hF
  have f1 : upd H F (.lst [.int c]) F = some (.lst ([c].map V.int)) := upd_same
  generalize upd H F (.lst [.int c]) = H1 at s1 f1
  refine ⟨_, rfl, _, _, rfl, rfl, _, rfl, ifN (by decide) ?_⟩
  refine ⟨_, rfl, F, rfl, ⟨_, SqL.of f1⟩, fun D hD => ?_⟩
  refine lc_it (walk_list (xs := [c].map V.int)) (fun i H' => Same H1 H' ∧ H' D = some (.lst (([c].take i).map V.int))) ⟨same_new hD, upd_same⟩ (fun _ _ _ h => SqL.of (h.1 _ _ f1)) ?_ ?_
  · rintro i x H3 H2 hi ⟨s2, hd⟩ ⟨rfl, hx⟩
    obtain ⟨v, ev, rfl⟩ := map_get hx
    refine ⟨rfl, _, rfl, _, hd, ?_, same_mut s2 hD, ?_⟩
    · rw [List.length_map, List.length_take]; exact szl (by simp at hi ⊢; omega)
    · rw [upd_same, List.take_add_one, ev]; simp
  rintro H2 ⟨s2, hd⟩
  refine ⟨_, rfl, F, rfl, ⟨_, SqL.of (s2 _ _ f1)⟩, fun E hE => ?_⟩
  refine lc_it (walk_list (xs := [c].map V.int)) (fun i H' => Same H2 H' ∧ H' E = some (.lst (([-c].take i).map V.int))) ⟨same_new hE, upd_same⟩ (fun _ _ _ h => SqL.of (h.1 _ _ (s2 _ _ f1))) ?_ ?_
  · rintro i x H4 H3 hi ⟨s3, he⟩ ⟨rfl, hx⟩
    obtain ⟨v, ev, rfl⟩ := map_get hx
    have hi0 : i = 0 := by simp at hi; omega
    subst hi0
    have ev : c = v := by simpa using ev
    subst ev
    refine ⟨rfl, _, rfl, _, rfl, _, he, ?_, same_mut s3 hE, ?_⟩
    · exact szl (by simp)
    · rw [upd_same]; simp
  rintro H3 ⟨s3, he⟩
  refine ⟨D, E, _, _, rfl, rfl, s3 _ _ hd, he, (by show 2 ≤ sizeLine; decide), fun G hG => ?_⟩
  have s4 := same_trans s1 (same_trans s2 (same_trans s3 (same_new (o := .lst ([V.int c] ++ [V.int (-c)])) hG)))
  have g4 : upd H3 G (.lst ([V.int c] ++ [V.int (-c)])) G = some (.lst ([c, -c].map V.int)) := upd_same
  show _
  refine ⟨G, [c, -c], rfl, SqL.of g4, (by show 2 < 1000; decide), fun p1 n hp1 hn => ⟨p1, _, n, rfl, upd_same, Nat.lt_of_le_of_lt hn (by show 2 < 64; decide), fun ns p2 hpw hmem hlen hp2 => ?_⟩⟩
  obtain rfl : ns = marks c := sorted_ext hpw (marks_pw hc0) fun k => by
    rw [hmem, marks_mem]
    simp
    omega
  exact q p2 _ (same_trans (same_trans s4 (same_new (o := SetO w p1 (fun j => decide (j ∈ [c, -c])) n) hp1)) (same_new (o := .lst ((marks c).map V.int)) hp2)) upd_same
end
end Fb
set_option maxHeartbeats 4000000
/-! Forkbeats: pieces. -/
namespace Fb
open PySem PySem.Spec PyProof.Rows L2
/-- closed under strikes -/
def ClosedF (sk : List Sk) (F : List Str) : Prop := ∀ q ∈ sk, q.1 ∈ F ↔ q.2.1 ∈ F
/-- held together by strikes -/
def Conn (sk : List Sk) (a b : Str) : Prop := ∀ F, ClosedF sk F → (a ∈ F ↔ b ∈ F)
theorem Conn.refl {sk : List Sk} {a : Str} : Conn sk a a := fun _ _ => Iff.rfl
theorem Conn.symm {sk : List Sk} {a b : Str} (h : Conn sk a b) : Conn sk b a := fun F hF => (h F hF).symm
theorem Conn.trans {sk : List Sk} {a b c : Str} (h : Conn sk a b) (k : Conn sk b c) : Conn sk a c := fun F hF => (h F hF).trans (k F hF)
theorem Conn.strike {sk : List Sk} {q : Sk} (h : q ∈ sk) : Conn sk q.1 q.2.1 := fun F hF => hF q h
/-- a bundle of names -/
structure Bun (ns : List Str) (sk : List Sk) (b : List Str) : Prop where
  ne : b ≠ []
  inn : ∀ z ∈ b, z ∈ ns
  nd : b.Nodup
  cn : ∀ y ∈ b, ∀ z ∈ b, Conn sk y z
  len : b.length ≤ ns.length
def BunAt (H : Hp) (l : Addr) (bs : List (List Str)) : Prop := ∃ rs : List Addr, H l = some (.lst (rs.map V.ref)) ∧ Paired (fun r (b : List Str) => H r = some (.lst (b.map V.str))) rs bs
/-- the marks -/
def MkP (H : Hp) (d : Addr) (sk : List Sk) (ns dom : List Str) (n : Nat) (f : Str → Int) : Prop := ∃ kvs, H d = some (.dK kvs) ∧ kvs.length ≤ n ∧ ∀ z ∈ dom, valV kvs (Sum.inr z : Key) = some (.int (f z)) ∧ ∃ (j : Nat) (x : Str), ns[j]? = some x ∧ f z = (j : Int) ∧ Conn sk z x
theorem MkP.same {H H' : Hp} {d : Addr} {sk : List Sk} {ns dom : List Str} {n : Nat} {f : Str → Int} (h : MkP H d sk ns dom n f) (k : Same H H') : MkP H' d sk ns dom n f := by
  obtain ⟨kvs, h1, h2, h3⟩ := h
  exact ⟨kvs, k _ _ h1, h2, h3⟩
theorem MkP.get {H : Hp} {d : Addr} {sk : List Sk} {ns dom : List Str} {n : Nat} {f : Str → Int} (h : MkP H d sk ns dom n f) {z : Str} (hz : z ∈ dom) : DGet H d (.str z) (some (.int (f z))) := by
  obtain ⟨kvs, h1, h2, h3⟩ := h
  have := DGet.k (k := Sum.inr z) h1
  rw [(h3 z hz).1] at this
  exact this
theorem MkP.put {H : Hp} {d : Addr} {sk : List Sk} {ns dom : List Str} {n : Nat} {f : Str → Int} {kvs : List (Key × V)} (h1 : H d = some (.dK kvs)) (h2 : kvs.length ≤ n) (h3 : ∀ z ∈ dom, valV kvs (Sum.inr z : Key) = some (.int (f z)) ∧ ∃ (j : Nat) (x : Str), ns[j]? = some x ∧ f z = (j : Int) ∧ Conn sk z x) {z x : Str} (hz : z ∈ dom) {j : Nat} (hj : ns[j]? = some x) (hc : Conn sk z x) :
    MkP (upd H d (.dK (putK kvs (Sum.inr z) (.int (j : Int))))) d sk ns dom n (fun y => if y = z then (j : Int) else f y) := by
  refine ⟨_, upd_same, by rw [length_putK_old (by rw [(h3 z hz).1]; simp)]; exact h2, fun y hy => ?_⟩
  rw [valV_put]
  by_cases e : y = z
  · subst e
    exact ⟨by simp, j, x, hj, by simp, hc⟩
  · have : ¬ (Sum.inr y : Key) = Sum.inr z := fun q => e (by injection q)
    rw [if_neg this]
    simp only [if_neg e]
    exact h3 y hy
theorem dp_strs {K : PySem.W.Frag} {H : Hp} : ∀ ns : List Str, DpAll K H (ns.map V.str) (ns.map .str)
  | [] => .nil
  | n :: ns => .cons (.str n) (dp_strs ns)
theorem nameOk_str {z : Str} (h : NameOk z) : PyData.strOk z = true := by
  show z.cps.all (· < 0x110000) = true
  rw [Array.all_eq_true]
  intro i hi
  have := h.az z.cps[i] (by simp)
  simp
  omega
theorem layable_strs : ∀ ns : List Str, (∀ z ∈ ns, NameOk z) → PyData.canLayAll0 (ns.map PyData.str) = true
  | [], _ => by simp [PyData.canLayAll0]
  | n :: r, h => by simp [PyData.canLayAll0, PyData.canLay0, layable_strs r fun z hz => h z (List.mem_cons_of_mem _ hz), nameOk_str (h n (List.mem_cons_self ..))]
theorem depth_strs : ∀ ns : List Str, PyData.depthAll (ns.map PyData.str) ≤ 1
  | [] => by simp [PyData.depthAll]
  | n :: r => by
    have := depth_strs r
    simp only [List.map_cons, PyData.depthAll, PyData.depth]
    omega
theorem shaped_strs (ns : List Str) (h : ∀ z ∈ ns, NameOk z) : SeqAt.shaped (.list (ns.map PyData.str)) = true := by
  have h1 := depth_strs ns
  have h2 : PyData.depth (.list (ns.map PyData.str)) ≤ 64 := by simp only [PyData.depth]; omega
  show (PyData.canLay0 (.list (ns.map PyData.str)) && decide (PyData.depth (.list (ns.map PyData.str)) ≤ 64)) = true
  rw [Bool.and_eq_true]
  exact ⟨by simp only [PyData.canLay0]; exact layable_strs ns h, decide_eq_true h2⟩
theorem eqv_nil (ns : List Str) : PyData.eqv (.list (ns.map PyData.str)) (.list []) = decide (ns = []) := by
  rw [PyData.eqv]
  cases ns <;> simp [PyData.eqvAll]
section
variable {P : Program} {w : World} {K : PySem.W.Frag} {mg : Str → Option Value} {base : Heap}
def spPieces : SpN := fun vs H Q => ∃ l ls, vs = [.ref l, .ref ls] ∧ ∃ ns sk, LsT H l ns ∧ ns.Nodup ∧ (∀ z ∈ ns, NameOk z) ∧ ns ≠ [] ∧ ns.length ≤ 5 ∧ LtAt fSk H ls sk ∧ (∀ q ∈ sk, q.1 ∈ ns ∧ q.2.1 ∈ ns) ∧ sk.length ≤ 20 ∧
  ∀ p bs H', H p = none → Same H H' → BunAt H' p bs → bs ≠ [] → bs.length ≤ 5 → (∀ b ∈ bs, Bun ns sk b) → Q (.ref p) H'
theorem sc__law_pieces : FnScope ["_law_names_here", "_law_strikes", "_law_mark", "_law_k", "_law_turn", "_law_found", "_law_members", "_law_a", "_law_b", "_law_count", "_law_least", "_law_name_here"] ["_law_names_here", "_law_strikes"] (defScope (top 70)) := ⟨rfl, rfl, rfl, by decide +kernel, rfl, by decide +kernel, by decide +kernel⟩
theorem w__law_pieces (T : Txt P K mg) : FnN P w K mg base (0 + 1) (T.a__law_pieces) (spPieces) := by
  refine fn_mk (k := 0) (T.f__law_pieces) sc__law_pieces (fun _ _ _ _ _ _ us hl => match us, hl with | [_, _], _ => rfl) (fun vs H Q h => by obtain ⟨l, ls, rfl, h⟩ := h; rfl) fun cdv A outer s H vs Q hr h => ?_
  have hu := hu_of hr
  have sc := sc__law_pieces
  obtain ⟨l, ls, rfl, h⟩ := h
  refine ⟨_, (pss_cons (ps_set (i := 2) sc.nd rfl (.inr rfl) pe_dnewK)
    (pss_cons (ps_for PassesOwn.never rfl (pi_range1 (by rfl) T.n_range (pa_cons (pe_callB call_len_seq (by rfl) T.n_len PySem.boot_len (pa_cons (pv 0) pa_nil)) pa_nil)) (pg_name (i := 3) sc.nd rfl (.inr rfl))
    (pss_one (ps_dput hu (pv 2) (pe_ix ix_list (pv 0) (pv 3) (fun _ _ => rfl)) (pv 3) rfl)))
    (pss_cons (ps_for PassesOwn.never rfl (pi_range1 (by rfl) T.n_range (pa_cons (pe_callB call_len_seq (by rfl) T.n_len PySem.boot_len (pa_cons (pv 0) pa_nil)) pa_nil)) (pg_name (i := 4) sc.nd rfl (.inl rfl))
    (pss_one (ps_for PassesOwn.never rfl (pi_list (pv 1)) (pg_tup rfl (pgs_cons (pg_name (i := 7) sc.nd rfl (.inl rfl)) (pgs_cons (pg_name (i := 8) sc.nd rfl (.inl rfl)) (pgs_cons (pg_name (i := 9) sc.nd rfl (.inl rfl)) pgs_nil))))
    (pss_cons (ps_set (i := 10) sc.nd rfl (.inl rfl) (pe_callB (call_min2 rfl) (by rfl) T.n_min (by decide +kernel) (pa_cons (pe_dget hu (pv 2) (pv 7) (fun _ _ => rfl)) (pa_cons (pe_dget hu (pv 2) (pv 8) (fun _ _ => rfl)) pa_nil))))
    (pss_cons (ps_dput hu (pv 2) (pv 7) (pv 10) rfl)
    (pss_one (ps_dput hu (pv 2) (pv 8) (pv 10) rfl)))))))
    (pss_cons (ps_set (i := 5) sc.nd rfl (.inl rfl) (pe_lst pa_nil))
    (pss_cons (ps_for PassesOwn.never rfl (pi_range1 (by rfl) T.n_range (pa_cons (pe_callB call_len_seq (by rfl) T.n_len PySem.boot_len (pa_cons (pv 0) pa_nil)) pa_nil)) (pg_name (i := 3) sc.nd rfl (.inr rfl))
    (pss_cons (ps_setLc (i := 6) (own := [("_law_name_here", 11)]) rfl sc.nd rfl rfl (sw_true rfl rfl rfl (by decide +kernel)) (pi_list (pv 0)) (blkOk_by (N := ["_law_names_here", "_law_strikes", "_law_mark", "_law_k", "_law_turn", "_law_found", "_law_members", "_law_a", "_law_b", "_law_count", "_law_least", "_law_name_here"]) (sc := (defScope (top 70))) (by decide +kernel)) (fun _ _ _ _ _ => (pg_name (i := 11) sc.nd rfl (.inl rfl) (.inr rfl))) (fun _ _ _ _ _ => (pts_one (pt_cmpR op_eq (pe_dget hu (pv 2) (pv 11) (fun _ _ => rfl)) (pv 3) (nomark _)))) (fun _ _ _ _ _ => (pv 11)))
    (pss_one (ps_if (pt_cmpR (op_neD (hu64 hr)) (pv 6) (pe_lst pa_nil) (nomark _))
    (pss_one (ps_expr (pe_bm PySem.F.plainAttrs_list PySem.F.slot_list_append PySem.F.type_list_append mt_append (pv 5) (pa_cons (pv 6) pa_nil))))
    pss_nil))))
    (pss_one (ps_ret (pv 5)))))))), ?_⟩
  obtain ⟨ns, sk, hl, hnd, hnm, hne, hnl, ⟨rs, hs1, hs2⟩, hin, hsl, q⟩ := h
  have hrl := Paired.length hs2
  have hlen : ((ns.map V.str).length : Int) = ns.length := by rw [List.length_map]
  intro d hd
  have s1 := same_new (o := .dK []) hd
  refine ⟨_, rfl, l, _, rfl, .inl (SqL.of (s1 _ _ hl)), _, rfl, by omega, by omega, ?_⟩
  refine for_it (walk_range (lo := 0) (n := ((ns.map V.str).length : Int).toNat)) (fun i σ H' => (∃ a3, σ = [some (.ref l), some (.ref ls), some (.ref d), a3, none, none, none, none, none, none, none, none]) ∧ Same H H' ∧ ∃ f, MkP H' d sk ns (ns.take i) i f)
    ⟨⟨_, rfl⟩, s1, fun _ => 0, [], upd_same, Nat.le_refl _, by simp⟩ (fun _ _ _ _ _ => trivial) ?_ ?_
  · rintro i x σ H2 H1 hi ⟨⟨a3, rfl⟩, s2, f, kvs, h1, h2, h3⟩ ⟨rfl, rfl⟩
    have hi2 : i < ns.length := by omega
    obtain ⟨z, ez⟩ : ∃ z, ns[i]? = some z := ⟨_, List.getElem?_eq_getElem hi2⟩
    refine ⟨_, rfl, _, rfl, _, rfl, _, rfl, l, _, _, .str z, rfl, rfl, SqL.of (s2 _ _ hl), by rw [Int.zero_add]; exact atI_nat (by simp [ez]), d, _, rfl, DPut.k (k := Sum.inr z) h1 (szl (by omega)), ⟨_, rfl⟩, same_mut s2 hd, fun y => if y = z then (i : Int) else f y, _, upd_same, Nat.le_trans putK_le (by omega), fun y hy => ?_⟩
    rw [valV_put]
    by_cases e : y = z
    · subst e
      simp only [if_true]
      exact ⟨by rw [Int.zero_add], i, y, ez, rfl, .refl⟩
    · have : ¬ (Sum.inr y : Key) = Sum.inr z := fun q => e (by injection q)
      rw [if_neg this]
      simp only [if_neg e]
      refine h3 y ?_
      rw [List.take_add_one, ez] at hy
      rcases List.mem_append.mp hy with h | h
      · exact h
      · simp at h; exact absurd h e
  rintro σ H1 ⟨⟨a3, rfl⟩, s2, hf⟩
  have htk : ns.take ((ns.map V.str).length : Int).toNat = ns := List.take_of_length_le (by omega)
  rw [htk] at hf
  have hf : ∃ f, MkP H1 d sk ns ns 5 f := by
    obtain ⟨f, kvs, h1, h2, h3⟩ := hf
    exact ⟨f, kvs, h1, by omega, h3⟩
  refine ⟨_, rfl, l, _, rfl, .inl (SqL.of (s2 _ _ hl)), _, rfl, by omega, by omega, ?_⟩
  refine for_it (walk_range (lo := 0) (n := ((ns.map V.str).length : Int).toNat)) (fun i σ H' => (∃ a3 a4 a7 a8 a9 a10, σ = [some (.ref l), some (.ref ls), some (.ref d), a3, a4, none, none, a7, a8, a9, a10, none]) ∧ Same H H' ∧ ∃ f, MkP H' d sk ns ns 5 f)
    ⟨⟨_, _, _, _, _, _, rfl⟩, s2, hf⟩ (fun _ _ _ _ _ => trivial) ?_ ?_
  · rintro i x σ H3 H2 hi ⟨⟨a3, a4, a7, a8, a9, a10, rfl⟩, s3, hf⟩ ⟨rfl, rfl⟩
    refine ⟨_, rfl, ls, rfl, ⟨_, SqL.of (s3 _ _ hs1)⟩, for_it (walk_list (xs := rs.map V.ref)) (fun i σ H' => (∃ a3 a4 a7 a8 a9 a10, σ = [some (.ref l), some (.ref ls), some (.ref d), a3, a4, none, none, a7, a8, a9, a10, none]) ∧ Same H H' ∧ ∃ f, MkP H' d sk ns ns 5 f)
      ⟨⟨_, _, _, _, _, _, rfl⟩, s3, hf⟩ (fun _ _ _ _ h => SqL.of (h.2.1 _ _ hs1)) ?_ ?_⟩
    · rintro j y σ H5 H4 hj ⟨⟨b3, b4, b7, b8, b9, b10, rfl⟩, s4, f, hm⟩ ⟨rfl, hy⟩
      obtain ⟨r, er, rfl⟩ := map_get hy
      obtain ⟨⟨qa, qb, qn⟩, eq, hr1⟩ := paired_get hs2 er
      have hqm := List.mem_of_getElem? eq
      obtain ⟨ma, mb⟩ := hin _ hqm
      have hcn : Conn sk qa qb := Conn.strike hqm
      refine ⟨r, _, rfl, SqT.of (s4 _ _ hr1), rfl, _, _, rfl, _, _, rfl, _, _, rfl, rfl, ?_⟩
      refine ⟨_, rfl, _, rfl, d, _, rfl, hm.get ma, _, rfl, _, rfl, d, _, rfl, hm.get mb, _, _, rfl, ?_⟩
      obtain ⟨kvs, h1, h2, h3⟩ := hm
      obtain ⟨ja, xa, ea, fa, ca⟩ := (h3 qa ma).2
      obtain ⟨jb, xb, eb, fb, cb⟩ := (h3 qb mb).2
      obtain ⟨jl, xl, el, fl, cl⟩ : ∃ (j : Nat) (x : Str), ns[j]? = some x ∧ (if f qb < f qa then f qb else f qa) = (j : Int) ∧ Conn sk qa x := by
        split
        · exact ⟨jb, xb, eb, fb, hcn.trans cb⟩
        · exact ⟨ja, xa, ea, fa, ca⟩
      rw [fl]
      have M1 := MkP.put (n := 5) h1 h2 h3 ma el cl
      refine ⟨_, rfl, _, rfl, _, rfl, d, _, rfl, DPut.k (k := Sum.inr qa) h1 (szl (by omega)), ?_⟩
      obtain ⟨kvs2, g1, g2, g3⟩ := M1
      refine ⟨_, rfl, _, rfl, _, rfl, d, _, rfl, DPut.k (k := Sum.inr qb) g1 (szl (by omega)), ⟨_, _, _, _, _, _, rfl⟩, same_mut (same_mut s4 hd) hd, _, MkP.put (n := 5) g1 g2 g3 mb el (hcn.symm.trans cl)⟩
    · rintro σ H4 h
      exact h
  rintro σ H2 ⟨⟨a3, a4, a7, a8, a9, a10, rfl⟩, s3, f, hm⟩
  refine ⟨Nat.zero_le _, fun F hF => ?_⟩
  have hF0 : H F = none := by
    cases e : H F with
    | none => rfl
    | some u => exact absurd ((s3 _ _ e).symm.trans hF) (by intro z; cases z)
  have s4 := same_trans s3 (same_new (o := .lst []) hF)
  have hdF : d ≠ F := by
    obtain ⟨_, h1, _⟩ := hm
    exact ne_of_none h1 hF
  have hm4 := hm.same (same_new (o := .lst []) hF)
  have hFF : upd H2 F (.lst []) F = some (.lst []) := upd_same
  generalize upd H2 F (.lst []) = H3 at s4 hm4 hFF
  obtain ⟨kvs, h1, h2, h3⟩ := id hm4
  refine ⟨_, rfl, l, _, rfl, .inl (SqL.of (s4 _ _ hl)), _, rfl, by omega, by omega, ?_⟩
  refine for_it (walk_range (lo := 0) (n := ((ns.map V.str).length : Int).toNat)) (fun i σ H' => (∃ a3 a6, σ = [some (.ref l), some (.ref ls), some (.ref d), a3, a4, some (.ref F), a6, a7, a8, a9, a10, none]) ∧ Same H H' ∧ MkP H' d sk ns ns 5 f ∧ ∃ bs, BunAt H' F bs ∧ bs.length ≤ i ∧ (∀ b ∈ bs, Bun ns sk b) ∧ (∀ z ∈ ns, f z < (i : Int) → bs ≠ []))
    ⟨⟨_, _, rfl⟩, s4, hm4, [], ⟨[], hFF, .nil⟩, by simp, by simp, fun z hz h => ?_⟩ (fun _ _ _ _ _ => trivial) ?_ ?_
  · exfalso
    obtain ⟨j, x, _, e, _⟩ := (h3 z hz).2
    rw [e] at h
    omega
  · rintro i x σ H5 H4 hi ⟨⟨a3, a6, rfl⟩, s5, hm5, bs, ⟨br, hb1, hb2⟩, hbl, hbo, hbn⟩ ⟨rfl, rfl⟩
    have hi2 : i < ns.length := by omega
    refine ⟨_, rfl, l, rfl, ⟨_, SqL.of (s5 _ _ hl)⟩, fun D hD => ?_⟩
    refine lc_it (walk_list (xs := ns.map V.str)) (fun j H' => Same H4 H' ∧ H' D = some (.lst (((ns.take j).filter (fun z => decide (f z = (i : Int)))).map V.str))) ⟨same_new hD, upd_same⟩ (fun _ _ _ h => SqL.of (h.1 _ _ (s5 _ _ hl))) ?_ ?_
    · rintro j y H7 H6 hj ⟨s6, hd6⟩ ⟨rfl, hy⟩
      obtain ⟨z, ez, rfl⟩ := map_get hy
      have hz := List.mem_of_getElem? ez
      have etk := filter_take (p := fun z => decide (f z = (i : Int))) ez
      refine ⟨rfl, _, rfl, _, rfl, d, _, rfl, (hm5.same s6).get hz, _, rfl, rfl, _, rfl, ifD (fun e => ?_) (fun e => ?_)⟩
      · have e : f z = (i : Int) := by
          have : V.int (f z) = V.int (0 + (i : Int)) := e
          injection this with this
          omega
        refine ⟨_, rfl, _, hd6, ?_, same_mut s6 hD, ?_⟩
        · rw [List.length_map]
          refine Nat.lt_of_le_of_lt (List.length_filter_le ..) ?_
          rw [List.length_take]
          exact szl (by omega)
        · rw [upd_same, etk, if_pos (by simpa using e)]; simp
      · have e : ¬ f z = (i : Int) := fun h => e (by show V.int (f z) = V.int (0 + (i : Int)); rw [h, Int.zero_add])
        refine ⟨s6, ?_⟩
        rw [etk, if_neg (by simpa using e), List.append_nil]; exact hd6
    rintro H6 ⟨s6, hd6⟩
    rw [List.length_map, List.take_length] at hd6
    have hB : ns.filter (fun z => decide (f z = (i : Int))) ≠ [] → Bun ns sk (ns.filter fun z => decide (f z = (i : Int))) := fun hne => by
      refine ⟨hne, fun z hz => (List.mem_filter.mp hz).1, hnd.filter _, fun y hy z hz => ?_, List.length_filter_le ..⟩
      obtain ⟨y1, y2⟩ := List.mem_filter.mp hy
      obtain ⟨z1, z2⟩ := List.mem_filter.mp hz
      have y2 : f y = (i : Int) := by simpa using y2
      have z2 : f z = (i : Int) := by simpa using z2
      obtain ⟨j1, x1, e1, g1, c1⟩ := (h3 y y1).2
      obtain ⟨j2, x2, e2, g2, c2⟩ := (h3 z z1).2
      have : j1 = j2 := by omega
      subst this
      rw [e1] at e2
      cases e2
      exact c1.trans c2.symm
    have hin2 : ∀ z ∈ ns, f z = (i : Int) → z ∈ ns.filter fun z => decide (f z = (i : Int)) := fun z hz e => List.mem_filter.mpr ⟨hz, by simpa using e⟩
    have hmn : ∀ z ∈ ns.filter (fun z => decide (f z = (i : Int))), NameOk z := fun z hz => hnm z (List.mem_filter.mp hz).1
    generalize ns.filter (fun z => decide (f z = (i : Int))) = mb at hd6 hB hin2 hmn
    refine ⟨_, rfl, Nat.zero_le _, fun p hp => ?_⟩
    have s7 := same_new (o := .lst []) hp
    refine ⟨.list (mb.map .str), .list [], .lst (SqL.of (s7 _ _ hd6)) (dp_strs mb), .lst (SqL.of (xs := []) upd_same) .nil, shaped_strs mb hmn, shaped_strs [] (by simp), _, rfl, ?_⟩
    rw [eqv_nil]
    have s8 := same_trans (same_trans s5 s6) s7
    have b8 : upd H6 p (.lst []) F = some (.lst (br.map V.ref)) := s7 _ _ (s6 _ _ hb1)
    have m8 := (hm5.same s6).same s7
    have d8 := s7 _ _ hd6
    have hb8 := paired_imp (fun r (b : List Str) (e : H4 r = some (.lst (b.map V.str))) => s7 _ _ (s6 _ _ e)) hb2
    have hDF : F ≠ D := ne_of_none hb1 hD
    generalize upd H6 p (.lst []) = H5 at s7 s8 b8 m8 d8 hb8
    refine ifnD (fun hne => ?_) (fun he => ?_)
    · refine ⟨_, rfl, .inl ⟨rfl, _, SqL.of b8⟩, _, rfl, F, _, _, rfl, rfl, b8, by rw [List.length_map, Paired.length hb2]; exact szl (by omega), ⟨_, _, rfl⟩, same_mut s8 hF0, ?_, bs ++ [mb], ?_, by simp; omega, fun b hb => ?_, fun z hz h => by simp⟩
      · obtain ⟨kv, g1, g2, g3⟩ := m8
        exact ⟨kv, by rw [upd_ne hdF]; exact g1, g2, g3⟩
      · have go : ∀ r (b : List Str), b ∈ bs → H5 r = some (.lst (b.map V.str)) → upd H5 F (.lst (br.map V.ref ++ [.ref D])) r = some (.lst (b.map V.str)) := fun r b hbm e => by
          refine Eq.trans (upd_ne fun z => ?_) e
          rw [z, b8] at e
          have hbn := (hbo b hbm).ne
          cases b with
          | nil => exact hbn rfl
          | cons a t => cases br with
            | nil => cases e
            | cons x y => cases e
        refine ⟨br ++ [D], by rw [upd_same, List.map_append]; rfl, paired_snoc (paired_mem hb8 fun r b hb e => go r b hb e) ?_⟩
        exact Eq.trans (upd_ne hDF.symm) d8
      · rcases List.mem_append.mp hb with h | h
        · exact hbo b h
        · simp at h; rw [h]; exact hB hne
    · refine ⟨⟨_, _, rfl⟩, s8, m8, bs, ⟨br, b8, hb8⟩, by omega, hbo, fun z hz h => ?_⟩
      by_cases e : f z < (i : Int)
      · exact hbn z hz e
      · have : f z = (i : Int) := by omega
        have := hin2 z hz this
        rw [he] at this
        cases this
  · rintro σ H4 ⟨⟨a3, a6, rfl⟩, s5, hm5, bs, hb, hbl, hbo, hbn⟩
    refine ⟨_, rfl, q F bs H4 hF0 s5 hb ?_ (by omega) hbo⟩
    obtain ⟨z, r, ez⟩ := List.exists_cons_of_ne_nil hne
    have hz : z ∈ ns := by rw [ez]; simp
    obtain ⟨j, x, e1, e2, _⟩ := (h3 z hz).2
    obtain ⟨g1, _⟩ := List.getElem?_eq_some_iff.mp e1
    exact hbn z hz (by omega)
end
end Fb
set_option maxHeartbeats 4000000
/-! Forkbeats: plans drawn. -/
namespace Fb
open PySem PySem.Spec PyProof.Rows L2
def wordP : Px → Str
  | .above .. => "above"
  | .intune .. => "intune"
  | .between .. => "between"
  | .highest .. => "highest"
  | .asoften .. => "asoften"
  | .more .. => "moreoften"
  | .trio .. => "trio"
/-- the plan of a plain fact -/
def PlanP (H : Hp) (t : Addr) : Px → Prop
  | .trio a b c rs => ∃ l r n1 n2 n3, rs = [n1, n2, n3] ∧ H t = some (.tup [.str "trio", .ref l, .ref r]) ∧ LsT H l [a, b, c] ∧ H r = some (.lst [.int n1, .int n2, .int n3])
  | p => ∃ l, H t = some (.tup [.str (wordP p), .ref l]) ∧ LsT H l p.names
def PxOk (ns : List Str) (p : Px) : Prop := (∀ z ∈ p.names, z ∈ ns) ∧ match p with
  | .above a b => a ≠ b
  | .intune a b => a ≠ b
  | .between a b c => [a, b, c].Nodup
  | .highest a xs => (a :: xs).Nodup ∧ xs.length ≤ 4
  | .asoften a b c d => a ≠ b ∧ c ≠ d
  | .more a b c d => a ≠ b ∧ c ≠ d
  | .trio a b c rs => [a, b, c].Nodup ∧ ∀ n ∈ rs, 0 ≤ n ∧ n ≤ big
theorem PlanP.at {H H' : Hp} {t : Addr} {p : Px} (h : PlanP H t p) (k : Kept H H') : PlanP H' t p := by
  cases p with
  | trio a b c rs =>
    obtain ⟨l, r, n1, n2, n3, h1, h2, h3, h4⟩ := h
    exact ⟨l, r, n1, n2, n3, h1, k _ _ trivial h2, k _ _ (stay_strs [a, b, c]) h3, k _ _ (stay_ints [n1, n2, n3]) h4⟩
  | _ =>
    obtain ⟨l, h1, h2⟩ := h
    exact ⟨l, k _ _ trivial h1, k _ _ (stay_strs _) h2⟩
/-- the plan of a fact -/
def PlanF (H : Hp) (t : Addr) : Fx → Prop
  | .plain p => PlanP H t p
  | .not p => ∃ u, H t = some (.tup [.str "not", .ref u]) ∧ PlanP H u p
  | .both p q => ∃ u v, H t = some (.tup [.str "both", .ref u, .ref v]) ∧ PlanP H u p ∧ PlanP H v q
  | .either p q => ∃ u v, H t = some (.tup [.str "either", .ref u, .ref v]) ∧ PlanP H u p ∧ PlanP H v q
def FxOk (ns : List Str) : Fx → Prop
  | .plain p => PxOk ns p
  | .not p => PxOk ns p
  | .both p q => PxOk ns p ∧ PxOk ns q
  | .either p q => PxOk ns p ∧ PxOk ns q
theorem PlanF.at {H H' : Hp} {t : Addr} {x : Fx} (h : PlanF H t x) (k : Kept H H') : PlanF H' t x := by
  cases x with
  | plain p => exact PlanP.at h k
  | not p => obtain ⟨u, h1, h2⟩ := h; exact ⟨u, k _ _ trivial h1, h2.at k⟩
  | both p q => obtain ⟨u, v, h1, h2, h3⟩ := h; exact ⟨u, v, k _ _ trivial h1, h2.at k, h3.at k⟩
  | either p q => obtain ⟨u, v, h1, h2, h3⟩ := h; exact ⟨u, v, k _ _ trivial h1, h2.at k, h3.at k⟩
theorem some_ok {fs rest ns : List Str} (h : (fs ++ rest).Perm ns) (hn : ns.Nodup) : fs.Nodup ∧ ∀ z ∈ fs, z ∈ ns :=
  ⟨(List.nodup_append.mp (h.nodup_iff.mpr hn)).1, fun z hz => h.mem_iff.mp (List.mem_append_left _ hz)⟩
theorem len2 {fs : List Str} (h : fs.length = 2) : ∃ a b, fs = [a, b] := by
  match fs, h with
  | [a, b], _ => exact ⟨a, b, rfl⟩
theorem len3 {fs : List Str} (h : fs.length = 3) : ∃ a b c, fs = [a, b, c] := by
  match fs, h with
  | [a, b, c], _ => exact ⟨a, b, c, rfl⟩
theorem len3i {fs : List Int} (h : fs.length = 3) : ∃ a b c, fs = [a, b, c] := by
  match fs, h with
  | [a, b, c], _ => exact ⟨a, b, c, rfl⟩
section
variable {P : Program} {w : World} {K : PySem.W.Frag} {mg : Str → Option Value} {base : Heap}
def spDrawP : SpN := fun vs H Q => ∃ a l, vs = [.ref a, .ref l] ∧ ∃ cl ns, BagAt H a cl ∧ LsT H l ns ∧ ns.Nodup ∧ ns ≠ [] ∧ ns.length ≤ 5 ∧ ∀ t p H', But a H H' → BagAt H' a cl → PlanP H' t p → PxOk ns p → Q (.ref t) H'
theorem sc__law_draw_plain : FnScope ["_law_bag_here", "_law_names_here", "_law_kind", "_law_told"] ["_law_bag_here", "_law_names_here"] (defScope (top 71)) := ⟨rfl, rfl, rfl, by decide +kernel, rfl, by decide +kernel, by decide +kernel⟩
theorem w__law_draw_plain (T : Txt P K mg) : FnN P w K mg base (3 + 1) (T.a__law_draw_plain) (spDrawP) := by
  refine fn_mk (k := 3) (T.f__law_draw_plain) sc__law_draw_plain (fun _ _ _ _ _ _ us hl => match us, hl with | [_, _], _ => rfl) (fun vs H Q h => by obtain ⟨a, l, rfl, h⟩ := h; rfl) fun cdv A outer s H vs Q hr h => ?_
  have hu := hu_of hr
  have sc := sc__law_draw_plain
  obtain ⟨a, l, rfl, h⟩ := h
  refine ⟨_, (pss_cons (ps_set (i := 2) sc.nd rfl (.inl rfl) (pe_cal (by rfl) (pa_cons (pv 0) (pa_cons pe_int pa_nil))))
    (pss_cons (ps_if (pt_cmpR op_lt (pe_callB call_len_seq (by rfl) T.n_len PySem.boot_len (pa_cons (pv 1) pa_nil)) pe_int (nomark _))
    (pss_one (ps_ret (pe_tup (pa_cons pe_str (pa_cons (pe_cal (by rfl) (pa_cons (pv 0) (pa_cons (pv 1) (pa_cons pe_int pa_nil)))) pa_nil)))))
    pss_nil)
    (pss_cons (ps_if (pt_cmpR op_eq (pv 2) pe_int (nomark _))
    (pss_one (ps_ret (pe_tup (pa_cons pe_str (pa_cons (pe_cal (by rfl) (pa_cons (pv 0) (pa_cons (pv 1) (pa_cons pe_int pa_nil)))) pa_nil)))))
    pss_nil)
    (pss_cons (ps_if (pt_cmpR op_eq (pv 2) pe_int (nomark _))
    (pss_one (ps_ret (pe_tup (pa_cons pe_str (pa_cons (pe_cal (by rfl) (pa_cons (pv 0) (pa_cons (pv 1) (pa_cons pe_int pa_nil)))) pa_nil)))))
    pss_nil)
    (pss_cons (ps_if (pt_cmpR op_eq (pv 2) pe_int (nomark _))
    (pss_one (ps_ret (pe_tup (pa_cons pe_str (pa_cons (pe_cal (by rfl) (pa_cons (pv 0) (pa_cons (pv 1) (pa_cons (pe_op op_add pe_int (pe_cal (by rfl) (pa_cons (pv 0) (pa_cons (pe_callB (call_min2 rfl) (by rfl) T.n_min (by decide +kernel) (pa_cons pe_int (pa_cons (pe_callB call_len_seq (by rfl) T.n_len PySem.boot_len (pa_cons (pv 1) pa_nil)) pa_nil))) pa_nil)))) pa_nil)))) pa_nil)))))
    pss_nil)
    (pss_cons (ps_if (PW.pt (pw_and (pt_cmpR op_eq (pv 2) pe_int (nomark _)) (pw_and1 (pt_cmpR op_gt (pe_callB call_len_seq (by rfl) T.n_len PySem.boot_len (pa_cons (pv 1) pa_nil)) pe_int (nomark _)))))
    (pss_one (ps_ret (pe_tup (pa_cons pe_str (pa_cons (pe_cal (by rfl) (pa_cons (pv 0) (pa_cons (pv 1) (pa_cons pe_int pa_nil)))) pa_nil)))))
    pss_nil)
    (pss_cons (ps_if (PW.pt (pw_and (pt_cmpR op_eq (pv 2) pe_int (nomark _)) (pw_and1 (pt_cmpR op_gt (pe_callB call_len_seq (by rfl) T.n_len PySem.boot_len (pa_cons (pv 1) pa_nil)) pe_int (nomark _)))))
    (pss_cons (ps_set (i := 3) sc.nd rfl (.inl rfl) (pe_callB cr_sortedI (by rfl) T.n_sorted (by decide +kernel) (pa_cons (pe_lst (pa_cons (pe_cal (by rfl) (pa_cons (pv 0) (pa_cons pe_int pa_nil))) (pa_cons (pe_cal (by rfl) (pa_cons (pv 0) (pa_cons pe_int pa_nil))) (pa_cons (pe_cal (by rfl) (pa_cons (pv 0) (pa_cons pe_int pa_nil))) pa_nil)))) pa_nil)))
    (pss_one (ps_ret (pe_tup (pa_cons pe_str (pa_cons (pe_cal (by rfl) (pa_cons (pv 0) (pa_cons (pv 1) (pa_cons pe_int pa_nil)))) (pa_cons (pv 3) pa_nil)))))))
    pss_nil)
    (pss_cons (ps_if (pt_cmpR op_eq (pv 2) pe_int (nomark _))
    (pss_one (ps_ret (pe_tup (pa_cons pe_str (pa_cons (pe_op op_cat (pe_cal (by rfl) (pa_cons (pv 0) (pa_cons (pv 1) (pa_cons pe_int pa_nil)))) (pe_cal (by rfl) (pa_cons (pv 0) (pa_cons (pv 1) (pa_cons pe_int pa_nil))))) pa_nil)))))
    pss_nil)
    (pss_one (ps_ret (pe_tup (pa_cons pe_str (pa_cons (pe_op op_cat (pe_cal (by rfl) (pa_cons (pv 0) (pa_cons (pv 1) (pa_cons pe_int pa_nil)))) (pe_cal (by rfl) (pa_cons (pv 0) (pa_cons (pv 1) (pa_cons pe_int pa_nil))))) pa_nil))))))))))))), ?_⟩
  obtain ⟨cl, ns, hb, hl, hnd, hne, hnl, q⟩ := h
  have hla := bag_ne hb hl
  have hn1 : 0 < ns.length := List.length_pos_iff.mpr hne
  refine ⟨spTake, cal_take T (hr.mono (by decide)), _, rfl, a, _, rfl, cl, hb, by decide, fun kd H1 k1 b1 _ _ => ?_⟩
  have hl1 : LsT H1 l ns := k1 _ _ hla hl
  have high : ∀ (G : Hp) (pf t : Addr) (fs rest : List Str), But a H G → BagAt G a cl → LsT G pf fs → (fs ++ rest).Perm ns → 1 ≤ fs.length → G t = none → Q (.ref t) (upd G t (.tup [.str "highest", .ref pf])) := fun G pf t fs rest g1 g2 g3 g4 g5 g6 => by
    obtain ⟨o1, o2⟩ := some_ok g4 hnd
    have hfl : fs.length ≤ 5 := by have := g4.length_eq; rw [List.length_append] at this; omega
    obtain ⟨y, ys, rfl⟩ := List.exists_cons_of_length_pos g5
    have sn := same_new (o := .tup [.str "highest", .ref pf]) g6
    exact q t (.highest y ys) _ (g1.trans (same_but sn)) (g2.same sn) ⟨pf, upd_same, sn _ _ g3⟩ ⟨o2, o1, by simpa using hfl⟩
  refine ⟨_, rfl, l, _, rfl, .inl (SqL.of hl1), _, _, rfl, rfl, _, rfl, ifD (fun hlt => ?_) (fun hge => ?_)⟩
  · refine ⟨spSome, cal_some T hr, _, rfl, _, rfl, a, l, 1, rfl, cl, ns, b1, hl1, by omega, by omega, fun pf fs rest H2 hpf k2 b2 hf hperm hfl => ⟨(by show 2 ≤ sizeLine; decide), fun t ht => high H2 pf t fs rest (k1.trans k2) b2 hf hperm ?_ ht⟩⟩
    rw [hfl]; show 1 ≤ min 1 _; omega
  rw [List.length_map] at hge
  have hn2 : 2 ≤ ns.length := by omega
  have two : ∀ (fs rest : List Str), (fs ++ rest).Perm ns → fs.length = min (2 : Int).toNat ns.length → ∃ y y2, fs = [y, y2] ∧ y ∈ ns ∧ y2 ∈ ns ∧ y ≠ y2 := fun fs rest g1 g2 => by
    obtain ⟨o1, o2⟩ := some_ok g1 hnd
    have : (2 : Int).toNat = 2 := rfl
    obtain ⟨y, y2, rfl⟩ := len2 (fs := fs) (by omega)
    exact ⟨y, y2, rfl, o2 _ (by simp), o2 _ (by simp), by simpa using o1⟩
  refine ⟨_, rfl, rfl, _, rfl, ifD (fun e => ?_) (fun _ => ?_)⟩
  · refine ⟨spSome, cal_some T hr, _, rfl, _, rfl, a, l, 2, rfl, cl, ns, b1, hl1, by omega, by omega, fun pf fs rest H2 hpf k2 b2 hf hperm hfl => ⟨(by show 2 ≤ sizeLine; decide), fun t ht => ?_⟩⟩
    obtain ⟨y, y2, rfl, m1, m2, m3⟩ := two fs rest hperm hfl
    have sn := same_new (o := .tup [.str "above", .ref pf]) ht
    exact q t (.above y y2) _ ((k1.trans k2).trans (same_but sn)) (b2.same sn) ⟨pf, upd_same, sn _ _ hf⟩ ⟨by simp [Px.names]; exact ⟨m1, m2⟩, m3⟩
  refine ⟨_, rfl, rfl, _, rfl, ifD (fun e => ?_) (fun _ => ?_)⟩
  · refine ⟨spSome, cal_some T hr, _, rfl, _, rfl, a, l, 2, rfl, cl, ns, b1, hl1, by omega, by omega, fun pf fs rest H2 hpf k2 b2 hf hperm hfl => ⟨(by show 2 ≤ sizeLine; decide), fun t ht => ?_⟩⟩
    obtain ⟨y, y2, rfl, m1, m2, m3⟩ := two fs rest hperm hfl
    have sn := same_new (o := .tup [.str "intune", .ref pf]) ht
    exact q t (.intune y y2) _ ((k1.trans k2).trans (same_but sn)) (b2.same sn) ⟨pf, upd_same, sn _ _ hf⟩ ⟨by simp [Px.names]; exact ⟨m1, m2⟩, m3⟩
  refine ⟨_, rfl, rfl, _, rfl, ifD (fun e => ?_) (fun _ => ?_)⟩
  · refine ⟨spSome, cal_some T hr, _, rfl, _, rfl, spTake, cal_take T (hr.mono (by decide)), _, rfl, _, rfl, l, _, rfl, .inl (SqL.of hl1), _, _, rfl, a, _, rfl, cl, b1, by split <;> omega, fun r H2 k2 b2 r0 r1 => ?_⟩
    have hl2 : LsT H2 l ns := k2 _ _ hla hl1
    refine ⟨_, _, rfl, rfl, a, l, _, rfl, cl, ns, b2, hl2, by omega, by omega, fun pf fs rest H3 hpf k3 b3 hf hperm hfl => ⟨(by show 2 ≤ sizeLine; decide), fun t ht => high H3 pf t fs rest ((k1.trans k2).trans k3) b3 hf hperm ?_ ht⟩⟩
    omega
  have three : ∀ (fs rest : List Str), (fs ++ rest).Perm ns → fs.length = min (3 : Int).toNat ns.length → 2 < ns.length → ∃ y y2 y3, fs = [y, y2, y3] ∧ (∀ z ∈ [y, y2, y3], z ∈ ns) ∧ [y, y2, y3].Nodup := fun fs rest g1 g2 g3 => by
    obtain ⟨o1, o2⟩ := some_ok g1 hnd
    have : (3 : Int).toNat = 3 := rfl
    obtain ⟨y, y2, y3, rfl⟩ := len3 (fs := fs) (by omega)
    exact ⟨y, y2, y3, rfl, o2, o1⟩
  have four : ∀ (wd : Str) (mk : Str → Str → Str → Str → Px), (∀ y1 y2 y3 y4, (mk y1 y2 y3 y4).names = [y1, y2, y3, y4]) → (∀ (G : Hp) (t : Addr) y1 y2 y3 y4, (∃ l, G t = some (.tup [.str wd, .ref l]) ∧ LsT G l [y1, y2, y3, y4]) → PlanP G t (mk y1 y2 y3 y4)) → (∀ y1 y2 y3 y4, (∀ z ∈ [y1, y2, y3, y4], z ∈ ns) → y1 ≠ y2 → y3 ≠ y4 → PxOk ns (mk y1 y2 y3 y4)) →
      ∀ (G : Hp) (pf t : Addr) (f1 f2 r1 r2 : List Str), But a H G → BagAt G a cl → (f1 ++ r1).Perm ns → f1.length = min (2 : Int).toNat ns.length → (f2 ++ r2).Perm ns → f2.length = min (2 : Int).toNat ns.length → G pf = some (.lst (f1.map V.str ++ f2.map V.str)) → G t = none → Q (.ref t) (upd G t (.tup [.str wd, .ref pf])) := fun wd mk h1 h2 h3 G pf t f1 f2 r1 r2 g1 g2 g3 g4 g5 g6 g7 g8 => by
    obtain ⟨y1, y2, rfl, m1, m2, m3⟩ := two f1 r1 g3 g4
    obtain ⟨y3, y4, rfl, m4, m5, m6⟩ := two f2 r2 g5 g6
    have sn := same_new (o := .tup [.str wd, .ref pf]) g8
    exact q t (mk y1 y2 y3 y4) _ (g1.trans (same_but sn)) (g2.same sn) (h2 _ _ _ _ _ _ ⟨pf, upd_same, sn _ _ g7⟩) (h3 _ _ _ _ (by simp; exact ⟨m1, m2, m4, m5⟩) m3 m6)
  refine ⟨_, rfl, rfl, _, rfl, ifD (fun e => ⟨_, rfl, l, _, rfl, .inl (SqL.of hl1), _, _, rfl, rfl, _, rfl, ifD (fun hgt => ?_) (fun hle => ?_)⟩) (fun _ => iteF ?_)⟩
  · rw [List.length_map] at hgt
    refine ⟨spSome, cal_some T hr, _, rfl, _, rfl, a, l, 3, rfl, cl, ns, b1, hl1, by omega, by omega, fun pf fs rest H2 hpf k2 b2 hf hperm hfl => ⟨(by show 2 ≤ sizeLine; decide), fun t ht => ?_⟩⟩
    obtain ⟨y, y2, y3, rfl, m1, m2⟩ := three fs rest hperm hfl (by omega)
    have sn := same_new (o := .tup [.str "between", .ref pf]) ht
    exact q t (.between y y2 y3) _ ((k1.trans k2).trans (same_but sn)) (b2.same sn) ⟨pf, upd_same, sn _ _ hf⟩ ⟨m1, m2⟩
  all_goals
    refine ⟨_, rfl, rfl, _, rfl, ifD (fun e => ⟨_, rfl, l, _, rfl, .inl (SqL.of hl1), _, _, rfl, rfl, _, rfl, ifD (fun hgt => ?_) (fun hle => ?_)⟩) (fun _ => iteF ?_)⟩
    · rw [List.length_map] at hgt
      refine ⟨spTake, cal_take T (hr.mono (by decide)), _, rfl, a, _, rfl, cl, b1, by decide, fun r1 H2 k2 b2 r10 r11 => ?_⟩
      refine ⟨spTake, cal_take T (hr.mono (by decide)), _, rfl, a, _, rfl, cl, b2, by decide, fun r2 H3 k3 b3 r20 r21 => ?_⟩
      refine ⟨spTake, cal_take T (hr.mono (by decide)), _, rfl, a, _, rfl, cl, b3, by decide, fun r3 H4 k4 b4 r30 r31 => ?_⟩
      have r11 : r1 < 5 := r11
      have r21 : r2 < 5 := r21
      have r31 : r3 < 9 := r31
      refine ⟨(by show 3 ≤ sizeLine; decide), fun p hp => ⟨p, [r1, r2, r3], rfl, SqL.of upd_same, fun bk p2 hpm hpw hp2 => ?_⟩⟩
      obtain ⟨n1, n2, n3, rfl⟩ := len3i (fs := bk) (by rw [hpm.length_eq]; rfl)
      have hbk : ∀ n ∈ [n1, n2, n3], 0 ≤ n ∧ n ≤ big := fun n hn => by
        have := hpm.mem_iff.mp hn
        simp only [List.mem_cons, List.not_mem_nil, or_false] at this
        unfold big
        rcases this with e | e | e <;> omega
      have s4 := same_trans (same_new (o := .lst [.int r1, .int r2, .int r3]) hp) (same_new (o := .lst ([n1, n2, n3].map V.int)) hp2)
      have b5 := b4.same s4
      have k5 := (((k1.trans k2).trans k3).trans k4).trans (same_but s4)
      have hl5 := k5 _ _ hla hl
      have hp5 : upd (upd H4 p (.lst [.int r1, .int r2, .int r3])) p2 (.lst ([n1, n2, n3].map V.int)) p2 = some (.lst ([n1, n2, n3].map V.int)) := upd_same
      have hpa2 : p2 ≠ a := ((b4.same (same_new (o := .lst [.int r1, .int r2, .int r3]) hp)).new hp2).1
      show _
      refine ⟨spSome, cal_some T hr, _, rfl, _, rfl, a, l, 3, rfl, cl, ns, b5, hl5, by omega, by omega, fun pf fs rest H6 hpf k6 b6 hf hperm hfl => ⟨_, rfl, (by show 3 ≤ sizeLine; decide), fun t ht => ?_⟩⟩
      obtain ⟨y, y2, y3, rfl, m1, m2⟩ := three fs rest hperm hfl (by omega)
      have sn := same_new (o := .tup [.str "trio", .ref pf, .ref p2]) ht
      exact q t (.trio y y2 y3 [n1, n2, n3]) _ ((k5.trans k6).trans (same_but sn)) (b6.same sn) ⟨pf, p2, n1, n2, n3, rfl, upd_same, sn _ _ hf, sn _ _ (k6 _ _ hpa2 hp5)⟩ ⟨m1, m2, hbk⟩
    all_goals
      refine ⟨_, rfl, rfl, _, rfl, ifD (fun e => ?_) (fun _ => ?_)⟩
      · refine ⟨spSome, cal_some T hr, _, rfl, _, rfl, a, l, 2, rfl, cl, ns, b1, hl1, by omega, by omega, fun p1 f1 r1 H2 hp1 k2 b2 hf1 hm1 hfl1 => ?_⟩
        have hl2 : LsT H2 l ns := k2 _ _ hla hl1
        refine ⟨spSome, cal_some T hr, _, rfl, _, rfl, a, l, 2, rfl, cl, ns, b2, hl2, by omega, by omega, fun p2 f2 r2 H3 hp2 k3 b3 hf2 hm2 hfl2 => ?_⟩
        have hf1' : LsT H3 p1 f1 := k3 _ _ (b1.new hp1).1 hf1
        refine ⟨p1, p2, _, _, rfl, rfl, hf1', hf2, by rw [List.length_map, List.length_map]; exact szt (by omega), fun pn hpn => ⟨(by show 2 ≤ sizeLine; decide), fun t ht => ?_⟩⟩
        have sn := same_new (o := .lst (f1.map V.str ++ f2.map V.str)) hpn
        exact four "asoften" .asoften (fun _ _ _ _ => rfl) (fun _ _ _ _ _ _ h => h) (fun _ _ _ _ h1 h2 h3 => ⟨h1, h2, h3⟩) _ pn t f1 f2 r1 r2 (((k1.trans k2).trans k3).trans (same_but sn)) (b3.same sn) hm1 hfl1 hm2 hfl2 upd_same ht
      · refine ⟨spSome, cal_some T hr, _, rfl, _, rfl, a, l, 2, rfl, cl, ns, b1, hl1, by omega, by omega, fun p1 f1 r1 H2 hp1 k2 b2 hf1 hm1 hfl1 => ?_⟩
        have hl2 : LsT H2 l ns := k2 _ _ hla hl1
        refine ⟨spSome, cal_some T hr, _, rfl, _, rfl, a, l, 2, rfl, cl, ns, b2, hl2, by omega, by omega, fun p2 f2 r2 H3 hp2 k3 b3 hf2 hm2 hfl2 => ?_⟩
        have hf1' : LsT H3 p1 f1 := k3 _ _ (b1.new hp1).1 hf1
        refine ⟨p1, p2, _, _, rfl, rfl, hf1', hf2, by rw [List.length_map, List.length_map]; exact szt (by omega), fun pn hpn => ⟨(by show 2 ≤ sizeLine; decide), fun t ht => ?_⟩⟩
        have sn := same_new (o := .lst (f1.map V.str ++ f2.map V.str)) hpn
        exact four "moreoften" .more (fun _ _ _ _ => rfl) (fun _ _ _ _ _ _ h => h) (fun _ _ _ _ h1 h2 h3 => ⟨h1, h2, h3⟩) _ pn t f1 f2 r1 r2 (((k1.trans k2).trans k3).trans (same_but sn)) (b3.same sn) hm1 hfl1 hm2 hfl2 upd_same ht
theorem cal_drawP (T : Txt P K mg) {A : Around} (hr : Room 4 A) : Cal ⟨P, w, K, mg, base, A⟩ "_law_draw_plain" spDrawP := ⟨_, 4, T.g__law_draw_plain, T.f__law_draw_plain.kp, w__law_draw_plain T, hr⟩
def spDraw0 : SpN := fun vs H Q => ∃ a l, vs = [.ref a, .ref l, .int 0] ∧ ∃ cl ns, BagAt H a cl ∧ LsT H l ns ∧ ns.Nodup ∧ ns ≠ [] ∧ ns.length ≤ 5 ∧ ∀ t p H', But a H H' → BagAt H' a cl → PlanP H' t p → PxOk ns p → Q (.ref t) H'
theorem sc__law_draw_fact0 : FnScope ["_law_bag_here", "_law_names_here", "_law_deep", "_law_way"] ["_law_bag_here", "_law_names_here", "_law_deep"] (defScope (top 72)) := ⟨rfl, rfl, rfl, by decide +kernel, rfl, by decide +kernel, by decide +kernel⟩
theorem w__law_draw_fact0 (T : Txt P K mg) : FnN P w K mg base (4 + 1) (T.a__law_draw_fact) (spDraw0) := by
  refine fn_mk (k := 4) (T.f__law_draw_fact) sc__law_draw_fact0 (fun _ _ _ _ _ _ us hl => match us, hl with | [_, _, _], _ => rfl) (fun vs H Q h => by obtain ⟨a, l, rfl, h⟩ := h; rfl) fun cdv A outer s H vs Q hr h => ?_
  have hu := hu_of hr
  have sc := sc__law_draw_fact0
  obtain ⟨a, l, rfl, h⟩ := h
  refine ⟨_, (pss_cons (ps_set (i := 3) sc.nd rfl (.inl rfl) pe_int)
    (pss_cons (ps_if (pt_cmpR op_gt (pv 2) pe_int (nomark _))
    (pss_one (ps_set (i := 3) sc.nd rfl (.inl rfl) (pe_cal (by rfl) (pa_cons (pv 0) (pa_cons pe_int pa_nil)))))
    pss_nil)
    (pss_cons (ps_if (pt_cmpR op_eq (pv 3) pe_int (nomark _))
    (pss_one (ps_ret (pe_tup (pa_cons pe_str (pa_cons (pe_cal (by rfl) (pa_cons (pv 0) (pa_cons (pv 1) (pa_cons (pe_op op_sub (pv 2) pe_int) pa_nil)))) pa_nil)))))
    pss_nil)
    (pss_cons (ps_if (pt_cmpR op_eq (pv 3) pe_int (nomark _))
    (pss_one (ps_ret (pe_tup (pa_cons pe_str (pa_cons (pe_cal (by rfl) (pa_cons (pv 0) (pa_cons (pv 1) (pa_cons (pe_op op_sub (pv 2) pe_int) pa_nil)))) (pa_cons (pe_cal (by rfl) (pa_cons (pv 0) (pa_cons (pv 1) (pa_cons (pe_op op_sub (pv 2) pe_int) pa_nil)))) pa_nil))))))
    pss_nil)
    (pss_cons (ps_if (pt_cmpR op_eq (pv 3) pe_int (nomark _))
    (pss_one (ps_ret (pe_tup (pa_cons pe_str (pa_cons (pe_cal (by rfl) (pa_cons (pv 0) (pa_cons (pv 1) (pa_cons (pe_op op_sub (pv 2) pe_int) pa_nil)))) (pa_cons (pe_cal (by rfl) (pa_cons (pv 0) (pa_cons (pv 1) (pa_cons (pe_op op_sub (pv 2) pe_int) pa_nil)))) pa_nil))))))
    pss_nil)
    (pss_one (ps_ret (pe_cal (by rfl) (pa_cons (pv 0) (pa_cons (pv 1) pa_nil)))))))))), ?_⟩
  obtain ⟨cl, ns, hb, hl, hnd, hne, hnl, q⟩ := h
  refine ⟨_, rfl, _, _, rfl, rfl, _, rfl, ifN (by decide) ?_⟩
  refine ⟨_, rfl, rfl, _, rfl, ifN (by decide) ⟨_, rfl, rfl, _, rfl, ifN (by decide) ⟨_, rfl, rfl, _, rfl, ifN (by decide) ?_⟩⟩⟩
  exact ⟨spDrawP, cal_drawP T hr, _, rfl, _, rfl, a, l, rfl, cl, ns, hb, hl, hnd, hne, hnl, q⟩
def spDraw1 : SpN := fun vs H Q => ∃ a l, vs = [.ref a, .ref l, .int 1] ∧ ∃ cl ns, BagAt H a cl ∧ LsT H l ns ∧ ns.Nodup ∧ ns ≠ [] ∧ ns.length ≤ 5 ∧ ∀ t x H', But a H H' → BagAt H' a cl → PlanF H' t x → FxOk ns x → Q (.ref t) H'
theorem sc__law_draw_fact : FnScope ["_law_bag_here", "_law_names_here", "_law_deep", "_law_way"] ["_law_bag_here", "_law_names_here", "_law_deep"] (defScope (top 72)) := ⟨rfl, rfl, rfl, by decide +kernel, rfl, by decide +kernel, by decide +kernel⟩
theorem w__law_draw_fact (T : Txt P K mg) : FnN P w K mg base (5 + 1) (T.a__law_draw_fact) (spDraw1) := by
  refine fn_mk (k := 5) (T.f__law_draw_fact) sc__law_draw_fact (fun _ _ _ _ _ _ us hl => match us, hl with | [_, _, _], _ => rfl) (fun vs H Q h => by obtain ⟨a, l, rfl, h⟩ := h; rfl) fun cdv A outer s H vs Q hr h => ?_
  have hu := hu_of hr
  have sc := sc__law_draw_fact
  obtain ⟨a, l, rfl, h⟩ := h
  refine ⟨_, (pss_cons (ps_set (i := 3) sc.nd rfl (.inl rfl) pe_int)
    (pss_cons (ps_if (pt_cmpR op_gt (pv 2) pe_int (nomark _))
    (pss_one (ps_set (i := 3) sc.nd rfl (.inl rfl) (pe_cal (by rfl) (pa_cons (pv 0) (pa_cons pe_int pa_nil)))))
    pss_nil)
    (pss_cons (ps_if (pt_cmpR op_eq (pv 3) pe_int (nomark _))
    (pss_one (ps_ret (pe_tup (pa_cons pe_str (pa_cons (pe_cal (by rfl) (pa_cons (pv 0) (pa_cons (pv 1) (pa_cons (pe_op op_sub (pv 2) pe_int) pa_nil)))) pa_nil)))))
    pss_nil)
    (pss_cons (ps_if (pt_cmpR op_eq (pv 3) pe_int (nomark _))
    (pss_one (ps_ret (pe_tup (pa_cons pe_str (pa_cons (pe_cal (by rfl) (pa_cons (pv 0) (pa_cons (pv 1) (pa_cons (pe_op op_sub (pv 2) pe_int) pa_nil)))) (pa_cons (pe_cal (by rfl) (pa_cons (pv 0) (pa_cons (pv 1) (pa_cons (pe_op op_sub (pv 2) pe_int) pa_nil)))) pa_nil))))))
    pss_nil)
    (pss_cons (ps_if (pt_cmpR op_eq (pv 3) pe_int (nomark _))
    (pss_one (ps_ret (pe_tup (pa_cons pe_str (pa_cons (pe_cal (by rfl) (pa_cons (pv 0) (pa_cons (pv 1) (pa_cons (pe_op op_sub (pv 2) pe_int) pa_nil)))) (pa_cons (pe_cal (by rfl) (pa_cons (pv 0) (pa_cons (pv 1) (pa_cons (pe_op op_sub (pv 2) pe_int) pa_nil)))) pa_nil))))))
    pss_nil)
    (pss_one (ps_ret (pe_cal (by rfl) (pa_cons (pv 0) (pa_cons (pv 1) pa_nil)))))))))), ?_⟩
  obtain ⟨cl, ns, hb, hl, hnd, hne, hnl, q⟩ := h
  have hla := bag_ne hb hl
  have C0 : Cal ⟨P, w, K, mg, base, _⟩ "_law_draw_fact" spDraw0 := ⟨_, 5, T.g__law_draw_fact, T.f__law_draw_fact.kp, w__law_draw_fact0 T, hr⟩
  refine ⟨_, rfl, _, _, rfl, rfl, _, rfl, ifY (by decide) ?_⟩
  refine ⟨spTake, cal_take T (hr.mono (by decide)), _, rfl, a, _, rfl, cl, hb, by decide, fun kd H1 k1 b1 _ _ => ?_⟩
  have hl1 : LsT H1 l ns := k1 _ _ hla hl
  refine ⟨_, rfl, rfl, _, rfl, ifD (fun e => ?_) (fun _ => ?_)⟩
  · refine ⟨spDraw0, C0, _, rfl, _, rfl, _, rfl, _, _, rfl, rfl, a, l, rfl, cl, ns, b1, hl1, hnd, hne, hnl, fun u p H2 k2 b2 hp ho => ⟨(by show 2 ≤ sizeLine; decide), fun t ht => ?_⟩⟩
    have sn := same_new (o := .tup [.str "not", .ref u]) ht
    exact q t (.not p) _ ((k1.trans k2).trans (same_but sn)) (b2.same sn) ⟨u, upd_same, hp.at (same_kept sn)⟩ ho
  refine ⟨_, rfl, rfl, _, rfl, ifD (fun e => ?_) (fun _ => ?_)⟩
  · refine ⟨spDraw0, C0, _, rfl, _, rfl, _, rfl, _, _, rfl, rfl, a, l, rfl, cl, ns, b1, hl1, hnd, hne, hnl, fun u p H2 k2 b2 hp ho => ?_⟩
    have hl2 : LsT H2 l ns := k2 _ _ hla hl1
    refine ⟨spDraw0, C0, _, rfl, _, rfl, _, rfl, _, _, rfl, rfl, a, l, rfl, cl, ns, b2, hl2, hnd, hne, hnl, fun v p2 H3 k3 b3 hp2 ho2 => ⟨(by show 3 ≤ sizeLine; decide), fun t ht => ?_⟩⟩
    have sn := same_new (o := .tup [.str "both", .ref u, .ref v]) ht
    exact q t (.both p p2) _ (((k1.trans k2).trans k3).trans (same_but sn)) (b3.same sn) ⟨u, v, upd_same, (hp.at (b2.kept k3)).at (same_kept sn), hp2.at (same_kept sn)⟩ ⟨ho, ho2⟩
  refine ⟨_, rfl, rfl, _, rfl, ifD (fun e => ?_) (fun _ => ?_)⟩
  · refine ⟨spDraw0, C0, _, rfl, _, rfl, _, rfl, _, _, rfl, rfl, a, l, rfl, cl, ns, b1, hl1, hnd, hne, hnl, fun u p H2 k2 b2 hp ho => ?_⟩
    have hl2 : LsT H2 l ns := k2 _ _ hla hl1
    refine ⟨spDraw0, C0, _, rfl, _, rfl, _, rfl, _, _, rfl, rfl, a, l, rfl, cl, ns, b2, hl2, hnd, hne, hnl, fun v p2 H3 k3 b3 hp2 ho2 => ⟨(by show 3 ≤ sizeLine; decide), fun t ht => ?_⟩⟩
    have sn := same_new (o := .tup [.str "either", .ref u, .ref v]) ht
    exact q t (.either p p2) _ (((k1.trans k2).trans k3).trans (same_but sn)) (b3.same sn) ⟨u, v, upd_same, (hp.at (b2.kept k3)).at (same_kept sn), hp2.at (same_kept sn)⟩ ⟨ho, ho2⟩
  exact ⟨spDrawP, cal_drawP T (hr.mono (by decide)), _, rfl, _, rfl, a, l, rfl, cl, ns, b1, hl1, hnd, hne, hnl, fun t p H' k b h1 h2 => q t (.plain p) H' (k1.trans k) b h1 h2⟩
end
end Fb
set_option maxHeartbeats 4000000
/-! Forkbeats: facts made; plans of all facts. -/
namespace Fb
open PySem PySem.Spec PyProof.Rows L2
theorem PxOk.len {ns : List Str} {p : Px} (h : PxOk ns p) : p.names.length ≤ 5 := by
  cases p with
  | highest a xs => have := h.2.2; simp only [Px.names, List.length_cons]; omega
  | _ => simp [Px.names]
section
variable {P : Program} {w : World} {K : PySem.W.Frag} {mg : Str → Option Value} {base : Heap}
def spMkHigh (T : Txt P K mg) : SpN := fun vs H Q => ∃ l, vs = [.ref l] ∧ ∃ y ys, LsT H l (y :: ys) ∧ (∀ z ∈ y :: ys, NameOk z) ∧ (y :: ys).Nodup ∧ ys.length ≤ 4 ∧ ∀ f H', Same H H' → PlainAt T H' f (.highest y ys) → Q (.ref f) H'
theorem sc__law_make_highest : FnScope ["_law_row_here"] ["_law_row_here"] (defScope (top 74)) := ⟨rfl, rfl, rfl, by decide +kernel, rfl, by decide +kernel, by decide +kernel⟩
theorem w__law_make_highest (T : Txt P K mg) : FnN P w K mg base (4 + 1) (T.a__law_make_highest) (spMkHigh T) := by
  refine fn_mk (k := 4) (T.f__law_make_highest) sc__law_make_highest (fun _ _ _ _ _ _ us hl => match us, hl with | [_], _ => rfl) (fun vs H Q h => by obtain ⟨l, rfl, h⟩ := h; rfl) fun cdv A outer s H vs Q hr h => ?_
  have hu := hu_of hr
  have sc := sc__law_make_highest
  obtain ⟨l, rfl, h⟩ := h
  refine ⟨_, (pss_cons (ps_if (pt_cmpR op_eq (pe_callB call_len_seq (by rfl) T.n_len PySem.boot_len (pa_cons (pv 0) pa_nil)) pe_int (nomark _))
    (pss_one (ps_ret (pe_mkr (by rfl) (pa_cons (pe_ix ix_list (pv 0) pe_int (fun _ _ => rfl)) pa_nil))))
    pss_nil)
    (pss_cons (ps_if (pt_cmpR op_eq (pe_callB call_len_seq (by rfl) T.n_len PySem.boot_len (pa_cons (pv 0) pa_nil)) pe_int (nomark _))
    (pss_one (ps_ret (pe_mkr (by rfl) (pa_cons (pe_ix ix_list (pv 0) pe_int (fun _ _ => rfl)) (pa_cons (pe_ix ix_list (pv 0) pe_int (fun _ _ => rfl)) pa_nil)))))
    pss_nil)
    (pss_cons (ps_if (pt_cmpR op_eq (pe_callB call_len_seq (by rfl) T.n_len PySem.boot_len (pa_cons (pv 0) pa_nil)) pe_int (nomark _))
    (pss_one (ps_ret (pe_mkr (by rfl) (pa_cons (pe_ix ix_list (pv 0) pe_int (fun _ _ => rfl)) (pa_cons (pe_ix ix_list (pv 0) pe_int (fun _ _ => rfl)) (pa_cons (pe_ix ix_list (pv 0) pe_int (fun _ _ => rfl)) pa_nil))))))
    pss_nil)
    (pss_cons (ps_if (pt_cmpR op_eq (pe_callB call_len_seq (by rfl) T.n_len PySem.boot_len (pa_cons (pv 0) pa_nil)) pe_int (nomark _))
    (pss_one (ps_ret (pe_mkr (by rfl) (pa_cons (pe_ix ix_list (pv 0) pe_int (fun _ _ => rfl)) (pa_cons (pe_ix ix_list (pv 0) pe_int (fun _ _ => rfl)) (pa_cons (pe_ix ix_list (pv 0) pe_int (fun _ _ => rfl)) (pa_cons (pe_ix ix_list (pv 0) pe_int (fun _ _ => rfl)) pa_nil)))))))
    pss_nil)
    (pss_one (ps_ret (pe_mkr (by rfl) (pa_cons (pe_ix ix_list (pv 0) pe_int (fun _ _ => rfl)) (pa_cons (pe_ix ix_list (pv 0) pe_int (fun _ _ => rfl)) (pa_cons (pe_ix ix_list (pv 0) pe_int (fun _ _ => rfl)) (pa_cons (pe_ix ix_list (pv 0) pe_int (fun _ _ => rfl)) (pa_cons (pe_ix ix_list (pv 0) pe_int (fun _ _ => rfl)) pa_nil)))))))))))), ?_⟩
  obtain ⟨y, ys, hl, hnm, hnd, hlen, q⟩ := h
  have hl : H l = some (.lst ((y :: ys).map V.str)) := hl
  have M := fun xs => (⟨T.g_Highest, _, 3, T.mk_Highest, w_Highest_init T (xa := y) (xs := xs), hr⟩ : Mkr ⟨P, w, K, mg, base, _⟩ "Highest" T.C_Highest _)
  have fin : ∀ (f dx p : Addr) (H' : Hp), H f = none → H dx = none → dx ≠ f → upd (upd H dx (.own f)) f (.ins T.C_Highest dx []) p = none → (∀ x u, x ≠ f → upd (upd (upd H dx (.own f)) f (.ins T.C_Highest dx [])) p (.tup (ys.map V.str)) x = some u → H' x = some u) → Same H H' := fun f dx p H' h1 h2 h3 h4 k x u e =>
    k x u (ne_of_none e h1) (same_new h4 _ _ (new_ins h1 h2 h3 _ _ e))
  match ys, hlen with
  | [], _ =>
    exact ⟨_, rfl, l, _, rfl, .inl (SqL.of hl), rfl, _, rfl, ifY (by show V.int (1 : Nat) = V.int 1; rfl) ⟨T.C_Highest, _, M [], _, rfl, l, _, _, .str y, rfl, rfl, SqL.of hl, rfl, fun f dx hf hdx hne => ⟨[.ref f, .str y], [].map V.str, rfl, rfl, (by show 0 ≤ sizeLine; decide), fun p hp => ⟨f, p, rfl, dx, same_new hp _ _ upd_same, upd_same, hnm, hnd, (by simp), fun H' k hpl => ⟨rfl, q f H' (fin f dx p H' hf hdx hne hp k) hpl⟩⟩⟩⟩⟩
  | [b], _ =>
    exact ⟨_, rfl, l, _, rfl, .inl (SqL.of hl), rfl, _, rfl, ifN (by show ¬ V.int (2 : Nat) = V.int 1; decide) ⟨_, rfl, l, _, rfl, .inl (SqL.of hl), rfl, _, rfl, ifY (by show V.int (2 : Nat) = V.int 2; rfl) ⟨T.C_Highest, _, M [b], _, rfl, l, _, _, .str y, rfl, rfl, SqL.of hl, rfl, _, rfl, l, _, _, .str b, rfl, rfl, SqL.of hl, rfl, fun f dx hf hdx hne => ⟨[.ref f, .str y], [b].map V.str, rfl, rfl, (by show 1 ≤ sizeLine; decide), fun p hp => ⟨f, p, rfl, dx, same_new hp _ _ upd_same, upd_same, hnm, hnd, (by simp), fun H' k hpl => ⟨rfl, q f H' (fin f dx p H' hf hdx hne hp k) hpl⟩⟩⟩⟩⟩⟩
  | [b, c], _ =>
    exact ⟨_, rfl, l, _, rfl, .inl (SqL.of hl), rfl, _, rfl, ifN (by show ¬ V.int (3 : Nat) = V.int 1; decide) ⟨_, rfl, l, _, rfl, .inl (SqL.of hl), rfl, _, rfl, ifN (by show ¬ V.int (3 : Nat) = V.int 2; decide) ⟨_, rfl, l, _, rfl, .inl (SqL.of hl), rfl, _, rfl, ifY (by show V.int (3 : Nat) = V.int 3; rfl) ⟨T.C_Highest, _, M [b, c], _, rfl, l, _, _, .str y, rfl, rfl, SqL.of hl, rfl, _, rfl, l, _, _, .str b, rfl, rfl, SqL.of hl, rfl, _, rfl, l, _, _, .str c, rfl, rfl, SqL.of hl, rfl, fun f dx hf hdx hne => ⟨[.ref f, .str y], [b, c].map V.str, rfl, rfl, (by show 2 ≤ sizeLine; decide), fun p hp => ⟨f, p, rfl, dx, same_new hp _ _ upd_same, upd_same, hnm, hnd, (by simp), fun H' k hpl => ⟨rfl, q f H' (fin f dx p H' hf hdx hne hp k) hpl⟩⟩⟩⟩⟩⟩⟩
  | [b, c, d], _ =>
    exact ⟨_, rfl, l, _, rfl, .inl (SqL.of hl), rfl, _, rfl, ifN (by show ¬ V.int (4 : Nat) = V.int 1; decide) ⟨_, rfl, l, _, rfl, .inl (SqL.of hl), rfl, _, rfl, ifN (by show ¬ V.int (4 : Nat) = V.int 2; decide) ⟨_, rfl, l, _, rfl, .inl (SqL.of hl), rfl, _, rfl, ifN (by show ¬ V.int (4 : Nat) = V.int 3; decide) ⟨_, rfl, l, _, rfl, .inl (SqL.of hl), rfl, _, rfl, ifY (by show V.int (4 : Nat) = V.int 4; rfl) ⟨T.C_Highest, _, M [b, c, d], _, rfl, l, _, _, .str y, rfl, rfl, SqL.of hl, rfl, _, rfl, l, _, _, .str b, rfl, rfl, SqL.of hl, rfl, _, rfl, l, _, _, .str c, rfl, rfl, SqL.of hl, rfl, _, rfl, l, _, _, .str d, rfl, rfl, SqL.of hl, rfl, fun f dx hf hdx hne => ⟨[.ref f, .str y], [b, c, d].map V.str, rfl, rfl, (by show 3 ≤ sizeLine; decide), fun p hp => ⟨f, p, rfl, dx, same_new hp _ _ upd_same, upd_same, hnm, hnd, (by simp), fun H' k hpl => ⟨rfl, q f H' (fin f dx p H' hf hdx hne hp k) hpl⟩⟩⟩⟩⟩⟩⟩⟩
  | [b, c, d, e], _ =>
    exact ⟨_, rfl, l, _, rfl, .inl (SqL.of hl), rfl, _, rfl, ifN (by show ¬ V.int (5 : Nat) = V.int 1; decide) ⟨_, rfl, l, _, rfl, .inl (SqL.of hl), rfl, _, rfl, ifN (by show ¬ V.int (5 : Nat) = V.int 2; decide) ⟨_, rfl, l, _, rfl, .inl (SqL.of hl), rfl, _, rfl, ifN (by show ¬ V.int (5 : Nat) = V.int 3; decide) ⟨_, rfl, l, _, rfl, .inl (SqL.of hl), rfl, _, rfl, ifN (by show ¬ V.int (5 : Nat) = V.int 4; decide) ⟨T.C_Highest, _, M [b, c, d, e], _, rfl, l, _, _, .str y, rfl, rfl, SqL.of hl, rfl, _, rfl, l, _, _, .str b, rfl, rfl, SqL.of hl, rfl, _, rfl, l, _, _, .str c, rfl, rfl, SqL.of hl, rfl, _, rfl, l, _, _, .str d, rfl, rfl, SqL.of hl, rfl, _, rfl, l, _, _, .str e, rfl, rfl, SqL.of hl, rfl, fun f dx hf hdx hne => ⟨[.ref f, .str y], [b, c, d, e].map V.str, rfl, rfl, (by show 4 ≤ sizeLine; decide), fun p hp => ⟨f, p, rfl, dx, same_new hp _ _ upd_same, upd_same, hnm, hnd, (by simp), fun H' k hpl => ⟨rfl, q f H' (fin f dx p H' hf hdx hne hp k) hpl⟩⟩⟩⟩⟩⟩⟩⟩
def spMakeP (T : Txt P K mg) : SpN := fun vs H Q => ∃ t, vs = [.ref t] ∧ ∃ p ns, PlanP H t p ∧ PxOk ns p ∧ (∀ z ∈ ns, NameOk z) ∧ ∀ f p' H', Same H H' → PlainAt T H' f p' → p'.names = p.names → Q (.ref f) H'
theorem sc__law_make0 : FnScope ["_law_plan", "_law_word", "_law_row_here"] ["_law_plan"] (defScope (top 73)) := ⟨rfl, rfl, rfl, by decide +kernel, rfl, by decide +kernel, by decide +kernel⟩
theorem w__law_make0 (T : Txt P K mg) : FnN P w K mg base (5 + 1) (T.a__law_make) (spMakeP T) := by
  refine fn_mk (k := 5) (T.f__law_make) sc__law_make0 (fun _ _ _ _ _ _ us hl => match us, hl with | [_], _ => rfl) (fun vs H Q h => by obtain ⟨t, rfl, h⟩ := h; rfl) fun cdv A outer s H vs Q hr h => ?_
  have hu := hu_of hr
  have sc := sc__law_make0
  obtain ⟨t, rfl, h⟩ := h
  refine ⟨_, (pss_cons (ps_set (i := 1) sc.nd rfl (.inl rfl) (pe_ix ix_tup (pv 0) pe_int (fun _ _ => rfl)))
    (pss_cons (ps_if (pt_cmpR op_eq (pv 1) pe_str (nomark _))
    (pss_one (ps_ret (pe_un un_invO (pe_cal (by rfl) (pa_cons (pe_ix ix_tup (pv 0) pe_int (fun _ _ => rfl)) pa_nil)))))
    pss_nil)
    (pss_cons (ps_if (pt_cmpR op_eq (pv 1) pe_str (nomark _))
    (pss_one (ps_ret (pe_op op_nbr (pe_cal (by rfl) (pa_cons (pe_ix ix_tup (pv 0) pe_int (fun _ _ => rfl)) pa_nil)) (pe_cal (by rfl) (pa_cons (pe_ix ix_tup (pv 0) pe_int (fun _ _ => rfl)) pa_nil)))))
    pss_nil)
    (pss_cons (ps_if (pt_cmpR op_eq (pv 1) pe_str (nomark _))
    (pss_one (ps_ret (pe_op op_nbr (pe_cal (by rfl) (pa_cons (pe_ix ix_tup (pv 0) pe_int (fun _ _ => rfl)) pa_nil)) (pe_cal (by rfl) (pa_cons (pe_ix ix_tup (pv 0) pe_int (fun _ _ => rfl)) pa_nil)))))
    pss_nil)
    (pss_cons (ps_set (i := 2) sc.nd rfl (.inl rfl) (pe_ix ix_tup (pv 0) pe_int (fun _ _ => rfl)))
    (pss_cons (ps_if (pt_cmpR op_eq (pv 1) pe_str (nomark _))
    (pss_one (ps_ret (pe_mkr (by rfl) (pa_cons (pe_ix ix_list (pv 2) pe_int (fun _ _ => rfl)) (pa_cons (pe_ix ix_list (pv 2) pe_int (fun _ _ => rfl)) pa_nil)))))
    pss_nil)
    (pss_cons (ps_if (pt_cmpR op_eq (pv 1) pe_str (nomark _))
    (pss_one (ps_ret (pe_mkr (by rfl) (pa_cons (pe_ix ix_list (pv 2) pe_int (fun _ _ => rfl)) (pa_cons (pe_ix ix_list (pv 2) pe_int (fun _ _ => rfl)) pa_nil)))))
    pss_nil)
    (pss_cons (ps_if (pt_cmpR op_eq (pv 1) pe_str (nomark _))
    (pss_one (ps_ret (pe_mkr (by rfl) (pa_cons (pe_ix ix_list (pv 2) pe_int (fun _ _ => rfl)) (pa_cons (pe_ix ix_list (pv 2) pe_int (fun _ _ => rfl)) (pa_cons (pe_ix ix_list (pv 2) pe_int (fun _ _ => rfl)) pa_nil))))))
    pss_nil)
    (pss_cons (ps_if (pt_cmpR op_eq (pv 1) pe_str (nomark _))
    (pss_one (ps_ret (pe_mkk (by rfl) (pa_cons (pe_ix ix_list (pv 2) pe_int (fun _ _ => rfl)) (pa_cons (pe_ix ix_list (pv 2) pe_int (fun _ _ => rfl)) (pa_cons (pe_ix ix_list (pv 2) pe_int (fun _ _ => rfl)) pa_nil))) (pk_cons (pe_tup (pa_cons (pe_ix ix_list (pe_ix ix_tup (pv 0) pe_int (fun _ _ => rfl)) pe_int (fun _ _ => rfl)) (pa_cons (pe_ix ix_list (pe_ix ix_tup (pv 0) pe_int (fun _ _ => rfl)) pe_int (fun _ _ => rfl)) (pa_cons (pe_ix ix_list (pe_ix ix_tup (pv 0) pe_int (fun _ _ => rfl)) pe_int (fun _ _ => rfl)) pa_nil)))) pk_nil))))
    pss_nil)
    (pss_cons (ps_if (pt_cmpR op_eq (pv 1) pe_str (nomark _))
    (pss_one (ps_ret (pe_mkr (by rfl) (pa_cons (pe_ix ix_list (pv 2) pe_int (fun _ _ => rfl)) (pa_cons (pe_ix ix_list (pv 2) pe_int (fun _ _ => rfl)) (pa_cons (pe_ix ix_list (pv 2) pe_int (fun _ _ => rfl)) (pa_cons (pe_ix ix_list (pv 2) pe_int (fun _ _ => rfl)) pa_nil)))))))
    pss_nil)
    (pss_cons (ps_if (pt_cmpR op_eq (pv 1) pe_str (nomark _))
    (pss_one (ps_ret (pe_mkr (by rfl) (pa_cons (pe_ix ix_list (pv 2) pe_int (fun _ _ => rfl)) (pa_cons (pe_ix ix_list (pv 2) pe_int (fun _ _ => rfl)) (pa_cons (pe_ix ix_list (pv 2) pe_int (fun _ _ => rfl)) (pa_cons (pe_ix ix_list (pv 2) pe_int (fun _ _ => rfl)) pa_nil)))))))
    pss_nil)
    (pss_one (ps_ret (pe_cal (by rfl) (pa_cons (pv 2) pa_nil))))))))))))))), ?_⟩
  obtain ⟨p, ns, hp, ⟨hin, hok⟩, hnm, q⟩ := h
  have hnp : ∀ z ∈ p.names, NameOk z := fun z hz => hnm z (hin z hz)
  cases p with
  | above a b =>
    obtain ⟨l, ht, hl⟩ := hp
    have ht : H t = some (.tup [.str "above", .ref l]) := ht
    have hl : H l = some (.lst ([a, b].map V.str)) := hl
    refine ⟨_, rfl, t, _, _, .str "above", rfl, rfl, SqT.of ht, rfl, ⟨_, rfl, rfl, _, rfl, ifN (by decide +kernel) ⟨_, rfl, rfl, _, rfl, ifN (by decide +kernel) ⟨_, rfl, rfl, _, rfl, ifN (by decide +kernel) ⟨_, rfl, t, _, _, .ref l, rfl, rfl, SqT.of ht, rfl, ⟨_, rfl, rfl, _, rfl, ifY rfl ?_⟩⟩⟩⟩⟩⟩
    exact ⟨T.C_Above, _, ⟨T.g_Above, _, 3, T.mk_Above, w_Above_init T (xa := a) (xb := b), hr.mono (by decide)⟩, _, rfl, l, _, _, .str a, rfl, rfl, SqL.of hl, rfl, _, rfl, l, _, _, .str b, rfl, rfl, SqL.of hl, rfl, fun f dx hf hdx hne => ⟨f, rfl, dx, upd_same, ⟨hnp a (by simp [Px.names]), hnp b (by simp [Px.names]), hok⟩, fun H' k hpl => ⟨rfl, q f _ H' (out_same hf hdx hne k) hpl rfl⟩⟩⟩
  | intune a b =>
    obtain ⟨l, ht, hl⟩ := hp
    have ht : H t = some (.tup [.str "intune", .ref l]) := ht
    have hl : H l = some (.lst ([a, b].map V.str)) := hl
    refine ⟨_, rfl, t, _, _, .str "intune", rfl, rfl, SqT.of ht, rfl, ⟨_, rfl, rfl, _, rfl, ifN (by decide +kernel) ⟨_, rfl, rfl, _, rfl, ifN (by decide +kernel) ⟨_, rfl, rfl, _, rfl, ifN (by decide +kernel) ⟨_, rfl, t, _, _, .ref l, rfl, rfl, SqT.of ht, rfl, ⟨_, rfl, rfl, _, rfl, ifN (by decide +kernel) ⟨_, rfl, rfl, _, rfl, ifY rfl ?_⟩⟩⟩⟩⟩⟩⟩
    exact ⟨T.C_InTune, _, ⟨T.g_InTune, _, 3, T.mk_InTune, w_InTune_init T (xa := a) (xb := b), hr.mono (by decide)⟩, _, rfl, l, _, _, .str a, rfl, rfl, SqL.of hl, rfl, _, rfl, l, _, _, .str b, rfl, rfl, SqL.of hl, rfl, fun f dx hf hdx hne => ⟨f, rfl, dx, upd_same, ⟨hnp a (by simp [Px.names]), hnp b (by simp [Px.names]), hok⟩, fun H' k hpl => ⟨rfl, q f _ H' (out_same hf hdx hne k) hpl rfl⟩⟩⟩
  | between a b c =>
    obtain ⟨l, ht, hl⟩ := hp
    have ht : H t = some (.tup [.str "between", .ref l]) := ht
    have hl : H l = some (.lst ([a, b, c].map V.str)) := hl
    refine ⟨_, rfl, t, _, _, .str "between", rfl, rfl, SqT.of ht, rfl, ⟨_, rfl, rfl, _, rfl, ifN (by decide +kernel) ⟨_, rfl, rfl, _, rfl, ifN (by decide +kernel) ⟨_, rfl, rfl, _, rfl, ifN (by decide +kernel) ⟨_, rfl, t, _, _, .ref l, rfl, rfl, SqT.of ht, rfl, ⟨_, rfl, rfl, _, rfl, ifN (by decide +kernel) ⟨_, rfl, rfl, _, rfl, ifN (by decide +kernel) ⟨_, rfl, rfl, _, rfl, ifY rfl ?_⟩⟩⟩⟩⟩⟩⟩⟩
    exact ⟨T.C_Between, _, ⟨T.g_Between, _, 3, T.mk_Between, w_Between_init T (xa := a) (xb := b) (xc := c), hr.mono (by decide)⟩, _, rfl, l, _, _, .str a, rfl, rfl, SqL.of hl, rfl, _, rfl, l, _, _, .str b, rfl, rfl, SqL.of hl, rfl, _, rfl, l, _, _, .str c, rfl, rfl, SqL.of hl, rfl, fun f dx hf hdx hne => ⟨f, rfl, dx, upd_same, ⟨hnp, hok⟩, fun H' k hpl => ⟨rfl, q f _ H' (out_same hf hdx hne k) hpl rfl⟩⟩⟩
  | trio a b c rs =>
    obtain ⟨l, r, n1, n2, n3, rfl, ht, hl, hr4⟩ := hp
    have hl : H l = some (.lst ([a, b, c].map V.str)) := hl
    refine ⟨_, rfl, t, _, _, .str "trio", rfl, rfl, SqT.of ht, rfl, ⟨_, rfl, rfl, _, rfl, ifN (by decide +kernel) ⟨_, rfl, rfl, _, rfl, ifN (by decide +kernel) ⟨_, rfl, rfl, _, rfl, ifN (by decide +kernel) ⟨_, rfl, t, _, _, .ref l, rfl, rfl, SqT.of ht, rfl, ⟨_, rfl, rfl, _, rfl, ifN (by decide +kernel) ⟨_, rfl, rfl, _, rfl, ifN (by decide +kernel) ⟨_, rfl, rfl, _, rfl, ifN (by decide +kernel) ⟨_, rfl, rfl, _, rfl, ifY rfl ?_⟩⟩⟩⟩⟩⟩⟩⟩⟩
    exact ⟨T.C_Trio, _, _, 3, T.g_Trio, T.mk_Trio, w_Trio_init T (xa := a) (xb := b) (xc := c) (n1 := n1) (n2 := n2) (n3 := n3), hr.mono (by decide), _, rfl, l, _, _, .str a, rfl, rfl, SqL.of hl, rfl, _, rfl, l, _, _, .str b, rfl, rfl, SqL.of hl, rfl, _, rfl, l, _, _, .str c, rfl, rfl, SqL.of hl, rfl, _, rfl, t, _, _, .ref r, rfl, rfl, SqT.of ht, rfl, r, _, _, .int n1, rfl, rfl, SqL.of hr4, rfl, _, rfl, t, _, _, .ref r, rfl, rfl, SqT.of ht, rfl, r, _, _, .int n2, rfl, rfl, SqL.of hr4, rfl, _, rfl, t, _, _, .ref r, rfl, rfl, SqT.of ht, rfl, r, _, _, .int n3, rfl, rfl, SqL.of hr4, rfl, (by show 3 ≤ sizeLine; decide), fun bt hbt => ⟨_, rfl, fun f dx hf hdx hne => ⟨f, bt, rfl, dx, upd_same, new_ins hf hdx hne _ _ upd_same, hnp, hok.1, hok.2, fun rs H' k hpl => ⟨rfl, q f _ H' (same_trans (same_new hbt) (out_same hf hdx hne k)) hpl rfl⟩⟩⟩⟩
  | asoften a b c d =>
    obtain ⟨l, ht, hl⟩ := hp
    have ht : H t = some (.tup [.str "asoften", .ref l]) := ht
    have hl : H l = some (.lst ([a, b, c, d].map V.str)) := hl
    refine ⟨_, rfl, t, _, _, .str "asoften", rfl, rfl, SqT.of ht, rfl, ⟨_, rfl, rfl, _, rfl, ifN (by decide +kernel) ⟨_, rfl, rfl, _, rfl, ifN (by decide +kernel) ⟨_, rfl, rfl, _, rfl, ifN (by decide +kernel) ⟨_, rfl, t, _, _, .ref l, rfl, rfl, SqT.of ht, rfl, ⟨_, rfl, rfl, _, rfl, ifN (by decide +kernel) ⟨_, rfl, rfl, _, rfl, ifN (by decide +kernel) ⟨_, rfl, rfl, _, rfl, ifN (by decide +kernel) ⟨_, rfl, rfl, _, rfl, ifN (by decide +kernel) ⟨_, rfl, rfl, _, rfl, ifY rfl ?_⟩⟩⟩⟩⟩⟩⟩⟩⟩⟩
    exact ⟨T.C_AsOften, _, ⟨T.g_AsOften, _, 3, T.mk_AsOften, w_AsOften_init T (xa := a) (xb := b) (xc := c) (xd := d), hr.mono (by decide)⟩, _, rfl, l, _, _, .str a, rfl, rfl, SqL.of hl, rfl, _, rfl, l, _, _, .str b, rfl, rfl, SqL.of hl, rfl, _, rfl, l, _, _, .str c, rfl, rfl, SqL.of hl, rfl, _, rfl, l, _, _, .str d, rfl, rfl, SqL.of hl, rfl, fun f dx hf hdx hne => ⟨f, rfl, dx, upd_same, ⟨hnp, hok⟩, fun H' k hpl => ⟨rfl, q f _ H' (out_same hf hdx hne k) hpl rfl⟩⟩⟩
  | more a b c d =>
    obtain ⟨l, ht, hl⟩ := hp
    have ht : H t = some (.tup [.str "moreoften", .ref l]) := ht
    have hl : H l = some (.lst ([a, b, c, d].map V.str)) := hl
    refine ⟨_, rfl, t, _, _, .str "moreoften", rfl, rfl, SqT.of ht, rfl, ⟨_, rfl, rfl, _, rfl, ifN (by decide +kernel) ⟨_, rfl, rfl, _, rfl, ifN (by decide +kernel) ⟨_, rfl, rfl, _, rfl, ifN (by decide +kernel) ⟨_, rfl, t, _, _, .ref l, rfl, rfl, SqT.of ht, rfl, ⟨_, rfl, rfl, _, rfl, ifN (by decide +kernel) ⟨_, rfl, rfl, _, rfl, ifN (by decide +kernel) ⟨_, rfl, rfl, _, rfl, ifN (by decide +kernel) ⟨_, rfl, rfl, _, rfl, ifN (by decide +kernel) ⟨_, rfl, rfl, _, rfl, ifN (by decide +kernel) ⟨_, rfl, rfl, _, rfl, ifY rfl ?_⟩⟩⟩⟩⟩⟩⟩⟩⟩⟩⟩
    exact ⟨T.C_MoreOften, _, ⟨T.g_MoreOften, _, 3, T.mk_MoreOften, w_MoreOften_init T (xa := a) (xb := b) (xc := c) (xd := d), hr.mono (by decide)⟩, _, rfl, l, _, _, .str a, rfl, rfl, SqL.of hl, rfl, _, rfl, l, _, _, .str b, rfl, rfl, SqL.of hl, rfl, _, rfl, l, _, _, .str c, rfl, rfl, SqL.of hl, rfl, _, rfl, l, _, _, .str d, rfl, rfl, SqL.of hl, rfl, fun f dx hf hdx hne => ⟨f, rfl, dx, upd_same, ⟨hnp, hok⟩, fun H' k hpl => ⟨rfl, q f _ H' (out_same hf hdx hne k) hpl rfl⟩⟩⟩
  | highest y ys =>
    obtain ⟨l, ht, hl⟩ := hp
    have ht : H t = some (.tup [.str "highest", .ref l]) := ht
    refine ⟨_, rfl, t, _, _, .str "highest", rfl, rfl, SqT.of ht, rfl, ⟨_, rfl, rfl, _, rfl, ifN (by decide +kernel) ⟨_, rfl, rfl, _, rfl, ifN (by decide +kernel) ⟨_, rfl, rfl, _, rfl, ifN (by decide +kernel) ⟨_, rfl, t, _, _, .ref l, rfl, rfl, SqT.of ht, rfl, ⟨_, rfl, rfl, _, rfl, ifN (by decide +kernel) ⟨_, rfl, rfl, _, rfl, ifN (by decide +kernel) ⟨_, rfl, rfl, _, rfl, ifN (by decide +kernel) ⟨_, rfl, rfl, _, rfl, ifN (by decide +kernel) ⟨_, rfl, rfl, _, rfl, ifN (by decide +kernel) ⟨_, rfl, rfl, _, rfl, ifN (by decide +kernel) ?_⟩⟩⟩⟩⟩⟩⟩⟩⟩⟩⟩
    exact ⟨spMkHigh T, ⟨_, 5, T.g__law_make_highest, T.f__law_make_highest.kp, w__law_make_highest T, hr⟩, _, rfl, l, rfl, y, ys, hl, hnp, hok.1, hok.2, fun f H' s hpl => q f _ H' s hpl rfl⟩
theorem cls_mem (T : Txt P K mg) (p : Px) : p.cls T ∈ [T.C_Above, T.C_InTune, T.C_Between, T.C_Highest, T.C_AsOften, T.C_MoreOften, T.C_Trio, T.C_Not, T.C_Both, T.C_Either] := by
  cases p <;> simp [Px.cls]
theorem cls_apart (T : Txt P K mg) (p r : Px) : p.cls T = r.cls T ∨ PySem.W.mroIn K (r.cls T) (.ref (p.cls T)) = some false := by
  by_cases e : p.cls T = r.cls T
  · exact .inl e
  · exact .inr (T.apart _ (cls_mem T p) _ (cls_mem T r) e)
def spMake (T : Txt P K mg) : SpN := fun vs H Q => ∃ t, vs = [.ref t] ∧ ∃ x ns, PlanF H t x ∧ FxOk ns x ∧ (∀ z ∈ ns, NameOk z) ∧ ∀ f x' H', Same H H' → FactAt T H' f x' → (∀ z ∈ x'.names, z ∈ ns) → Q (.ref f) H'
theorem nm_dd {ns : List Str} {p : Px} (h : ∀ z ∈ p.names, z ∈ ns) : ∀ z ∈ dedup p.names, z ∈ ns := fun z hz => h z (dedup_mem.mp hz)
def spMakeC (T : Txt P K mg) : SpN := fun vs H Q => ∃ t, vs = [.ref t] ∧ ∃ x ns, (∀ p, x ≠ Fx.plain p) ∧ PlanF H t x ∧ FxOk ns x ∧ (∀ z ∈ ns, NameOk z) ∧ ∀ f x' H', Same H H' → FactAt T H' f x' → (∀ z ∈ x'.names, z ∈ ns) → Q (.ref f) H'
theorem sc__law_make1 : FnScope ["_law_plan", "_law_word", "_law_row_here"] ["_law_plan"] (defScope (top 73)) := ⟨rfl, rfl, rfl, by decide +kernel, rfl, by decide +kernel, by decide +kernel⟩
theorem w__law_make1 (T : Txt P K mg) : FnN P w K mg base (6 + 1) (T.a__law_make) (spMakeC T) := by
  refine fn_mk (k := 6) (T.f__law_make) sc__law_make1 (fun _ _ _ _ _ _ us hl => match us, hl with | [_], _ => rfl) (fun vs H Q h => by obtain ⟨t, rfl, h⟩ := h; rfl) fun cdv A outer s H vs Q hr h => ?_
  have hu := hu_of hr
  have sc := sc__law_make1
  obtain ⟨t, rfl, h⟩ := h
  refine ⟨_, (pss_cons (ps_set (i := 1) sc.nd rfl (.inl rfl) (pe_ix ix_tup (pv 0) pe_int (fun _ _ => rfl)))
    (pss_cons (ps_if (pt_cmpR op_eq (pv 1) pe_str (nomark _))
    (pss_one (ps_ret (pe_un un_invO (pe_cal (by rfl) (pa_cons (pe_ix ix_tup (pv 0) pe_int (fun _ _ => rfl)) pa_nil)))))
    pss_nil)
    (pss_cons (ps_if (pt_cmpR op_eq (pv 1) pe_str (nomark _))
    (pss_one (ps_ret (pe_op op_nbr (pe_cal (by rfl) (pa_cons (pe_ix ix_tup (pv 0) pe_int (fun _ _ => rfl)) pa_nil)) (pe_cal (by rfl) (pa_cons (pe_ix ix_tup (pv 0) pe_int (fun _ _ => rfl)) pa_nil)))))
    pss_nil)
    (pss_cons (ps_if (pt_cmpR op_eq (pv 1) pe_str (nomark _))
    (pss_one (ps_ret (pe_op op_nbr (pe_cal (by rfl) (pa_cons (pe_ix ix_tup (pv 0) pe_int (fun _ _ => rfl)) pa_nil)) (pe_cal (by rfl) (pa_cons (pe_ix ix_tup (pv 0) pe_int (fun _ _ => rfl)) pa_nil)))))
    pss_nil)
    (pss_cons (ps_set (i := 2) sc.nd rfl (.inl rfl) (pe_ix ix_tup (pv 0) pe_int (fun _ _ => rfl)))
    (pss_cons (ps_if (pt_cmpR op_eq (pv 1) pe_str (nomark _))
    (pss_one (ps_ret (pe_mkr (by rfl) (pa_cons (pe_ix ix_list (pv 2) pe_int (fun _ _ => rfl)) (pa_cons (pe_ix ix_list (pv 2) pe_int (fun _ _ => rfl)) pa_nil)))))
    pss_nil)
    (pss_cons (ps_if (pt_cmpR op_eq (pv 1) pe_str (nomark _))
    (pss_one (ps_ret (pe_mkr (by rfl) (pa_cons (pe_ix ix_list (pv 2) pe_int (fun _ _ => rfl)) (pa_cons (pe_ix ix_list (pv 2) pe_int (fun _ _ => rfl)) pa_nil)))))
    pss_nil)
    (pss_cons (ps_if (pt_cmpR op_eq (pv 1) pe_str (nomark _))
    (pss_one (ps_ret (pe_mkr (by rfl) (pa_cons (pe_ix ix_list (pv 2) pe_int (fun _ _ => rfl)) (pa_cons (pe_ix ix_list (pv 2) pe_int (fun _ _ => rfl)) (pa_cons (pe_ix ix_list (pv 2) pe_int (fun _ _ => rfl)) pa_nil))))))
    pss_nil)
    (pss_cons (ps_if (pt_cmpR op_eq (pv 1) pe_str (nomark _))
    (pss_one (ps_ret (pe_mkk (by rfl) (pa_cons (pe_ix ix_list (pv 2) pe_int (fun _ _ => rfl)) (pa_cons (pe_ix ix_list (pv 2) pe_int (fun _ _ => rfl)) (pa_cons (pe_ix ix_list (pv 2) pe_int (fun _ _ => rfl)) pa_nil))) (pk_cons (pe_tup (pa_cons (pe_ix ix_list (pe_ix ix_tup (pv 0) pe_int (fun _ _ => rfl)) pe_int (fun _ _ => rfl)) (pa_cons (pe_ix ix_list (pe_ix ix_tup (pv 0) pe_int (fun _ _ => rfl)) pe_int (fun _ _ => rfl)) (pa_cons (pe_ix ix_list (pe_ix ix_tup (pv 0) pe_int (fun _ _ => rfl)) pe_int (fun _ _ => rfl)) pa_nil)))) pk_nil))))
    pss_nil)
    (pss_cons (ps_if (pt_cmpR op_eq (pv 1) pe_str (nomark _))
    (pss_one (ps_ret (pe_mkr (by rfl) (pa_cons (pe_ix ix_list (pv 2) pe_int (fun _ _ => rfl)) (pa_cons (pe_ix ix_list (pv 2) pe_int (fun _ _ => rfl)) (pa_cons (pe_ix ix_list (pv 2) pe_int (fun _ _ => rfl)) (pa_cons (pe_ix ix_list (pv 2) pe_int (fun _ _ => rfl)) pa_nil)))))))
    pss_nil)
    (pss_cons (ps_if (pt_cmpR op_eq (pv 1) pe_str (nomark _))
    (pss_one (ps_ret (pe_mkr (by rfl) (pa_cons (pe_ix ix_list (pv 2) pe_int (fun _ _ => rfl)) (pa_cons (pe_ix ix_list (pv 2) pe_int (fun _ _ => rfl)) (pa_cons (pe_ix ix_list (pv 2) pe_int (fun _ _ => rfl)) (pa_cons (pe_ix ix_list (pv 2) pe_int (fun _ _ => rfl)) pa_nil)))))))
    pss_nil)
    (pss_one (ps_ret (pe_cal (by rfl) (pa_cons (pv 2) pa_nil))))))))))))))), ?_⟩
  obtain ⟨x, ns, hnp, hp, hok, hnm, q⟩ := h
  have C0 : Cal ⟨P, w, K, mg, base, _⟩ "_law_make" (spMakeP T) := ⟨_, 6, T.g__law_make, T.f__law_make.kp, w__law_make0 T, hr⟩
  cases x with
  | plain p => exact absurd rfl (hnp p)
  | not p =>
    obtain ⟨u, ht, hp⟩ := hp
    refine ⟨_, rfl, t, _, _, .str "not", rfl, rfl, SqT.of ht, rfl, ⟨_, rfl, rfl, _, rfl, ifY rfl ?_⟩⟩
    refine ⟨spMakeP T, C0, _, rfl, t, _, _, .ref u, rfl, rfl, SqT.of ht, rfl, u, rfl, p, ns, hp, hok, hnm, fun f p' H1 s1 hpl hn => ?_⟩
    obtain ⟨df, ff, f1, _, _⟩ := hpl.hd
    obtain ⟨ka, fc⟩ := p'.fact T
    exact ⟨f, _, df, ff, T.a_Fact_invert, 6, spInv T, rfl, f1, fc.inv.spc, w_Fact_invert T, hr, f, rfl, p', hpl, fun y H2 _ s2 hfa => q y _ H2 (same_trans s1 s2) hfa (nm_dd fun z hz => hok.1 z (hn ▸ hz))⟩
  | both p r =>
    obtain ⟨u, v, ht, hp, hp2⟩ := hp
    obtain ⟨hok, hok2⟩ := hok
    refine ⟨_, rfl, t, _, _, .str "both", rfl, rfl, SqT.of ht, rfl, ⟨_, rfl, rfl, _, rfl, ifN (by decide +kernel) ⟨_, rfl, rfl, _, rfl, ifY rfl ?_⟩⟩⟩
    refine ⟨spMakeP T, C0, _, rfl, t, _, _, .ref u, rfl, rfl, SqT.of ht, rfl, u, rfl, p, ns, hp, hok, hnm, fun f p' H1 s1 hpl hn => ?_⟩
    refine ⟨spMakeP T, C0, _, rfl, t, _, _, .ref v, rfl, rfl, SqT.of (s1 _ _ ht), rfl, v, rfl, r, ns, hp2.at (same_kept s1), hok2, hnm, fun g r' H2 s2 hpl2 hn2 => ?_⟩
    have hpl := hpl.at (same_kept s2)
    obtain ⟨df, ff, f1, _, _⟩ := hpl.hd
    obtain ⟨dg, fg, g1, _, _⟩ := hpl2.hd
    obtain ⟨ka, fc⟩ := p'.fact T
    obtain ⟨kb, fc2⟩ := r'.fact T
    have l1 := hok.len
    have l2 := hok2.len
    exact ⟨f, _, df, ff, T.a_Fact_and, g, _, dg, fg, T.a_Fact_and, 6, spBin T .both, rfl, rfl, f1, g1, fc.and_, fc2.and_, cls_apart T p' r', w_Fact_and T, hr, f, g, rfl, p', r', hpl, hpl2, by rw [hn, hn2]; omega, fun y H3 _ s3 hfa => q y _ H3 (same_trans s1 (same_trans s2 s3)) hfa fun z hz => by
      rcases List.mem_append.mp (dedup_mem.mp hz) with h | h
      · exact hok.1 z (hn ▸ dedup_mem.mp h)
      · exact hok2.1 z (hn2 ▸ dedup_mem.mp h)⟩
  | either p r =>
    obtain ⟨u, v, ht, hp, hp2⟩ := hp
    obtain ⟨hok, hok2⟩ := hok
    refine ⟨_, rfl, t, _, _, .str "either", rfl, rfl, SqT.of ht, rfl, ⟨_, rfl, rfl, _, rfl, ifN (by decide +kernel) ⟨_, rfl, rfl, _, rfl, ifN (by decide +kernel) ⟨_, rfl, rfl, _, rfl, ifY rfl ?_⟩⟩⟩⟩
    refine ⟨spMakeP T, C0, _, rfl, t, _, _, .ref u, rfl, rfl, SqT.of ht, rfl, u, rfl, p, ns, hp, hok, hnm, fun f p' H1 s1 hpl hn => ?_⟩
    refine ⟨spMakeP T, C0, _, rfl, t, _, _, .ref v, rfl, rfl, SqT.of (s1 _ _ ht), rfl, v, rfl, r, ns, hp2.at (same_kept s1), hok2, hnm, fun g r' H2 s2 hpl2 hn2 => ?_⟩
    have hpl := hpl.at (same_kept s2)
    obtain ⟨df, ff, f1, _, _⟩ := hpl.hd
    obtain ⟨dg, fg, g1, _, _⟩ := hpl2.hd
    obtain ⟨ka, fc⟩ := p'.fact T
    obtain ⟨kb, fc2⟩ := r'.fact T
    have l1 := hok.len
    have l2 := hok2.len
    exact ⟨f, _, df, ff, T.a_Fact_or, g, _, dg, fg, T.a_Fact_or, 6, spBin T .either, rfl, rfl, f1, g1, fc.or_, fc2.or_, cls_apart T p' r', w_Fact_or T, hr, f, g, rfl, p', r', hpl, hpl2, by rw [hn, hn2]; omega, fun y H3 _ s3 hfa => q y _ H3 (same_trans s1 (same_trans s2 s3)) hfa fun z hz => by
      rcases List.mem_append.mp (dedup_mem.mp hz) with h | h
      · exact hok.1 z (hn ▸ dedup_mem.mp h)
      · exact hok2.1 z (hn2 ▸ dedup_mem.mp h)⟩
theorem w__law_make (T : Txt P K mg) : FnN P w K mg base (6 + 1) T.a__law_make (spMake T) := by
  intro A outer s H us vs Q E hr e0 r hs
  obtain ⟨t, rfl, x, ns, hp, hok, hnm, q⟩ := hs
  cases x with
  | plain p => exact w__law_make0 T A outer s H us _ Q E (hr.mono (by decide)) e0 r ⟨t, rfl, p, ns, hp, hok, hnm, fun f p' H' k hpl hn => q f (.plain p') H' k hpl fun z hz => hok.1 z (hn ▸ hz)⟩
  | not p => exact w__law_make1 T A outer s H us _ Q E hr e0 r ⟨t, rfl, .not p, ns, (by intro p h; cases h), hp, hok, hnm, q⟩
  | both p p2 => exact w__law_make1 T A outer s H us _ Q E hr e0 r ⟨t, rfl, .both p p2, ns, (by intro p h; cases h), hp, hok, hnm, q⟩
  | either p p2 => exact w__law_make1 T A outer s H us _ Q E hr e0 r ⟨t, rfl, .either p p2, ns, (by intro p h; cases h), hp, hok, hnm, q⟩
/-- a list of plans, each over a bundle -/
def PlsAt (H : Hp) (l : Addr) (ns : List Str) (sk : List Sk) (pls : List (Fx × List Str)) : Prop := ∃ rs : List Addr, H l = some (.lst (rs.map V.ref)) ∧ Paired (fun r (x : Fx × List Str) => PlanF H r x.1 ∧ FxOk x.2 x.1 ∧ Bun ns sk x.2) rs pls
theorem BunAt.same {H H' : Hp} {l : Addr} {bs : List (List Str)} (h : BunAt H l bs) (k : Same H H') : BunAt H' l bs := by
  obtain ⟨rs, h1, h2⟩ := h
  exact ⟨rs, k _ _ h1, paired_imp (fun _ _ e => k _ _ e) h2⟩
def spPlans : SpN := fun vs H Q => ∃ a l ls m, vs = [.ref a, .ref l, .ref ls, .int m, .int 1] ∧ ∃ cl ns sk, BagAt H a cl ∧ LsT H l ns ∧ ns.Nodup ∧ (∀ z ∈ ns, NameOk z) ∧ ns ≠ [] ∧ ns.length ≤ 5 ∧ LtAt fSk H ls sk ∧ (∀ q ∈ sk, q.1 ∈ ns ∧ q.2.1 ∈ ns) ∧ sk.length ≤ 20 ∧ 0 ≤ m ∧ m < 3 ∧
  ∀ p pls H', H p = none → But a H H' → BagAt H' a cl → PlsAt H' p ns sk pls → pls.length ≤ 2 → Q (.ref p) H'
theorem sc__law_draw_plans : FnScope ["_law_bag_here", "_law_names_here", "_law_strikes", "_law_many_here", "_law_deep", "_law_plans", "_law_bundles", "_law_k"] ["_law_bag_here", "_law_names_here", "_law_strikes", "_law_many_here", "_law_deep"] (defScope (top 75)) := ⟨rfl, rfl, rfl, by decide +kernel, rfl, by decide +kernel, by decide +kernel⟩
theorem w__law_draw_plans (T : Txt P K mg) : FnN P w K mg base (6 + 1) (T.a__law_draw_plans) (spPlans) := by
  refine fn_mk (k := 6) (T.f__law_draw_plans) sc__law_draw_plans (fun _ _ _ _ _ _ us hl => match us, hl with | [_, _, _, _, _], _ => rfl) (fun vs H Q h => by obtain ⟨a, l, ls, m, rfl, h⟩ := h; rfl) fun cdv A outer s H vs Q hr h => ?_
  have hu := hu_of hr
  have sc := sc__law_draw_plans
  obtain ⟨a, l, ls, m, rfl, h⟩ := h
  refine ⟨_, (pss_cons (ps_set (i := 5) sc.nd rfl (.inl rfl) (pe_lst pa_nil))
    (pss_cons (ps_set (i := 6) sc.nd rfl (.inl rfl) (pe_cal (by rfl) (pa_cons (pv 1) (pa_cons (pv 2) pa_nil))))
    (pss_cons (ps_for PassesOwn.never rfl (pi_range1 (by rfl) T.n_range (pa_cons (pv 3) pa_nil)) (pg_name (i := 7) sc.nd rfl (.inl rfl))
    (pss_one (ps_expr (pe_bm PySem.F.plainAttrs_list PySem.F.slot_list_append PySem.F.type_list_append mt_append (pv 5) (pa_cons (pe_cal (by rfl) (pa_cons (pv 0) (pa_cons (pe_ix ix_list (pv 6) (pe_cal (by rfl) (pa_cons (pv 0) (pa_cons (pe_callB call_len_seq (by rfl) T.n_len PySem.boot_len (pa_cons (pv 6) pa_nil)) pa_nil))) (fun _ _ => rfl)) (pa_cons (pv 4) pa_nil)))) pa_nil)))))
    (pss_one (ps_ret (pv 5)))))), ?_⟩
  obtain ⟨cl, ns, sk, hb, hl, hnd, hnm, hne, hnl, hsk, hin, hsl, hm0, hm, q⟩ := h
  have hla := bag_ne hb hl
  refine ⟨Nat.zero_le _, fun F hF => ?_⟩
  obtain ⟨hFa, hFc⟩ := hb.new hF
  have s1 := same_new (o := .lst []) hF
  have hFF : upd H F (.lst []) F = some (.lst []) := upd_same
  generalize upd H F (.lst []) = H1 at s1 hFF
  refine ⟨spPieces, ⟨_, 1, T.g__law_pieces, T.f__law_pieces.kp, w__law_pieces T, hr.mono (by decide)⟩, _, rfl, _, rfl, l, ls, rfl, ns, sk, s1 _ _ hl, hnd, hnm, hne, hnl, hsk.same s1, hin, hsl, fun B bs H2 hB s2 hbs hbne hbl hbo => ?_⟩
  have b2 := hb.same (same_trans s1 s2)
  obtain ⟨br, hb1, hb2⟩ := hbs
  have hbrl := Paired.length hb2
  have hBa : B ≠ a := (ne_of_none (hb.same s1).choose_spec.choose_spec.choose_spec.choose_spec.choose_spec.1 hB).symm
  have hbl1 : 0 < bs.length := List.length_pos_iff.mpr hbne
  refine ⟨_, rfl, m, rfl, by omega, by omega, for_it (walk_range (lo := 0) (n := m.toNat)) (fun i σ H' => (∃ a7, σ = [some (.ref a), some (.ref l), some (.ref ls), some (.int m), some (.int 1), some (.ref F), some (.ref B), a7]) ∧ But a H H' ∧ BagAt H' a cl ∧ H' B = some (.lst (br.map V.ref)) ∧ Paired (fun r (b : List Str) => H' r = some (.lst (b.map V.str))) br bs ∧ ∃ pls, PlsAt H' F ns sk pls ∧ pls.length = i)
    ⟨⟨_, rfl⟩, same_but (same_trans s1 s2), b2, hb1, hb2, [], ⟨[], s2 _ _ hFF, .nil⟩, rfl⟩ (fun _ _ _ _ _ => trivial) ?_ ?_⟩
  · rintro i x σ H4 H3 hi ⟨⟨a7, rfl⟩, k3, b3, g1, g2, pls, ⟨pr, h1, h2⟩, hpl⟩ ⟨rfl, rfl⟩
    have ntl : ∀ r (b : List Str), H3 r = some (.lst (b.map V.str)) → r ≠ a := fun r b e => bag_ne b3 e
    refine ⟨_, rfl, .inl ⟨rfl, _, SqL.of h1⟩, ?_⟩
    have C1 : Cal ⟨P, w, K, mg, base, _⟩ "_law_draw_fact" spDraw1 := ⟨_, 6, T.g__law_draw_fact, T.f__law_draw_fact.kp, w__law_draw_fact T, hr⟩
    refine ⟨spDraw1, C1, _, rfl, _, rfl, spTake, cal_take T (hr.mono (by decide)), _, rfl, _, rfl, B, _, rfl, .inl (SqL.of g1), a, _, rfl, cl, b3, by rw [List.length_map]; omega, fun r H5 k5 b5 r0 r1 => ?_⟩
    have hr1 : r < br.length := by
      rw [List.length_map] at r1
      split at r1 <;> omega
    obtain ⟨x, ex⟩ : ∃ x, br[r.toNat]? = some x := ⟨_, List.getElem?_eq_getElem (by omega)⟩
    obtain ⟨bd, ebd, hx⟩ := paired_get g2 ex
    have g15 := k5 _ _ hBa g1
    have hx5 := k5 _ _ (ntl _ _ hx) hx
    have hbd := hbo bd (List.mem_of_getElem? ebd)
    refine ⟨B, _, r, .ref x, rfl, rfl, SqL.of g15, ?_, _, rfl, a, x, rfl, cl, bd, b5, hx5, hbd.nd, hbd.ne, by have := hbd.len; omega, fun t fx H6 k6 b6 hpf hfo => ?_⟩
    · rw [show r = (r.toNat : Int) by omega]; exact atI_nat (by simp [ex])
    have h16 := k6 _ _ hFa (k5 _ _ hFa h1)
    have g16 := k6 _ _ hBa g15
    have g26 : Paired (fun r (b : List Str) => H6 r = some (.lst (b.map V.str))) br bs := paired_imp (fun r b e => k6 _ _ (ntl _ _ e) (k5 _ _ (ntl _ _ e) e)) g2
    have kk := (b3.kept k5).trans (b5.kept k6)
    have h26 := paired_imp (fun r (x : Fx × List Str) (e : PlanF H3 r x.1 ∧ FxOk x.2 x.1 ∧ Bun ns sk x.2) => (⟨e.1.at kk, e.2⟩ : PlanF H6 r x.1 ∧ FxOk x.2 x.1 ∧ Bun ns sk x.2)) h2
    have hup : ∀ {o : List V}, Kept H6 H6 := Kept.refl
    have kup : ∀ y, y ≠ F → upd H6 F (.lst (pr.map V.ref ++ [.ref t])) y = H6 y := fun y hy => upd_ne hy
    have hFl : ∀ (ys : List Str), ys ≠ [] → H6 F ≠ some (.lst (ys.map V.str)) := fun ys hne e => by
      rw [h16] at e
      cases ys with
      | nil => exact hne rfl
      | cons y r => cases pr with
        | nil => cases e
        | cons x z => cases e
    have hFi : ∀ n1 n2 n3 : Int, H6 F ≠ some (.lst [.int n1, .int n2, .int n3]) := fun n1 n2 n3 e => by
      rw [h16] at e
      cases pr with
      | nil => cases e
      | cons x z => cases e
    have pP : ∀ r (p : Px), PlanP H6 r p → PlanP (upd H6 F (.lst (pr.map V.ref ++ [.ref t]))) r p := fun r p hp => by
      cases p with
      | trio a b c rs =>
        obtain ⟨l, r2, n1, n2, n3, e1, e2, e3, e4⟩ := hp
        exact ⟨l, r2, n1, n2, n3, e1, (kup _ (ne_of e2 h16 (by intro z; cases z))).trans e2, (kup _ (fun z => hFl [a, b, c] (by simp) (z ▸ e3))).trans e3, (kup _ (fun z => hFi n1 n2 n3 (z ▸ e4))).trans e4⟩
      | _ =>
        obtain ⟨l, e1, e2⟩ := hp
        exact ⟨l, (kup _ (ne_of e1 h16 (by intro z; cases z))).trans e1, (kup _ (fun z => hFl _ (by simp [Px.names]) (z ▸ e2))).trans e2⟩
    have pF : ∀ r (x : Fx), PlanF H6 r x → PlanF (upd H6 F (.lst (pr.map V.ref ++ [.ref t]))) r x := fun r x hp => by
      cases x with
      | plain p => exact pP r p hp
      | not p => obtain ⟨u, e1, e2⟩ := hp; exact ⟨u, (kup _ (ne_of e1 h16 (by intro z; cases z))).trans e1, pP _ _ e2⟩
      | both p q => obtain ⟨u, v, e1, e2, e3⟩ := hp; exact ⟨u, v, (kup _ (ne_of e1 h16 (by intro z; cases z))).trans e1, pP _ _ e2, pP _ _ e3⟩
      | either p q => obtain ⟨u, v, e1, e2, e3⟩ := hp; exact ⟨u, v, (kup _ (ne_of e1 h16 (by intro z; cases z))).trans e1, pP _ _ e2, pP _ _ e3⟩
    refine ⟨F, _, _, rfl, rfl, h16, by rw [List.length_map, Paired.length h2]; exact szl (by omega), ⟨_, rfl⟩, fun y u hy e => ?_, b6.upd hFa hFc, ?_, paired_mem g26 fun r b hbm e => ?_, pls ++ [(fx, bd)], ⟨pr ++ [t], by rw [upd_same, List.map_append]; rfl, paired_snoc (paired_imp (fun r x e => ⟨pF r x.1 e.1, e.2⟩) h26) ⟨pF t fx hpf, hfo, hbd⟩⟩, by simp [hpl]⟩
    · rw [upd_ne (ne_of_none e hF)]; exact ((k3.trans k5).trans k6) y u hy e
    · exact (kup B (fun z => ne_of_none hFF hB z.symm)).trans g16
    · exact (kup r (fun z => hFl b (hbo b hbm).ne (z ▸ e))).trans e
  · rintro σ H3 ⟨⟨a7, rfl⟩, k3, b3, g1, g2, pls, hp, hpl⟩
    exact ⟨_, rfl, q F pls H3 hF k3 b3 hp (by omega)⟩
end
end Fb
set_option maxHeartbeats 4000000
/-! Forkbeats: what the law's walk needs. -/
namespace Fb
open PySem PySem.Spec PyProof.Rows L2
theorem fit_of {fk : List Str} {sk : List Sk} {fc : List (Addr × Fx)} (S : SkOk fk sk) (nd : fk.Nodup) (nm : ∀ z ∈ fk, NameOk z) (ne : fk ≠ []) (hl : fk.length ≤ 9) (hfc : fc.length ≤ 20) (hfn : ∀ q ∈ fc, ∀ z ∈ q.2.names, z ∈ fk) : FitOk ⟨fk, sk, fc⟩ := by
  obtain ⟨⟨hw, hr⟩, hall⟩ := orderF_ok S
  refine ⟨S.len, by show fk.length ≤ 10; omega, ne, nd, nm, fun q hq => ⟨(S.inn q hq).1, (S.inn q hq).2.1⟩, hr, Nat.le_trans hw.len hl, fun lv hlv z hz => ?_, hfc, hfn⟩
  obtain ⟨h1, _⟩ := lev_names _ _ lv hlv
  refine lookup_isSome ?_
  rw [h1]
  exact List.mem_append_right _ (hall z hz)
theorem closedF_of {sk : List Sk} {f : List Str} (h : ClosedTo sk f f.length) : ClosedF sk f := fun q hq => by
  constructor
  · intro hm
    obtain ⟨i, hi, e⟩ := List.mem_iff_getElem.mp hm
    exact (h i hi q hq).1 (by rw [List.getElem?_eq_getElem hi, e])
  · intro hm
    obtain ⟨i, hi, e⟩ := List.mem_iff_getElem.mp hm
    exact (h i hi q hq).2 (by rw [List.getElem?_eq_getElem hi, e])
theorem together_of {ns : List Str} {sk : List Sk} {b xs : List Str} (hb : Bun ns sk b) (hx : ∀ z ∈ xs, z ∈ b) : Together sk xs := fun y hy f hg hc z hz =>
  (hb.cn y (hx y hy) z (hx z hz) f (closedF_of hc)).mp hg.2.1
theorem skOk_of {ns : List Str} {prs : List Pr} {sk : List Sk} (hs : SkFrom prs sk) (hp : PrOk ns prs) (hl : prs.length ≤ 6) : SkOk ns sk := by
  have hm : ∀ q ∈ sk, (q.1, q.2.1) ∈ prs := fun q hq => by rw [← hs.1]; exact List.mem_map.mpr ⟨q, hq, rfl⟩
  refine ⟨fun q hq => hp _ (hm q hq), fun q hq => ?_, ?_⟩
  · obtain ⟨a, b⟩ := hs.2 q hq
    unfold big; omega
  · have : sk.length = prs.length := by rw [← hs.1, List.length_map]
    omega
/-- strikes of the new fork -/
def New (E : List Sk) (z k : Str) : Prop := ∀ q ∈ E, ((q.1 = k ∧ q.2.1 = z) ∨ (q.1 = z ∧ q.2.1 = k)) ∧ 0 ≤ q.2.2 ∧ q.2.2 ≤ big
theorem skOk_new {fk : List Str} {sk E : List Sk} {z k : Str} (S : SkOk fk sk) (hE : New E z k) (hk : k ∈ fk) (hz : z ∉ fk) (hl : sk.length + E.length ≤ 20) : SkOk (fk ++ [z]) (sk ++ E) := by
  have hkz : k ≠ z := fun e => hz (e ▸ hk)
  refine ⟨fun q hq => ?_, fun q hq => ?_, by rw [List.length_append]; exact hl⟩
  · rcases List.mem_append.mp hq with h | h
    · obtain ⟨a, b, c⟩ := S.inn q h
      exact ⟨List.mem_append_left _ a, List.mem_append_left _ b, c⟩
    · rcases (hE q h).1 with ⟨a, b⟩ | ⟨a, b⟩
      · rw [a, b]; exact ⟨List.mem_append_left _ hk, by simp, hkz⟩
      · rw [a, b]; exact ⟨by simp, List.mem_append_left _ hk, hkz.symm⟩
  · rcases List.mem_append.mp hq with h | h
    · exact S.cnt q h
    · obtain ⟨_, a, b⟩ := hE q h; exact ⟨a, by omega⟩
theorem nw_of {fk : List Str} {sk E : List Sk} {z k : Str} (S : SkOk fk sk) (hE : New E z k) (hk : k ∈ fk) (hz : z ∉ fk) (hne : E ≠ []) : Nw fk sk E z k :=
  ⟨fun q hq => ⟨(S.inn q hq).1, (S.inn q hq).2.1⟩, fun q hq => (hE q hq).1, hne, hk, hz⟩
theorem hit_new {z k : Str} {q : Sk} (h : (q.1 = k ∧ q.2.1 = z) ∨ (q.1 = z ∧ q.2.1 = k)) : hitS z q ∧ hitS k q := by
  rcases h with ⟨a, b⟩ | ⟨a, b⟩
  · exact ⟨.inr b.symm, .inl a.symm⟩
  · exact ⟨.inl a.symm, .inr b.symm⟩
theorem zs_one {fk : List Str} {sk : List Sk} {z k : Str} {q : Sk} (S : SkOk fk sk) (hE : New [q] z k) (hk : k ∈ fk) (hz : z ∉ fk) : Zs (sk ++ [q]) z k sk.length false := by
  have hq := hit_new (hE q (by simp)).1
  refine ⟨fun e => hz (e ▸ hk), ⟨q, by simp, hq⟩, (fun h => by cases h), fun e q' he h => ?_, by simp⟩
  by_cases hl : e < sk.length
  · rw [List.getElem?_append_left hl] at he
    obtain ⟨a, b, _⟩ := S.inn q' (List.mem_of_getElem? he)
    rcases h with h | h
    · exact absurd (h ▸ a) hz
    · exact absurd (h ▸ b) hz
  · rw [List.getElem?_append_right (by omega)] at he
    have : e - sk.length = 0 := by
      obtain ⟨h1, _⟩ := List.getElem?_eq_some_iff.mp he
      simp at h1; omega
    rw [this] at he
    simp at he
    subst he
    exact ⟨hq.2, .inl (by omega)⟩
theorem zs_two {fk : List Str} {sk : List Sk} {z k : Str} {q r : Sk} (S : SkOk fk sk) (hE : New [q, r] z k) (hk : k ∈ fk) (hz : z ∉ fk) : Zs (sk ++ [q, r]) z k sk.length true := by
  have hq := hit_new (hE q (by simp)).1
  have hr := hit_new (hE r (by simp)).1
  refine ⟨fun e => hz (e ▸ hk), ⟨q, by simp, hq⟩, fun _ => ⟨r, by rw [List.getElem?_append_right (by omega)]; simp, hr⟩, fun e q' he h => ?_, by simp⟩
  by_cases hl : e < sk.length
  · rw [List.getElem?_append_left hl] at he
    obtain ⟨a, b, _⟩ := S.inn q' (List.mem_of_getElem? he)
    rcases h with h | h
    · exact absurd (h ▸ a) hz
    · exact absurd (h ▸ b) hz
  · rw [List.getElem?_append_right (by omega)] at he
    obtain ⟨h1, _⟩ := List.getElem?_eq_some_iff.mp he
    simp at h1
    have : e - sk.length = 0 ∨ e - sk.length = 1 := by omega
    rcases this with e2 | e2
    · rw [e2] at he; simp at he; subst he; exact ⟨hq.2, .inl (by omega)⟩
    · rw [e2] at he; simp at he; subst he; exact ⟨hr.2, .inr ⟨rfl, by omega⟩⟩
theorem skIn_of {fk : List Str} {sk : List Sk} (S : SkOk fk sk) : SkIn fk sk := S.inn
/-! ### lists of lists of ints as data -/
theorem dp_lli {K : PySem.W.Frag} {H : Hp} : ∀ {rs : List Addr} {bs : List (List Int)}, Paired (fun r (b : List Int) => H r = some (.lst (b.map V.int))) rs bs → DpAll K H (rs.map V.ref) (bs.map encL)
  | _, _, .nil => .nil
  | _, _, .cons h1 h2 => .cons (.lst (SqL.of h1) (dp_ints _)) (dp_lli h2)
theorem lay_lli : ∀ bs : List (List Int), PyData.canLayAll0 (bs.map encL) = true
  | [] => by simp [PyData.canLayAll0]
  | b :: r => by simp [PyData.canLayAll0, encL, PyData.canLay0, PySem.W.canLayAll0_ints, lay_lli r]
theorem depth_lli : ∀ bs : List (List Int), PyData.depthAll (bs.map encL) ≤ 2
  | [] => by simp [PyData.depthAll]
  | b :: r => by
    have := depth_lli r
    have h1 := PySem.W.depthAll_ints b
    simp only [List.map_cons, PyData.depthAll, encL, PyData.depth]
    omega
theorem shaped_lli (bs : List (List Int)) : SeqAt.shaped (.list (bs.map encL)) = true := by
  have h1 := depth_lli bs
  have h2 : PyData.depth (.list (bs.map encL)) ≤ 64 := by simp only [PyData.depth]; omega
  show (PyData.canLay0 (.list (bs.map encL)) && decide (PyData.depth (.list (bs.map encL)) ≤ 64)) = true
  rw [Bool.and_eq_true]
  exact ⟨by simp only [PyData.canLay0]; exact lay_lli bs, decide_eq_true h2⟩
theorem any_lli {bs : List (List Int)} {b : List Int} (h : b ∈ bs) : ((bs.map encL).any fun z => PyData.eqv z (.list (b.map .int))) = true := by
  rw [List.any_eq_true]
  exact ⟨encL b, List.mem_map.mpr ⟨b, h, rfl⟩, by show PyData.eqv (.list (b.map .int)) (.list (b.map .int)) = true; rw [eqv_ints]; simp⟩
theorem zy_ok : NameOk zy := by
  refine ⟨by decide +kernel, by decide +kernel, ?_⟩
  have : ∀ c ∈ zy.cps.toList, 97 ≤ c ∧ c ≤ 122 := by decide +kernel
  exact this
end Fb
set_option maxHeartbeats 8000000
/-! Forkbeats: the law. -/
namespace Fb
open PySem PySem.Spec PyProof.Rows L2
section
variable {P : Program} {w : World} {K : PySem.W.Frag} {mg : Str → Option Value} {base : Heap}
theorem same_at {H H' : Hp} {a : Addr} {u : HO} (k : Same H H') (e : H a = some u) : H' a = some u := k _ _ e
theorem BnAt.nlst {T : Txt P K mg} {H : Hp} {b S : Addr} {ps fs : List V} (h : BnAt T H b S ps fs) : ∀ xs, H b ≠ some (.lst xs) := fun xs e => by
  obtain ⟨dx, Pp, Fu, h1, _⟩ := h
  rw [h1] at e; cases e
theorem BnAt.ntup {T : Txt P K mg} {H : Hp} {b S : Addr} {ps fs : List V} (h : BnAt T H b S ps fs) : ∀ xs, H b ≠ some (.tup xs) := fun xs e => by
  obtain ⟨dx, Pp, Fu, h1, _⟩ := h
  rw [h1] at e; cases e
theorem BagAt.nins {H : Hp} {a cl : Addr} (h : BagAt H a cl) : ∀ C dx fs, H a ≠ some (.ins C dx fs) := fun C dx fs e => by
  obtain ⟨n, c, i, bs, cells, h1, _⟩ := h
  rw [h1] at e; cases e
theorem BnAt.butA {T : Txt P K mg} {H H' : Hp} {b S a cl : Addr} {ps fs : List V} (h : BnAt T H b S ps fs) (g : BagAt H a cl) (k : But a H H') : BnAt T H' b S ps fs := by
  obtain ⟨dx, Pp, Fu, h1, h2, h3⟩ := h
  have nt := bag_ntup g
  exact ⟨dx, Pp, Fu, k _ _ (fun e => g.nins _ _ _ (e ▸ h1)) h1, k _ _ (fun e => nt _ (e ▸ h2)) h2, k _ _ (fun e => nt _ (e ▸ h3)) h3⟩
abbrev fRow (r : List Int) : List V := r.map V.int
theorem bag_lt {α : Type} {f : α → List V} {H : Hp} {a cl l : Addr} {xs : List α} (g : BagAt H a cl) (h : LtAt f H l xs) : l ≠ a := fun e => by
  obtain ⟨_, _, _, _, _, h1, _⟩ := g
  obtain ⟨rs, h2, _⟩ := h
  rw [e, h1] at h2
  cases rs with
  | nil => cases h2
  | cons x r => cases h2
/-- what the law holds besides the bench -/
structure Wo (H : Hp) (a cl l ls lr : Addr) (ns : List Str) (sk : List Sk) (R : List (List Int)) : Prop where
  bag : BagAt H a cl
  nms : LsT H l ns
  sks : LtAt fSk H ls sk
  rws : LtAt fRow H lr R
theorem Wo.same {H H' : Hp} {a cl l ls lr : Addr} {ns : List Str} {sk : List Sk} {R : List (List Int)} (h : Wo H a cl l ls lr ns sk R) (k : Same H H') : Wo H' a cl l ls lr ns sk R :=
  ⟨h.bag.same k, k _ _ h.nms, h.sks.same k, h.rws.same k⟩
theorem Wo.butA {H H' : Hp} {a cl l ls lr : Addr} {ns : List Str} {sk : List Sk} {R : List (List Int)} (h : Wo H a cl l ls lr ns sk R) (k : But a H H') (g : BagAt H' a cl) : Wo H' a cl l ls lr ns sk R :=
  ⟨g, k _ _ (bag_ne h.bag h.nms) h.nms, h.sks.but k (bag_lt h.bag h.sks) (bag_ntup h.bag), h.rws.but k (bag_lt h.bag h.rws) (bag_ntup h.bag)⟩
theorem Wo.butB {T : Txt P K mg} {H H' : Hp} {a cl l ls lr b S : Addr} {ps fs : List V} {ns : List Str} {sk : List Sk} {R : List (List Int)} (h : Wo H a cl l ls lr ns sk R) (k : But b H H') (g : BnAt T H b S ps fs) : Wo H' a cl l ls lr ns sk R := by
  have hl : ∀ {x : Addr} {xs : List V}, H x = some (.lst xs) → x ≠ b := fun {x xs} e z => g.nlst _ (z ▸ e)
  have h1 : ls ≠ b := by obtain ⟨_, e, _⟩ := h.sks; exact hl e
  have h2 : lr ≠ b := by obtain ⟨_, e, _⟩ := h.rws; exact hl e
  exact ⟨h.bag.but k g.nlst, k _ _ (hl h.nms) h.nms, h.sks.but k h1 g.ntup, h.rws.but k h2 g.ntup⟩
theorem at_nil {σ : L2.St} {H : Hp} {F : List V → Hp → Prop} (h : F [] H) : tNil σ H F := h
theorem sort_rows {H : Hp} {D : Addr} {due : List (List Int)} (h : RowsAt H D due) (hne : ∀ r ∈ due, r ≠ []) (hl : due.length ≤ 10000) {Q : VK} (q : ∀ p H', Same H H' → RowsAt H' p (sortRows due) → Q (.ref p) H') : rSortD K encR [.ref D] H Q := by
  obtain ⟨rs, h1, h2⟩ := h
  have hrl := Paired.length h2
  have hz1 : (rs.zip due).map (·.1) = rs := List.map_fst_zip (by omega)
  have hz2 : (rs.zip due).map (·.2) = due := List.map_snd_zip (by omega)
  have hzr := paired_zip h2
  have hzl : (rs.zip due).length = due.length := by rw [List.length_zip]; omega
  generalize rs.zip due = zs at hz1 hz2 hzr hzl
  have hpm : (zs.mergeSort (PySem.W.dataLe false fun z => encR z.2)).Perm zs := List.mergeSort_perm _ _
  have hsv : (zs.mergeSort (PySem.W.dataLe false fun z => encR z.2)).map (·.2) = sortRows due := by
    rw [← hz2, sortRows]
    exact List.map_mergeSort fun a _ b _ => rfl
  refine ⟨D, zs, rfl, SqL.of ?_, by omega, fun z hz => dp_tup (hzr z hz), .inl fun d hd => ?_, fun p hp => ?_⟩
  · rw [h1, ← hz1, List.map_map]; rfl
  · obtain ⟨z, hz, e⟩ := List.mem_map.mp hd
    have := hne z.2 (by rw [← hz2]; exact List.mem_map_of_mem hz)
    cases e2 : z.2 with
    | nil => exact absurd e2 this
    | cons a r => rw [← e, e2]; exact ⟨_, _, rfl⟩
  · refine q p _ (same_new hp) ⟨(zs.mergeSort (PySem.W.dataLe false fun z => encR z.2)).map (·.1), ?_, ?_⟩
    · rw [upd_same, List.map_map]; rfl
    · rw [← hsv]
      exact zip_paired fun z hz => same_new hp _ _ (hzr z (hpm.mem_iff.mp hz))
theorem ext_len {ki : Nat} {c : Int} {R : List (List Int)} : (R.flatMap (extR ki (marks c))).length ≤ R.length * 2 := flat_len _ 2 R fun r _ => by rw [extR, List.length_map]; exact marks_len c
def spLaw (K : PySem.W.Frag) : SpN := fun vs H Q => ∃ (scr : Addr) (ns : List Int), vs = [.ref scr] ∧ SqL K H scr (ns.map V.int) ∧ ∀ H', Q (.bl true) H'
theorem some_new {H H' : Hp} {x : Addr} (k : Same H H') (e : H' x = none) : H x = none := by
  cases e2 : H x with
  | none => rfl
  | some u => exact absurd ((k _ _ e2).symm.trans e) (by intro z; cases z)
theorem nm_ok {ns : List Str} (h : ∀ z ∈ ns, Nm z) : ∀ z ∈ ns, NameOk z := fun z hz => (h z hz).ok
theorem sc_law : FnScope ["_law_script", "_law_bag_here", "_law_names_here", "_law_level_here", "_law_strikes", "_law_bench_here", "_law_plan", "_law_rows_here", "_law_k", "_law_count", "_law_pair", "_law_index", "_law_due", "_law_row_here", "_law_rise", "_law_block"] ["_law_script"] (defScope (top 77)) := ⟨rfl, rfl, rfl, by decide +kernel, rfl, by decide +kernel, by decide +kernel⟩
theorem w_law (T : Txt P K mg) {f : Addr} {fd : FuncData} (F : FunD K "law" "law" (defArgs (top 77)) (defBody (top 77)) (defScope (top 77)) [] [] f fd) : FnOk P w K mg base CX0 (16 + 1) f fd ["_law_script"] (fun vs H Q E => spLaw K vs H Q ∧ E = E0) := by
  refine F.ok sc_law (fun vs H Q E h => by obtain ⟨⟨scr, sns, rfl, h⟩, _⟩ := h; rfl) fun cdv A outer s H vs Q E hr h => ?_
  obtain ⟨h, rfl⟩ := h
  suffices go : ∃ t, PSs (cxOf CX0 P w K mg base ["_law_script", "_law_bag_here", "_law_names_here", "_law_level_here", "_law_strikes", "_law_bench_here", "_law_plan", "_law_rows_here", "_law_k", "_law_count", "_law_pair", "_law_index", "_law_due", "_law_row_here", "_law_rise", "_law_block"] "law" (defScope (top 77)) f cdv A outer s H E0).nox (defBody (top 77)) t ∧ t { nx := fun _ H2 => Q .non H2, rt := Q } (L2.start ["_law_script", "_law_bag_here", "_law_names_here", "_law_level_here", "_law_strikes", "_law_bench_here", "_law_plan", "_law_rows_here", "_law_k", "_law_count", "_law_pair", "_law_index", "_law_due", "_law_row_here", "_law_rise", "_law_block"] vs) H from go.elim fun t g => ⟨t, g.1.nox, g.2⟩
  have hu := hu_of hr
  have sc := sc_law
  obtain ⟨scr, sns, rfl, h⟩ := h
  refine ⟨_, (pss_cons (ps_set (i := 1) sc.nd rfl (.inl rfl) (pe_cal (by rfl) (pa_cons (pv 0) pa_nil)))
    (pss_cons (ps_set (i := 2) sc.nd rfl (.inl rfl) (pe_cal (by rfl) (pa_cons (pv 1) (pa_cons (pe_cal (by rfl) (pa_cons (pv 1) (pa_cons pe_int pa_nil))) pa_nil))))
    (pss_cons (ps_set (i := 3) sc.nd rfl (.inl rfl) (pe_cal (by rfl) (pa_cons (pv 1) (pa_cons (pv 2) pa_nil))))
    (pss_cons (ps_set (i := 4) sc.nd rfl (.inl rfl) (pe_cal (by rfl) (pa_cons (pv 1) (pa_cons (pe_cal (by rfl) (pa_cons (pv 1) (pa_cons (pv 2) (pa_cons pe_int pa_nil)))) (pa_cons (pv 3) pa_nil)))))
    (pss_cons (ps_set (i := 5) sc.nd rfl (.inl rfl) (pe_cal (by rfl) (pa_cons (pv 2) (pa_cons (pv 4) (pa_cons pe_int pa_nil)))))
    (pss_cons (ps_for PassesOwn.never rfl (pi_list (pe_cal (by rfl) (pa_cons (pv 1) (pa_cons (pv 2) (pa_cons (pv 4) (pa_cons (pe_cal (by rfl) (pa_cons (pv 1) (pa_cons pe_int pa_nil))) (pa_cons pe_int pa_nil))))))) (pg_name (i := 6) sc.nd rfl (.inl rfl))
    (pss_one (ps_expr (pe_met (pv 5) (pa_cons (pe_cal (by rfl) (pa_cons (pv 6) pa_nil)) pa_nil)))))
    (pss_cons (ps_set (i := 7) sc.nd rfl (.inl rfl) (pe_cal (by rfl) (pa_cons (pv 5) pa_nil)))
    (pss_cons (ps_set (i := 8) sc.nd rfl (.inl rfl) (pe_cal (by rfl) (pa_cons (pv 1) (pa_cons (pe_callB call_len_seq (by rfl) T.n_len PySem.boot_len (pa_cons (pv 2) pa_nil)) pa_nil))))
    (pss_cons (ps_set (i := 9) sc.nd rfl (.inl rfl) (pe_op op_mul (pe_cal (by rfl) (pa_cons (pv 1) (pa_cons pe_int pa_nil))) (pe_cal (by rfl) (pa_cons (pv 1) (pa_cons pe_int pa_nil)))))
    (pss_cons (ps_expr (pe_met (pv 5) (pa_cons pe_str pa_nil)))
    (pss_cons (ps_set (i := 10) sc.nd rfl (.inl rfl) (pe_cal (by rfl) (pa_cons (pv 1) (pa_cons (pe_lst (pa_cons (pe_ix ix_list (pv 2) (pv 8) (fun _ _ => rfl)) (pa_cons pe_str pa_nil))) (pa_cons pe_int pa_nil)))))
    (pss_cons (ps_set (i := 11) sc.nd rfl (.inr rfl) (pe_met (pv 5) (pa_cons (pe_ix ix_list (pv 10) pe_int (fun _ _ => rfl)) (pa_cons (pe_ix ix_list (pv 10) pe_int (fun _ _ => rfl)) (pa_cons (pv 9) pa_nil)))))
    (pss_cons (ps_set (i := 12) sc.nd rfl (.inl rfl) (pe_lst pa_nil))
    (pss_cons (ps_for PassesOwn.never rfl (pi_list (pv 7)) (pg_name (i := 13) sc.nd rfl (.inl rfl))
    (pss_one (ps_for PassesOwn.never rfl (pi_list (pe_cal (by rfl) (pa_cons (pv 9) (pa_cons pe_int pa_nil)))) (pg_name (i := 14) sc.nd rfl (.inl rfl))
    (pss_one (ps_expr (pe_bm PySem.F.plainAttrs_list PySem.F.slot_list_append PySem.F.type_list_append mt_append (pv 12) (pa_cons (pe_op op_catA (pv 13) (pe_tup (pa_cons (pe_op op_add (pe_ix ix_tup (pv 13) (pv 8) (fun _ _ => rfl)) (pv 14)) pa_nil))) pa_nil)))))))
    (pss_cons (ps_if (PW.pt (pw_or (pt_cmpR op_ne (pv 11) (pe_callB call_len_seq (by rfl) T.n_len PySem.boot_len (pa_cons (pv 4) pa_nil)) (nomark _)) (pw_or1 (pt_not (pt_val (pe_cal (by rfl) (pa_cons (pe_cal (by rfl) (pa_cons (pv 5) pa_nil)) (pa_cons (pe_callB (cr_sortD alikeR depthR (hu100 hr)) (by rfl) T.n_sorted (by decide +kernel) (pa_cons (pv 12) pa_nil)) pa_nil))))))))
    (pss_one (ps_ret pe_bl))
    pss_nil)
    (pss_cons (ps_if (pt_cmpR op_ne (pe_callB call_len_seq (by rfl) T.n_len PySem.boot_len (pa_cons (pe_lc (own := [("_law_block", 15)]) rfl sc.nd (pi_list (pe_cal (by rfl) (pa_cons (pv 5) pa_nil))) (blkOk_by (N := ["_law_script", "_law_bag_here", "_law_names_here", "_law_level_here", "_law_strikes", "_law_bench_here", "_law_plan", "_law_rows_here", "_law_k", "_law_count", "_law_pair", "_law_index", "_law_due", "_law_row_here", "_law_rise", "_law_block"]) (sc := (defScope (top 77))) (by decide +kernel)) (fun _ _ _ _ _ => (pg_name (i := 15) sc.nd rfl (.inl rfl) (.inr rfl))) (fun _ _ _ _ _ => (pts_one (pt_cmpR (op_eqDc (hu64 hr)) (pv 15) (pe_lst (pa_cons (pv 11) pa_nil)) (nomark _)))) (fun _ _ _ _ _ => (pv 15))) pa_nil)) pe_int (nomark _))
    (pss_one (ps_ret pe_bl))
    pss_nil)
    (pss_cons (ps_expr (pe_met (pv 5) (pa_cons (pe_ix ix_list (pv 10) pe_int (fun _ _ => rfl)) (pa_cons (pe_ix ix_list (pv 10) pe_int (fun _ _ => rfl)) (pa_cons (pv 9) pa_nil)))))
    (pss_cons (ps_if (PW.pt (pw_or (pt_not (pt_val (pe_cal (by rfl) (pa_cons (pe_cal (by rfl) (pa_cons (pv 5) pa_nil)) (pa_cons (pe_callB (cr_sortD alikeR depthR (hu100 hr)) (by rfl) T.n_sorted (by decide +kernel) (pa_cons (pv 12) pa_nil)) pa_nil))))) (pw_or1 (pt_cmpR (op_notInD (hu65 hr)) (pe_lst (pa_cons (pv 11) (pa_cons (pe_op op_add (pv 11) pe_int) pa_nil))) (pe_cal (by rfl) (pa_cons (pv 5) pa_nil)) (by rfl)))))
    (pss_one (ps_ret pe_bl))
    pss_nil)
    (pss_cons (ps_expr (pe_met0 (pv 5)))
    (pss_cons (ps_expr (pe_met (pv 5) (pa_cons (pe_ix ix_list (pv 10) pe_int (fun _ _ => rfl)) (pa_cons (pe_ix ix_list (pv 10) pe_int (fun _ _ => rfl)) (pa_cons (pe_op op_add (pv 9) pe_int) pa_nil)))))
    (pss_one (ps_ret (pe_and (pe_cmpR (op_eqD (hu64 hr)) (pe_cal (by rfl) (pa_cons (pv 5) pa_nil)) (pe_lst pa_nil) (nomark _)) (pe_one (pe_cmpR op_eq (pe_cal (by rfl) (pa_cons (pv 5) pa_nil)) pe_int (nomark _)))))))))))))))))))))))))), ?_⟩
  obtain ⟨hS, q⟩ := h
  refine ⟨spLawBag K, ⟨_, 1, T.g__law_bag, T.f__law_bag.kp, w__law_bag T, hr.mono (by decide)⟩, _, rfl, scr, rfl, sns, hS, fun a cl H1 _ s1 b1 => ?_⟩
  refine ⟨spNames, ⟨_, 4, T.g__law_names, T.f__law_names.kp, w__law_names T, hr.mono (by decide)⟩, _, rfl, spMany, ⟨_, 3, T.g__law_many, T.f__law_many.kp, w__law_many T, hr.mono (by decide)⟩, _, rfl, a, 5, rfl, cl, b1, by decide, by decide, fun m H2 k2 b2 m1 m5 => ?_⟩
  refine ⟨a, m, rfl, cl, b2, by omega, by omega, fun l ns H3 hl0 k3 b3 hns hnd hnm hnl => ?_⟩
  have hnl5 : ns.length ≤ 5 := by omega
  have hnl1 : 1 ≤ ns.length := by omega
  have hla := bag_ne b3 hns
  refine ⟨spLevel, ⟨_, 3, T.g__law_level, T.f__law_level.kp, w__law_level T, hr.mono (by decide)⟩, _, rfl, _, rfl, a, l, rfl, cl, ns, b3, hns, hnd, by omega, fun d lv H4 _ k4 b4 hlv hlo => ?_⟩
  have hns4 : LsT H4 l ns := k4 _ _ hla hns
  have hda : d ≠ a := fun e => by obtain ⟨_, _, _, _, _, h1, _⟩ := b4; rw [e, h1] at hlv; cases hlv
  refine ⟨spStruck, ⟨_, 3, T.g__law_struck, T.f__law_struck.kp, w__law_struck T, hr.mono (by decide)⟩, _, rfl, spPairs, ⟨_, 4, T.g__law_pairs, T.f__law_pairs.kp, w__law_pairs T, hr.mono (by decide)⟩, _, rfl, _, rfl, a, l, rfl, cl, ns, b4, hns4, hnd, hnl5, fun lp prs H5 _ k5 b5 hprs hpo hpl => ?_⟩
  have hns5 : LsT H5 l ns := k5 _ _ hla hns4
  refine ⟨_, rfl, a, lp, d, rfl, cl, ns, prs, lv, b5, hprs, hpo, hpl, k5 _ _ hda hlv, hlo, fun ls sk H6 hls0 k6 b6 hsk hsf => ?_⟩
  have hns6 : LsT H6 l ns := k6 _ _ hla hns5
  have hlsa : ls ≠ a := (b5.new hls0).1
  have SK := skOk_of hsf hpo hpl
  have hskl : sk.length ≤ 6 := by
    have : sk.length = prs.length := by rw [← hsf.1, List.length_map]
    omega
  have hnm2 := nm_ok hnm
  have hne : ns ≠ [] := by intro e; rw [e] at hnl1; simp at hnl1
  refine ⟨spLawBench T, ⟨_, 5, T.g__law_bench, T.f__law_bench.kp, w__law_bench T, hr.mono (by decide)⟩, _, rfl, _, rfl, l, ls, rfl, ns, prs, sk, hns6, hnd, hnm2, hnl5, hsk, hsf, hpo, hpl, fun b S0 ps0 H7 hb0 s7 hbn0 hst0 hps0 => ?_⟩
  have b7 := b6.same s7
  have hns7 : LsT H7 l ns := s7 _ _ hns6
  have hsk7 := hsk.same s7
  have hba : b ≠ a := (b6.new hb0).1
  refine ⟨spPlans, ⟨_, 7, T.g__law_draw_plans, T.f__law_draw_plans.kp, w__law_draw_plans T, hr.mono (by decide)⟩, _, rfl, _, rfl, _, rfl, spTake, cal_take T (hr.mono (by decide)), _, rfl, a, _, rfl, cl, b7, by decide, fun mp H8 k8 b8 mp0 mp1 => ?_⟩
  have mp1 : mp < 3 := mp1
  have nt7 := bag_ntup b7
  have hns8 : LsT H8 l ns := k8 _ _ hla hns7
  have hsk8 := hsk7.but k8 hlsa nt7
  have hbn8 := hbn0.butA b7 k8
  have hst8 := hst0.at (b7.kept k8)
  refine ⟨a, l, ls, mp, rfl, cl, ns, sk, b8, hns8, hnd, hnm2, hne, hnl5, hsk8, fun q hq => ⟨(SK.inn q hq).1, (SK.inn q hq).2.1⟩, by omega, mp0, mp1, fun lpl pls H9 _ k9 b9 hpls hpll => ?_⟩
  have hns9 : LsT H9 l ns := k9 _ _ hla hns8
  have hsk9 := hsk8.but k9 hlsa (bag_ntup b8)
  have hbn9 := hbn8.butA b8 k9
  have hst9 := hst8.at (b8.kept k9)
  obtain ⟨pr, hp1, hp2⟩ := hpls
  have hlb : ∀ {x : Addr} {xs : List V}, H9 x = some (.lst xs) → x ≠ b := fun {x xs} e z => hbn9.nlst _ (z ▸ e)
  have hlsb : ls ≠ b := by obtain ⟨_, h1, _⟩ := hsk9; exact hlb h1
  refine ⟨lpl, rfl, ⟨_, SqL.of hp1⟩, for_it (walk_list (xs := pr.map V.ref)) (fun i σ H' => (∃ a6, σ = [some (.ref scr), some (.ref a), some (.ref l), some (.ref d), some (.ref ls), some (.ref b), a6, none, none, none, none, none, none, none, none, none]) ∧ But b H9 H' ∧ ∃ S ps fc, BnAt T H' b S ps [] ∧ StAt T H' S ⟨ns, sk, fc⟩ ∧ ps.length ≤ 20 + i ∧ fc.length = i ∧ ∀ q ∈ fc, ∀ z ∈ q.2.names, z ∈ ns)
    ⟨⟨_, rfl⟩, same_but same_refl, S0, ps0, [], hbn9, hst9, hps0, rfl, by simp⟩ (fun _ _ _ _ h => SqL.of (h.2.1 _ _ (hlb hp1) hp1)) ?_ ?_⟩
  · rintro i x σ H11 H10 hi ⟨⟨a6, rfl⟩, k10, S, ps, fc, hbn, hst, hps, hfc, hfn⟩ ⟨rfl, hx⟩
    obtain ⟨t, et, rfl⟩ := map_get hx
    obtain ⟨⟨fx, bd⟩, ebd, hpf, hfo, hbun⟩ := paired_get hp2 et
    have hi2 : i < 2 := by rw [List.length_map, Paired.length hp2] at hi; omega
    obtain ⟨dxb, Pp, Fu, g1, _⟩ := id hbn
    refine ⟨_, rfl, b, _, dxb, _, _, rfl, g1, rfl, ⟨T.cl_Bench, _, 4, T.m_Bench_tell, w_Bench_tell T, hr.mono (by decide)⟩, ?_⟩
    refine ⟨spMake T, ⟨_, 7, T.g__law_make, T.f__law_make.kp, w__law_make T, hr.mono (by decide)⟩, _, rfl, t, rfl, fx, bd, hpf.at (hbn9.but k10), hfo, fun z hz => hnm2 z (hbun.inn z hz), fun f x' G sg hfa hxn => ?_⟩
    refine ⟨b, f, rfl, S, ps, [], ⟨ns, sk, fc⟩, x', hbn.same sg, hst.at (same_kept sg), hfa, fun z hz => hbun.inn z (hxn z hz), by show sk.length ≤ 20; omega, together_of hbun hxn, by omega, by show fc.length < 12; omega, fun S' r tx H12 k12 hb12 hs12 _ => ⟨⟨_, rfl⟩, (k10.same sg).trans k12, S', _, _, hb12, hs12, by simp; omega, by simp [hfc], fun y hy => ?_⟩⟩
    rcases List.mem_append.mp hy with h | h
    · exact hfn y h
    · simp at h; subst h; exact fun z hz => hbun.inn z (hxn z hz)
  rintro σ H10 ⟨⟨a6, rfl⟩, k10, S1, ps1, fc, hbn10, hst10, hps1, hfc, hfn⟩
  have hfc2 : fc.length ≤ 2 := by rw [hfc, List.length_map, Paired.length hp2]; exact hpll
  have hps1 : ps1.length ≤ 22 := by rw [List.length_map, Paired.length hp2] at hps1; omega
  have fit0 := fit_of (fc := fc) SK hnd hnm2 hne (by omega) (by omega) hfn
  have b10 := b9.but k10 hbn9.nlst
  have hns10 : LsT H10 l ns := k10 _ _ (hlb hns9) hns9
  have hsk10 := hsk9.but k10 hlsb hbn9.ntup
  refine ⟨spPitches T, ⟨_, 16, T.g__law_pitches, T.f__law_pitches.kp, w__law_pitches T, hr⟩, _, rfl, b, rfl, S1, ps1, [], _, hbn10, hst10, fit0, fun lr tr H11 _ s11 hlr1 htr htrl => ?_⟩
  have W11 : Wo H11 a cl l ls lr ns sk (fitsF ⟨ns, sk, fc⟩) := ⟨b10.same s11, s11 _ _ hns10, hsk10.same s11, ⟨tr, hlr1, htr⟩⟩
  have hRl : (fitsF ⟨ns, sk, fc⟩).length ≤ 512 := by rw [← Paired.length htr]; exact htrl
  have hRw : ∀ row ∈ fitsF ⟨ns, sk, fc⟩, row.length = ns.length := fits_len
  have hbn11 := hbn10.same s11
  have hst11 := hst10.at (same_kept s11)
  clear hbn10 hst10 b10 hns10 hsk10 hlr1 htr
  refine ⟨spTake, cal_take T (hr.mono (by decide)), _, rfl, _, rfl, l, _, rfl, .inl (SqL.of W11.nms), a, _, rfl, cl, W11.bag, by rw [List.length_map]; omega, fun kx H12 k12 b12 kx0 kx1 => ?_⟩
  have kx2 : kx < ns.length := by rw [List.length_map] at kx1; split at kx1 <;> omega
  obtain ⟨ki, rfl⟩ : ∃ ki : Nat, kx = ki := ⟨kx.toNat, by omega⟩
  obtain ⟨nk, hki⟩ : ∃ z, ns[ki]? = some z := ⟨_, List.getElem?_eq_getElem (by omega)⟩
  have hnk := List.mem_of_getElem? hki
  have W12 := W11.butA k12 b12
  have hbn12 := hbn11.butA W11.bag k12
  have hst12 := hst11.at (W11.bag.kept k12)
  refine ⟨spTake, cal_take T (hr.mono (by decide)), _, rfl, a, _, rfl, cl, W12.bag, by decide, fun c1 H13 k13 b13 c10 c11 => ?_⟩
  have W13 := W12.butA k13 b13
  have hbn13 := hbn12.butA W12.bag k13
  have hst13 := hst12.at (W12.bag.kept k13)
  refine ⟨spTake, cal_take T (hr.mono (by decide)), _, rfl, a, _, rfl, cl, W13.bag, by decide, fun c2 H14 k14 b14 c20 c21 => ?_⟩
  have W14 := W13.butA k14 b14
  have hbn14 := hbn13.butA W13.bag k14
  have hst14 := hst13.at (W13.bag.kept k14)
  have c11 : c1 < 3 := c11
  have c21 : c2 < 400000000 := c21
  refine ⟨_, _, rfl, rfl, .inl ⟨by omega, by omega⟩, ?_⟩
  have hc0 : 0 ≤ c1 * c2 ∧ c1 * c2 ≤ 800000000 := by
    have : c1 = 0 ∨ c1 = 1 ∨ c1 = 2 := by omega
    rcases this with e | e | e <;> subst e <;> omega
  obtain ⟨c, hc⟩ : ∃ c, c = c1 * c2 := ⟨_, rfl⟩
  rw [← hc] at hc0
  have hzn : zy ∉ ns := fun h => (hnm zy h).zy rfl
  have hnz : nk ≠ zy := fun e => hzn (e ▸ hnk)
  obtain ⟨dxb, Pp, Fu, g14, _⟩ := id hbn14
  refine ⟨_, rfl, b, _, dxb, _, _, rfl, g14, rfl, ⟨T.cl_Bench, _, 4, T.m_Bench_add, w_Bench_add T (z := zy), hr.mono (by decide)⟩, [.ref b], [.str zy], rfl, rfl, (by show 1 ≤ sizeLine; decide), fun p hp => ?_⟩
  have sp := same_new (o := .tup [.str zy]) hp
  refine ⟨b, p, rfl, S1, ps1, [], ⟨ns, sk, fc⟩, hbn14.same sp, hst14.at (same_kept sp), by omega, upd_same, zy_ok, hzn, by show ns.length < 10; omega, fun S2 r15 tx15 H15 k15 hbn15 hst15 _ => ?_⟩
  have W15 := (W14.same sp).butB k15 (hbn14.same sp)
  refine ⟨spSome, cal_some T (hr.mono (by decide)), _, rfl, _, rfl, _, rfl, l, _, _, .str nk, rfl, rfl, SqL.of W15.nms, atI_nat (by simp [hki]), (by show 2 ≤ sizeLine; decide), fun l2 hl2 => ?_⟩
  have s2 := same_new (o := .lst [.str nk, .str "zyzyzyzyzyzy"]) hl2
  have W15b := W15.same s2
  refine ⟨a, l2, 2, rfl, cl, [nk, zy], W15b.bag, upd_same, (by show 2 ≤ 100; decide), by decide, fun pp fs rest H16 hpp k16 b16 hf hperm hfl => ?_⟩
  have W16 := W15b.butA k16 b16
  have hbn16 := (hbn15.same s2).butA W15b.bag k16
  have hst16 := (hst15.at (same_kept s2)).at (W15b.bag.kept k16)
  have hf2 : fs.length = 2 := hfl
  obtain ⟨x, y, rfl⟩ := len2 hf2
  have hrest : rest = [] := by
    have := hperm.length_eq
    rw [List.length_append] at this
    have this : 2 + rest.length = 2 := this
    exact List.eq_nil_of_length_eq_zero (by omega)
  subst hrest
  rw [List.append_nil] at hperm
  have hxy : (x = nk ∧ y = zy) ∨ (x = zy ∧ y = nk) := by
    have h1 := hperm.mem_iff (a := x)
    have h2 := hperm.mem_iff (a := y)
    have h3 := hperm.nodup_iff
    simp at h1 h2 h3
    have h3 := h3.mpr hnz
    rcases h1 with h1 | h1 <;> rcases h2 with h2 | h2
    · exact absurd (h1.trans h2.symm) h3
    · exact .inl ⟨h1, h2⟩
    · exact .inr ⟨h1, h2⟩
    · exact absurd (h1.trans h2.symm) h3
  clear hperm hfl hf2
  have hxm : x ∈ ns ++ [zy] ∧ y ∈ ns ++ [zy] ∧ x ≠ y ∧ NameOk x ∧ NameOk y := by
    have m1 : nk ∈ ns ++ [zy] := List.mem_append_left _ hnk
    have m2 : zy ∈ ns ++ [zy] := by simp
    rcases hxy with ⟨rfl, rfl⟩ | ⟨rfl, rfl⟩
    · exact ⟨m1, m2, hnz, hnm2 _ hnk, zy_ok⟩
    · exact ⟨m2, m1, hnz.symm, zy_ok, hnm2 _ hnk⟩
  have hlen15 : (ps1 ++ [V.ref r15]).length ≤ 23 := by simp; omega
  generalize ps1 ++ [V.ref r15] = ps2 at *
  obtain ⟨dxc, Pc, Fc, g16, _⟩ := id hbn16
  refine ⟨_, rfl, b, _, dxc, _, _, rfl, g16, rfl, ⟨T.cl_Bench, _, 4, T.m_Bench_strike, w_Bench_strike T, hr.mono (by decide)⟩, _, rfl, pp, _, _, .str x, rfl, rfl, SqL.of hf, rfl, _, rfl, pp, _, _, .str y, rfl, rfl, SqL.of hf, rfl, _, rfl, b, x, y, c, by rw [hc], S2, ps2, [], ⟨ns ++ [zy], sk, fc⟩, hbn16, hst16, by omega, hxm.1, hxm.2.1, hxm.2.2.1, hxm.2.2.2.1, hxm.2.2.2.2, hc0.1, by unfold big; omega, by show sk.length < 20; omega, fun S3 r17 tx17 H17 k17 hbn17 hst17 hr17 => ?_⟩
  have W17 := W16.butB k17 hbn16
  have hf17 : LsT H17 pp [x, y] := k17 _ _ (fun z => hbn16.nlst _ (z ▸ hf)) hf
  have hfit1 : New [(x, y, c)] zy nk := fun q hq => by
    simp at hq; subst hq
    refine ⟨?_, hc0.1, by unfold big; show c ≤ _; omega⟩
    rcases hxy with ⟨a, b⟩ | ⟨a, b⟩
    · exact .inl ⟨a, b⟩
    · exact .inr ⟨a, b⟩
  have SK1 := skOk_new SK hfit1 hnk hzn (by simp; omega)
  have hfk1 : (ns ++ [zy]).Nodup := by
    rw [List.nodup_append]
    exact ⟨hnd, by simp, fun a ha b hb => by simp at hb; rw [hb]; exact fun e => hzn (e ▸ ha)⟩
  have hfn1 : ∀ z ∈ ns ++ [zy], NameOk z := fun z hz => by
    rcases List.mem_append.mp hz with h | h
    · exact hnm2 z h
    · simp at h; rw [h]; exact zy_ok
  have hfne : ns ++ [zy] ≠ [] := by simp
  have hfl1 : (ns ++ [zy]).length ≤ 9 := by rw [List.length_append]; simp; omega
  have hfcn : ∀ q ∈ fc, ∀ z ∈ q.2.names, z ∈ ns ++ [zy] := fun q hq z hz => List.mem_append_left _ (hfn q hq z hz)
  have fit1 := fit_of (fc := fc) SK1 hfk1 hfn1 hfne hfl1 (by omega) hfcn
  have hfits1 : fitsF ⟨ns ++ [zy], sk ++ [(x, y, c)], fc⟩ = sortRows ((fitsF ⟨ns, sk, fc⟩).flatMap (extR ki (marks c))) := fits_new (nw_of SK hfit1 hnk hzn (by simp)) SK hfn hki (marks c) fun l1 => choices_same (k := nk) hc0.1 0
  obtain ⟨tr17, hlr17, htr17⟩ := W17.rws
  generalize hRR : fitsF ⟨ns, sk, fc⟩ = R at *
  have htrl17 := Paired.length htr17
  refine ⟨Nat.zero_le _, fun D hD => ?_⟩
  have hDlr : lr ≠ D := ne_of_none hlr17 hD
  have sD := same_new (o := .lst []) hD
  refine ⟨_, rfl, lr, rfl, ⟨_, SqL.of (sD _ _ hlr17)⟩, for_it (walk_list (xs := tr17.map V.ref)) (fun i σ H' => (∃ a13 a14, σ = [some (.ref scr), some (.ref a), some (.ref l), some (.ref d), some (.ref ls), some (.ref b), a6, some (.ref lr), some (.int (ki : Int)), some (.int c), some (.ref pp), some (.int (sk.length : Int)), some (.ref D), a13, a14, none]) ∧ Same H17 H' ∧ RowsAt H' D ((R.take i).flatMap (extR ki (marks c))))
    ⟨⟨_, _, by rw [hc]; rfl⟩, sD, [], upd_same, .nil⟩ (fun _ _ _ _ h => SqL.of (h.2.1 _ _ hlr17)) ?_ ?_⟩
  · rintro i z σ H19 H18 hi ⟨⟨a13, a14, rfl⟩, s18, hrs⟩ ⟨rfl, hz⟩
    obtain ⟨t, et, rfl⟩ := map_get hz
    obtain ⟨row, erow, htt⟩ := paired_get htr17 et
    have hrow := hRw row (List.mem_of_getElem? erow)
    have hi2 : i < 512 := by rw [List.length_map] at hi; omega
    obtain ⟨v, hv⟩ : ∃ v, row[ki]? = some v := ⟨_, List.getElem?_eq_getElem (by omega)⟩
    have hgd : row.getD ki 0 = v := by rw [List.getD_eq_getElem?_getD, hv]; rfl
    have enx : (R.take (i + 1)).flatMap (extR ki (marks c)) = (R.take i).flatMap (extR ki (marks c)) ++ extR ki (marks c) row := by rw [List.take_add_one, erow, List.flatMap_append]; simp
    refine ⟨spRises, ⟨_, 1, T.g__law_rises, T.f__law_rises.kp, w__law_rises T, hr.mono (by decide)⟩, _, rfl, c, rfl, hc0.1, fun pm Hm sm hpm => ?_⟩
    have hDm : ∃ rs : List Addr, Hm D = some (.lst (rs.map V.ref)) := by
      obtain ⟨rs, h1, _⟩ := hrs
      exact ⟨rs, sm _ _ h1⟩
    have hpmD : pm ≠ D := fun e => by
      obtain ⟨rs, h1⟩ := hDm
      rw [e, h1] at hpm
      unfold marks at hpm
      cases rs with
      | nil => split at hpm <;> cases hpm
      | cons x r => split at hpm <;> cases hpm
    have hbase : ((R.take i).flatMap (extR ki (marks c))).length ≤ 1024 := by
      refine Nat.le_trans ext_len ?_
      rw [List.length_take]; omega
    refine ⟨pm, rfl, ⟨_, SqL.of hpm⟩, for_it (walk_list (xs := (marks c).map V.int)) (fun j σ H' => (∃ a14, σ = [some (.ref scr), some (.ref a), some (.ref l), some (.ref d), some (.ref ls), some (.ref b), a6, some (.ref lr), some (.int (ki : Int)), some (.int c), some (.ref pp), some (.int (sk.length : Int)), some (.ref D), some (.ref t), a14, none]) ∧ But D Hm H' ∧ RowsAt H' D ((R.take i).flatMap (extR ki (marks c)) ++ ((marks c).take j).map fun m => row ++ [row.getD ki 0 + m]))
      ⟨⟨_, rfl⟩, same_but same_refl, by simpa using hrs.same sm⟩ (fun _ _ _ _ h => SqL.of (h.2.1 _ _ hpmD hpm)) ?_ ?_⟩
    · rintro j z σ H21 H20 hj ⟨⟨a14, rfl⟩, k20, rs, hr1, hr2⟩ ⟨rfl, hz⟩
      obtain ⟨m, em, rfl⟩ := map_get hz
      have htD : t ≠ D := by
        obtain ⟨rs, h1⟩ := hDm
        exact ne_of (sm _ _ (s18 _ _ htt)) h1 (by intro z; cases z)
      have ht20 : H20 t = some (.tup (row.map V.int)) := k20 _ _ htD (sm _ _ (s18 _ _ htt))
      have hj2 : j < 2 := by rw [List.length_map] at hj; have := marks_len c; omega
      refine ⟨_, rfl, .inl ⟨rfl, _, SqL.of hr1⟩, _, rfl, _, rfl, _, rfl, t, _, _, .int v, rfl, rfl, SqT.of ht20, atI_nat (by simp [hv]), _, rfl, _, _, rfl, rfl, (by show 1 ≤ sizeLine; decide), fun p1 hp1 => ?_⟩
      have s1 := same_new (o := .tup [.int (v + m)]) hp1
      refine catA (SqT.of (s1 _ _ ht20)) (SqT.of upd_same) (s1 _ _ ht20) upd_same (by simp; omega) fun p2 G s2 h2 => ?_
      have s12 := same_trans s1 s2
      refine ⟨D, _, _, rfl, rfl, s12 _ _ hr1, ?_, ⟨_, rfl⟩, (k20.same s12).put, ?_⟩
      · rw [List.length_map, Paired.length hr2, List.length_append, List.length_map, List.length_take]
        exact szl (by omega)
      · have h3 : G p2 = some (.tup (fRow (row ++ [row.getD ki 0 + m]))) := by rw [h2, hgd]; simp
        have := LtAt.push (f := fRow) (x := row ++ [row.getD ki 0 + m]) (s12 _ _ hr1) (paired_imp (fun _ _ e => s12 _ _ e) hr2) h3
        rw [List.take_add_one, em, List.map_append, ← List.append_assoc]
        exact this
    · rintro σ H20 ⟨⟨a14, rfl⟩, k20, hrs20⟩
      rw [List.length_map, List.take_length] at hrs20
      refine ⟨⟨_, _, rfl⟩, fun x u e => k20 _ _ (ne_of_none e hD) (sm _ _ (s18 _ _ e)), ?_⟩
      rw [enx]
      exact hrs20
  rintro σ H18 ⟨⟨a13, a14, rfl⟩, s18, hdue⟩
  rw [List.length_map, htrl17, List.take_length] at hdue
  have hdl : (R.flatMap (extR ki (marks c))).length ≤ 1024 := by
    refine Nat.le_trans ext_len ?_
    omega
  have hdne : ∀ r ∈ R.flatMap (extR ki (marks c)), r ≠ [] ∧ r.length ≤ 1000 := fun r hr' => by
    obtain ⟨row, hm, h⟩ := List.mem_flatMap.mp hr'
    obtain ⟨m, _, rfl⟩ := List.mem_map.mp h
    have := hRw row hm
    exact ⟨by simp, by simp; omega⟩
  have hsrl : ∀ r ∈ sortRows (R.flatMap (extR ki (marks c))), r.length ≤ 1000 := fun r hr' => (hdne r ((sortRows_perm _).mem_iff.mp hr')).2
  have hsrl2 : (sortRows (R.flatMap (extR ki (marks c)))).length ≤ 10000 := by rw [(sortRows_perm _).length_eq]; omega
  generalize hdd : R.flatMap (extR ki (marks c)) = due at *
  have W18 := W17.same s18
  have hbn18 := hbn17.same s18
  have hst18 := hst17.at (same_kept s18)
  have hr18 := s18 _ _ hr17
  have hf18 := s18 _ _ hf17
  obtain ⟨rs18, hls18, hls18l⟩ := W18.sks.len
  refine ⟨_, rfl, _, rfl, ls, _, rfl, .inl (SqL.of hls18), rfl, _, rfl, ifnN (by rw [List.length_map, hls18l]) ?_⟩
  refine ⟨spRows, ⟨_, 3, T.g__law_rows, T.f__law_rows.kp, w__law_rows T, hr.mono (by decide)⟩, spPitches T, ⟨_, 16, T.g__law_pitches, T.f__law_pitches.kp, w__law_pitches T, hr⟩, _, rfl, b, rfl, S3, _, [], _, hbn18, hst18, fit1, fun l1 t1 H20 _ s20 hl1 ht1 _ => ?_⟩
  refine ⟨_, rfl, at_nil ?_⟩
  refine sort_rows (hdue.same s20) (fun r hr' => (hdne r hr').1) (by omega) fun p H21 s21 hp => ?_
  have hrows1 : RowsAt H20 l1 (sortRows due) := ⟨t1, hl1, hfits1 ▸ ht1⟩
  refine ⟨l1, p, rfl, sortRows due, hrows1.same s21, hp, hsrl, hsrl2, fun H22 s22 => ⟨true, rfl, iteF ?_⟩⟩
  have s1822 := same_trans s20 (same_trans s21 s22)
  have W22 := W18.same s1822
  have hbn22 := hbn18.same s1822
  have hst22 := hst18.at (same_kept s1822)
  have hr22 := s1822 _ _ hr18
  have hf22 := s1822 _ _ hf18
  have hdue22 := hdue.same s1822
  -- the new strike is a block of its own
  have Z1 := zs_one SK hfit1 hnk hzn
  have hone := one_block Z1 (skIn_of SK1) hnk hzn
  refine ⟨spBlocks T, ⟨_, 14, T.g_blocks, T.f_blocks.kp, w_blocks T, hr.mono (by decide)⟩, _, rfl, b, rfl, S3, _, [], _, hbn22, hst22, skIn_of SK1, by show (ns ++ [zy]).length ≤ 10; omega, SK1.len, fun lb bs H23 s23 hlli hperm hbl => ?_⟩
  obtain ⟨rb, hb1, hb2⟩ := hlli
  have hcnt : (bs.filter fun x => decide (x = [(sk.length : Int)])).length = 1 := by
    rw [(hperm.filter _).length_eq]; exact hone
  refine ⟨lb, rfl, ⟨_, SqL.of hb1⟩, fun DB hDB => ?_⟩
  refine lc_it (walk_list (xs := rb.map V.ref)) (fun i H' => Same H23 H' ∧ ∃ cs : List V, H' DB = some (.lst cs) ∧ cs.length = ((bs.take i).filter fun x => decide (x = [(sk.length : Int)])).length) ⟨same_new hDB, [], upd_same, rfl⟩ (fun _ _ _ h => SqL.of (h.1 _ _ hb1)) ?_ ?_
  · rintro i z H25 H24 hi ⟨s24, cs, hcs, hcl⟩ ⟨rfl, hz⟩
    obtain ⟨r, er, rfl⟩ := map_get hz
    obtain ⟨bk, ebk, hbk⟩ := paired_get hb2 er
    have hbk24 := s24 _ _ hbk
    have etk := filter_take (p := fun x => decide (x = [(sk.length : Int)])) ebk
    have hi10 : i < 10 := by rw [List.length_map, Paired.length hb2] at hi; omega
    have hcl2 : cs.length ≤ 10 := by
      rw [hcl]
      refine Nat.le_trans (List.length_filter_le ..) ?_
      rw [List.length_take]; omega
    refine ⟨rfl, _, rfl, _, rfl, (by show 1 ≤ sizeLine; decide), fun p hp => ?_⟩
    have sp := same_new (o := .lst [.int (sk.length : Int)]) hp
    refine ⟨.list (bk.map .int), .list ([(sk.length : Int)].map .int), .lst (SqL.of (sp _ _ hbk24)) (dp_ints _), .lst (SqL.of (xs := [(sk.length : Int)].map V.int) upd_same) (dp_ints _), shaped_ints _, shaped_ints _, _, rfl, ?_⟩
    rw [eqv_ints]
    have sn := same_trans s24 sp
    have hcs2 := sp _ _ hcs
    refine ifD (fun e => ?_) (fun e => ?_)
    · refine ⟨_, rfl, _, hcs2, szl (by omega), same_mut sn hDB, cs ++ [.ref r], upd_same, ?_⟩
      rw [etk, if_pos (by simpa using e), List.length_append, List.length_append, hcl]; rfl
    · refine ⟨sn, cs, hcs2, ?_⟩
      rw [etk, if_neg (by simpa using e), List.append_nil, hcl]
  rintro H24 ⟨s24, cs, hcs, hcl⟩
  rw [List.length_map, Paired.length hb2, List.take_length, hcnt] at hcl
  refine ⟨DB, _, rfl, .inl (SqL.of hcs), rfl, _, rfl, ifnN (by rw [hcl]; rfl) ?_⟩
  have s2224 := same_trans s23 s24
  have hbn24 := hbn22.same s2224
  have hst24 := hst22.at (same_kept s2224)
  have hf24 := s2224 _ _ hf22
  have W24 := W22.same s2224
  have hdue24 := hdue22.same s2224
  have hr24 := s2224 _ _ hr22
  -- struck once more
  obtain ⟨dxd, Pd, Fd, g24, _⟩ := id hbn24
  have hlen3 : (ps2 ++ [V.ref r17]).length ≤ 24 := by simp; omega
  generalize ps2 ++ [V.ref r17] = ps3 at *
  refine ⟨_, rfl, b, _, dxd, _, _, rfl, g24, rfl, ⟨T.cl_Bench, _, 4, T.m_Bench_strike, w_Bench_strike T, hr.mono (by decide)⟩, _, rfl, pp, _, _, .str y, rfl, rfl, SqL.of hf24, rfl, _, rfl, pp, _, _, .str x, rfl, rfl, SqL.of hf24, rfl, _, rfl, b, y, x, c, rfl, S3, ps3, [], ⟨ns ++ [zy], sk ++ [(x, y, c)], fc⟩, hbn24, hst24, by omega, hxm.2.1, hxm.1, hxm.2.2.1.symm, hxm.2.2.2.2, hxm.2.2.2.1, hc0.1, by unfold big; omega, by show (sk ++ [(x, y, c)]).length < 20; simp; omega, fun S4 r25 tx25 H25 k25 hbn25 hst25 hr25 => ?_⟩
  have hfit2 : New [(x, y, c), (y, x, c)] zy nk := fun q hq => by
    have h1 := hfit1 (x, y, c) (by simp)
    simp at hq
    rcases hq with rfl | rfl
    · exact h1
    · exact ⟨h1.1.elim (fun h => .inr ⟨h.2, h.1⟩) (fun h => .inl ⟨h.2, h.1⟩), h1.2⟩
  have SK2 := skOk_new SK hfit2 hnk hzn (by simp; omega)
  have fit2 := fit_of (fc := fc) SK2 hfk1 hfn1 hfne hfl1 (by omega) hfcn
  have hfits2 : fitsF ⟨ns ++ [zy], sk ++ [(x, y, c), (y, x, c)], fc⟩ = sortRows due := by
    have := fits_new (fc := fc) (nw_of SK hfit2 hnk hzn (by simp)) SK hfn hki (marks c) fun l1 => choices_same (k := nk) hc0.1 1
    rw [hRR, hdd] at this
    exact this
  have est2 : (sk ++ [(x, y, c)]) ++ [(y, x, c)] = sk ++ [(x, y, c), (y, x, c)] := by simp
  have hst25 : StAt T H25 S4 ⟨ns ++ [zy], sk ++ [(x, y, c), (y, x, c)], fc⟩ := est2 ▸ hst25
  have hDb : D ≠ b := by obtain ⟨_, h1, _⟩ := hdue24; exact fun z => hbn24.nlst _ (z ▸ h1)
  have hdue25 : RowsAt H25 D due := LtAt.but (f := fRow) hdue24 k25 hDb hbn24.ntup
  have hst25b := hst24.at (hbn24.but k25)
  have hf25 : LsT H25 pp [x, y] := k25 _ _ (fun z => hbn24.nlst _ (z ▸ hf24)) hf24
  refine ⟨spRows, ⟨_, 3, T.g__law_rows, T.f__law_rows.kp, w__law_rows T, hr.mono (by decide)⟩, spPitches T, ⟨_, 16, T.g__law_pitches, T.f__law_pitches.kp, w__law_pitches T, hr⟩, _, rfl, b, rfl, S4, _, [], _, hbn25, hst25, fit2, fun l2 t2 H26 _ s26 hl2 ht2 _ => ?_⟩
  refine ⟨_, rfl, at_nil ?_⟩
  refine sort_rows (hdue25.same s26) (fun r hr' => (hdne r hr').1) (by omega) fun p2 H27 s27 hp2 => ?_
  have hrows2 : RowsAt H26 l2 (sortRows due) := ⟨t2, hl2, hfits2 ▸ ht2⟩
  refine ⟨l2, p2, rfl, sortRows due, hrows2.same s27, hp2, hsrl, hsrl2, fun H28 s28 => ⟨true, rfl, iteF ?_⟩⟩
  have s2528 := same_trans s26 (same_trans s27 s28)
  -- the two strikes are one block
  have Z2 := zs_two SK hfit2 hnk hzn
  have htwo := two_block Z2 (skIn_of SK2) hnk hzn
  refine ⟨_, rfl, _, rfl, _, _, rfl, rfl, (by show 2 ≤ sizeLine; decide), fun p3 hp3 => ?_⟩
  have s29 := same_new (o := .lst [.int (sk.length : Int), .int ((sk.length : Int) + 1)]) hp3
  have hp29 : upd H28 p3 (.lst [.int (sk.length : Int), .int ((sk.length : Int) + 1)]) p3 = some (.lst ([(sk.length : Int), (sk.length : Int) + 1].map V.int)) := upd_same
  have s2529 := same_trans s2528 s29
  refine ⟨spBlocks T, ⟨_, 14, T.g_blocks, T.f_blocks.kp, w_blocks T, hr.mono (by decide)⟩, _, rfl, b, rfl, S4, _, [], _, hbn25.same s2529, hst25.at (same_kept s2529), skIn_of SK2, by show (ns ++ [zy]).length ≤ 10; omega, SK2.len, fun lb2 bs2 H30 s30 hlli2 hperm2 hbl2 => ?_⟩
  obtain ⟨rb2, hb21, hb22⟩ := hlli2
  refine ⟨.list ([(sk.length : Int), (sk.length : Int) + 1].map .int), bs2.map encL, .lst (SqL.of (s30 _ _ hp29)) (dp_ints _), .lst (SqL.of hb21) (dp_lli hb22), shaped_ints _, shaped_lli _, _, rfl, ?_⟩
  rw [any_lli (hperm2.mem_iff.mpr htwo)]
  refine iteF ?_
  have s2530 := same_trans s2529 s30
  have hbn30 := hbn25.same s2530
  have hst30 := hst25b.at (same_kept s2530)
  have hr30 := s2530 _ _ hr25
  have hf30 := s2530 _ _ hf25
  -- undone, struck with the next count
  obtain ⟨dxe, Pe, Fe, g30, _⟩ := id hbn30
  refine ⟨_, rfl, b, _, dxe, _, spUndo T, rfl, g30, rfl, ⟨T.cl_Bench, _, 2, T.m_Bench_undo, w_Bench_undo T, hr.mono (by decide)⟩, b, rfl, S4, S3, ps3, [], r25, tx25, hbn30, hr30, by omega, by simp, fun fs' H31 k31 hbn31 => ?_⟩
  have hst31 := hst30.at (hbn30.but k31)
  have hf31 : LsT H31 pp [x, y] := k31 _ _ (fun z => hbn30.nlst _ (z ▸ hf30)) hf30
  obtain ⟨dxf, Pf, Ff, g31, _⟩ := id hbn31
  refine ⟨_, rfl, b, _, dxf, _, _, rfl, g31, rfl, ⟨T.cl_Bench, _, 4, T.m_Bench_strike, w_Bench_strike T, hr.mono (by decide)⟩, _, rfl, pp, _, _, .str x, rfl, rfl, SqL.of hf31, rfl, _, rfl, pp, _, _, .str y, rfl, rfl, SqL.of hf31, rfl, _, rfl, _, _, rfl, rfl, b, x, y, c + 1, rfl, S3, ps3, fs', ⟨ns ++ [zy], sk ++ [(x, y, c)], fc⟩, hbn31, hst31, by omega, hxm.1, hxm.2.1, hxm.2.2.1, hxm.2.2.2.1, hxm.2.2.2.2, by omega, by unfold big; omega, by show (sk ++ [(x, y, c)]).length < 20; simp; omega, fun S5 r32 tx32 H32 k32 hbn32 hst32 _ => ?_⟩
  have hfit3 : New [(x, y, c), (x, y, c + 1)] zy nk := fun q hq => by
    have h1 := hfit1 (x, y, c) (by simp)
    simp at hq
    rcases hq with rfl | rfl
    · exact h1
    · exact ⟨h1.1, by show 0 ≤ c + 1; omega, by unfold big; show c + 1 ≤ _; omega⟩
  have SK3 := skOk_new SK hfit3 hnk hzn (by simp; omega)
  have fit3 := fit_of (fc := fc) SK3 hfk1 hfn1 hfne hfl1 (by omega) hfcn
  have hfits3 : fitsF ⟨ns ++ [zy], sk ++ [(x, y, c), (x, y, c + 1)], fc⟩ = [] := by
    have := fits_new (fc := fc) (nw_of SK hfit3 hnk hzn (by simp)) SK hfn hki [] fun l1 => choices_none (k := nk) (c := c)
    rw [ext_nil, sortRows_nil] at this
    exact this
  have est3 : (sk ++ [(x, y, c)]) ++ [(x, y, c + 1)] = sk ++ [(x, y, c), (x, y, c + 1)] := by simp
  have hst32 : StAt T H32 S5 ⟨ns ++ [zy], sk ++ [(x, y, c), (x, y, c + 1)], fc⟩ := est3 ▸ hst32
  refine ⟨spPitches T, ⟨_, 16, T.g__law_pitches, T.f__law_pitches.kp, w__law_pitches T, hr⟩, _, rfl, b, rfl, S5, _, [], _, hbn32, hst32, fit3, fun l3 t3 H33 _ s33 hl3 ht3 _ => ?_⟩
  rw [hfits3] at ht3
  have ht3 : t3 = [] := by
    have := Paired.length ht3
    exact List.eq_nil_of_length_eq_zero this
  subst ht3
  refine ⟨Nat.zero_le _, fun p4 hp4 => ?_⟩
  have s34 := same_new (o := .lst []) hp4
  refine ⟨.list [], .list [], .lst (SqL.of (xs := []) (s34 _ _ hl3)) .nil, .lst (SqL.of (xs := []) upd_same) .nil, shaped_ints [], shaped_ints [], true, by rw [show PyData.eqv (.list []) (.list []) = true from by rw [PyData.eqv]; simp [PyData.eqvAll]], iteT ?_⟩
  refine ⟨spCount T, ⟨_, 14, T.g_count_fittings, T.f_count_fittings.kp, w_count_fittings T, hr.mono (by decide)⟩, _, rfl, b, rfl, S5, _, [], _, hbn32.same (same_trans s33 s34), hst32.at (same_kept (same_trans s33 s34)), fit3, fun H35 s35 => ⟨rfl, ?_⟩⟩
  rw [hfits3]
  exact q _
end
end Fb
set_option maxHeartbeats 4000000
/-! Forkbeats: the text from the head's facts; the law. Printed by genhead.py. -/
namespace Fb
open PySem PySem.Spec PyProof.Rows L2
section
variable {K : PySem.W.Frag} {h : Heap} {mg : Str → Option Value} {P : Program}
theorem b2 {a b : Bool} (h : (a && b) = true) : a = true ∧ b = true := by simpa using h
theorem SaysK.fact (c : SaysK K) (i j : Nat) {l : List (PySem.W.Frag → Bool)} {f : PySem.W.Frag → Bool} (h1 : facts[i]? = some l := by rfl) (h2 : l[j]? = some f := by rfl) : f K = true := by
  have c1 : ((facts.all fun l => l.all fun f => f K) && defs.all fun l => l.all fun d => d.ok K) = true := congrArg (fun z : Ob => z.1) c
  have c2 := List.all_eq_true.mp (b2 c1).1 l (List.mem_of_getElem? h1)
  exact List.all_eq_true.mp c2 f (List.mem_of_getElem? h2)
theorem SaysK.def_ (c : SaysK K) {d : Df} (i j : Nat) {l : List Df} (h1 : defs[i]? = some l := by rfl) (h2 : l[j]? = some d := by rfl) : d.obs K = d.val ∧ d.ok K = true := by
  have c1 : ((facts.all fun l => l.all fun f => f K) && defs.all fun l => l.all fun d => d.ok K) = true := congrArg (fun z : Ob => z.1) c
  have c2 := List.all_eq_true.mp (b2 c1).2 l (List.mem_of_getElem? h1)
  refine ⟨?_, List.all_eq_true.mp c2 d (List.mem_of_getElem? h2)⟩
  have e : (defs.map fun l => l.map fun d => d.obs K) = defs.map fun l => l.map Df.val := congrArg (fun z : Ob => z.2) c
  have e2 : (defs.map fun l => l.map fun d => d.obs K)[i]? = (defs.map fun l => l.map Df.val)[i]? := by rw [e]
  rw [List.getElem?_map, List.getElem?_map, h1] at e2
  have e3 : (l.map fun d => d.obs K) = l.map Df.val := Option.some.inj e2
  have e4 : (l.map fun d => d.obs K)[j]? = (l.map Df.val)[j]? := by rw [e3]
  rw [List.getElem?_map, List.getElem?_map, h2] at e4
  exact Option.some.inj e4
theorem freeB_ok (X : K.In h) (G : h.Ns mainGlobals mg) {x : Str} (c : freeB K x = true) : mg x = none := He.free_ok X G c
theorem gloB_ok (X : K.In h) (G : h.Ns mainGlobals mg) {x : Str} (c : gloB K x = true) : mg x = some (.ref (He.ga K x)) := He.glo_ok X G c
theorem intB_ok (X : K.In h) (G : h.Ns mainGlobals mg) {x : Str} {i : Int} (c : intB K x i = true) : ∃ t, mg x = some (.int i t) := He.int_ok X G c
theorem strB_ok (X : K.In h) (G : h.Ns mainGlobals mg) {x z : Str} (c : strB K x z = true) : ∃ t, mg x = some (.str z t) := He.str_ok X G c
theorem isAt_ok {C g : Addr} {m : Str} (c : isAt K C m g = true) : PySem.W.findIn K (.ref C) m = some (some (.ref g)) := of_decide_eq_true c
theorem noatB_ok {C : Addr} {f : Str} (c : noatB K C f = true) : NoAttr K C f := show PySem.W.findIn K (.ref C) f = some none from of_decide_eq_true c
theorem clsB_ok {C : Addr} (c : clsB K C = true) : Cls K C := by
  obtain ⟨c1, c2⟩ := b2 c
  exact ⟨(b2 c2).1, (b2 c1).1, (b2 c1).2, of_decide_eq_true (b2 c2).2⟩
theorem spdB_ok {C g : Addr} {m : Str} (c : spdB K C m g = true) : Spd K C m g := ⟨isAt_ok (b2 c).1, (b2 c).2⟩
theorem methB_ok {C g : Addr} {m : Str} (c : methB K C m g = true) : Meth K C m g := ⟨(spdB_ok (b2 c).1).at_, (spdB_ok (b2 c).1).fn, (b2 c).2⟩
theorem mkB_ok {C g : Addr} (c : mkB K C g = true) : Mk K C g := ⟨(b2 (b2 c).1).1, (spdB_ok (b2 c).2).at_, (spdB_ok (b2 c).2).fn, (b2 (b2 c).1).2⟩
theorem callB_ok {C g : Addr} (c : callB K C g = true) : StX.CallO K C g := ⟨(spdB_ok (b2 c).1).at_, (spdB_ok (b2 c).1).fn, (b2 c).2⟩
theorem nbrB_ok {op : Operator} {C g : Addr} (c : nbrB K op C g = true) : Nbr K op C g := ⟨(b2 (b2 c).1).1, (spdB_ok (b2 (b2 c).1).2).at_, (spdB_ok (b2 (b2 c).1).2).fn, of_decide_eq_true (b2 c).2⟩
theorem propB_ok {C p g : Addr} {f : Str} (c : propB K C f p g = true) : PropOf K C f p g := by
  obtain ⟨c1, c2⟩ := b2 c
  refine ⟨isAt_ok (b2 c1).1, of_decide_eq_true (b2 c1).2, of_decide_eq_true (b2 c2).1, ?_⟩
  have c3 := (b2 c2).2
  cases e : PySem.W.recIn K p "property" with
  | none => rw [e] at c3; cases c3
  | some l =>
    rw [e] at c3
    cases l with
    | nil => cases c3
    | cons v r =>
      cases v with
      | ref a =>
        have : a = g := of_decide_eq_true c3
        exact ⟨r, by rw [this]⟩
      | _ => cases c3
theorem readB_ok {C : Addr} (c : readB K C = true) : ClX.CRead K C (.type "type") := ⟨(b2 c).1, of_decide_eq_true (b2 c).2⟩
theorem conB_ok {C : Addr} {f : Str} {v : Int} (c : conB K C f v = true) : ∃ t, ClX.CVal K C (.type "type") f (.int v) (.int v t) := by
  unfold conB at c
  cases e : PySem.W.findCls K (.ref C) (.type "type") f with
  | none => rw [e] at c; cases c
  | some o =>
    rw [e] at c
    cases o with
    | get a b d g => cases c
    | val u =>
      cases u with
      | int i t =>
        have ei : i = v := of_decide_eq_true c
        subst ei
        exact ⟨t, e, t, rfl⟩
      | _ => cases c
theorem factB_ok {a1 a2 a3 a4 a5 a6 C aK : Addr} (c : factB K a1 a2 a3 a4 a5 a6 C aK = true) : FactC K a1 a2 a3 a4 a5 a6 C aK := by
  obtain ⟨c1, c2⟩ := b2 c
  obtain ⟨c3, c4⟩ := b2 c1
  obtain ⟨c5, c6⟩ := b2 c2
  obtain ⟨c7, c8⟩ := b2 c6
  obtain ⟨c9, c10⟩ := b2 c8
  obtain ⟨d1, d2⟩ := b2 c10
  obtain ⟨d3, d4⟩ := b2 d1
  obtain ⟨d5, d6⟩ := b2 d2
  exact ⟨clsB_ok c3, methB_ok (b2 c4).1, methB_ok (b2 c4).2, callB_ok (b2 c5).1, spdB_ok (b2 c5).2, nbrB_ok (b2 c7).1, nbrB_ok (b2 c7).2, spdB_ok c9, noatB_ok d3, noatB_ok (b2 d4).1, noatB_ok (b2 d4).2, noatB_ok d5, noatB_ok (b2 d6).1, noatB_ok (b2 d6).2⟩
theorem smB_ok {C g : Addr} (c : smB K C g = true) : SupMet K C C "__init__" g := by
  obtain ⟨c1, c2⟩ := b2 c
  refine ⟨of_decide_eq_true (b2 c1).1, of_decide_eq_true (b2 c1).2, ?_, (b2 c2).2⟩
  have := (b2 c2).1
  unfold PySem.W.isFn at this
  simpa using this
theorem apartB_ok (c : apartB K = true) : ∀ C ∈ factNames.map (He.ga K), ∀ D ∈ factNames.map (He.ga K), C ≠ D → PySem.W.mroIn K D (.ref C) = some false := fun C hC D hD hne => by
  obtain ⟨x, hx, rfl⟩ := List.mem_map.mp hC
  obtain ⟨y, hy, rfl⟩ := List.mem_map.mp hD
  have c1 := List.all_eq_true.mp (List.all_eq_true.mp c x hx) y hy
  rcases Bool.or_eq_true_iff.mp c1 with h | h
  · exact absurd (of_decide_eq_true h) hne
  · exact of_decide_eq_true h
theorem def_lk {d : Df} (D : d.obs K = d.val ∧ d.ok K = true) : ∃ oc od osl fd, K.lookup (d.ad K) = some ⟨oc, od, .func fd, osl⟩ ∧ PySem.W.codeIn K fd.code d.qual = true ∧ DflV K fd.defaults d.dvs ∧ PySem.W.keepIn K (.ref (d.ad K)) = true ∧
    fd.name = d.name ∧ fd.qualname = d.qual ∧ fd.params = defArgs d.st ∧ fd.body = .stmts (defBody d.st) ∧ fd.scope = defScope d.st ∧ fd.globals = mainGlobals ∧ fd.closure.map (fun q => q.1) = (if d.clo = true then (["__class__"] : List Str) else []) ∧ fd.builtins = builtinsNs := by
  obtain ⟨e, c⟩ := D
  obtain ⟨kp, c2⟩ := b2 c
  unfold Df.obs at e
  cases q : K.lookup (d.ad K) with
  | none => rw [q] at c2; cases c2
  | some o =>
    obtain ⟨oc, od, dt, osl⟩ := o
    rw [q] at c2 e
    cases dt with
    | func fd =>
      obtain ⟨k1, k2⟩ := b2 c2
      have e2 : (some (fd.name, fd.qualname, fd.params, fd.body, fd.scope, fd.globals, fd.closure.map (fun q => q.1), fd.builtins) : Fv) = d.val := e
      unfold Df.val at e2
      simp only [Option.some.injEq, Prod.mk.injEq] at e2
      obtain ⟨h1, h2, h3, h4, h5, h6, h7, h8⟩ := e2
      exact ⟨oc, od, osl, fd, rfl, k1, He.dflB_ok k2, kp, h1, h2, h3, h4, h5, h6, h7, h8⟩
    | _ => cases c2
theorem funD_of {d : Df} (D : d.obs K = d.val ∧ d.ok K = true) (h2 : d.clo = false) : ∃ fd, FunD K d.name d.qual (defArgs d.st) (defBody d.st) (defScope d.st) d.dvs [] (d.ad K) fd := by
  obtain ⟨oc, od, osl, fd, lk, cd, dv, kp, e1, e2, e3, e4, e5, e6, e7, e8⟩ := def_lk D
  rw [h2] at e7
  obtain ⟨n1, n2, n3, n4, n5, n6, n7, n8, n9, n10, n11, n12, n13, n14, n15⟩ := fd
  have f7 : n7.map (fun q => q.1) = [] := e7
  have g7 : n7 = [] := List.map_eq_nil_iff.mp f7
  clear e7 f7
  dsimp only at e1 e2 e3 e4 e5 e6 e8 cd dv
  subst e1 e2 e3 e4 e5 e6 g7 e8
  exact ⟨_, ⟨oc, od, n8, n9, n10, n11, n12, n13, n14, osl, rfl, lk, cd, dv, .inl rfl⟩, kp⟩
theorem funP_of {d : Df} (D : d.obs K = d.val ∧ d.ok K = true) (h1 : d.dvs = []) (h2 : d.clo = false) : FunP K d.name d.qual d.st (d.ad K) := by
  obtain ⟨fd, F⟩ := funD_of D h2
  rw [h1] at F
  exact ⟨fd, F⟩
theorem funS_of {d : Df} {C : Addr} (hP : P = PySem.Challenge.pw_forkbeats_k46_whole_fork_added) (hs : freeB K "super" = true) (b : supB K C (d.ad K) = true) (D : d.obs K = d.val ∧ d.ok K = true) (h1 : d.dvs = []) (h2 : d.clo = true)
    (h3 : ∃ ar, ((defArgs d.st).posonlyargs ++ (defArgs d.st).args).head? = some ar ∧ ar.arg = ("self" : Str)) : ∃ cda cc, FunS P K d.name d.qual d.st (d.ad K) cda cc C "self" := by
  obtain ⟨oc, od, osl, fd, lk, cd, dv, kp, e1, e2, e3, e4, e5, e6, e7, e8⟩ := def_lk D
  rw [h2, if_pos rfl] at e7
  rw [h1] at dv
  obtain ⟨b1, b3⟩ := b2 b
  rw [lk] at b1
  obtain ⟨b4, b5⟩ := b2 b1
  obtain ⟨n1, n2, n3, n4, n5, n6, n7, n8, n9, n10, n11, n12, n13, n14, n15⟩ := fd
  dsimp only at e1 e2 e3 e4 e5 e6 e7 e8 cd dv b4 b5
  have dv : n8 = .none := by
    rcases dv with ⟨_, e⟩ | ⟨e, _⟩
    · exact e
    · exact absurd rfl e
  obtain ⟨q, r, rfl⟩ : ∃ q r, n7 = q :: r := by
    cases n7 with
    | nil => cases e7
    | cons q r => exact ⟨q, r, rfl⟩
  obtain ⟨qn, cc⟩ := q
  have f7 : qn :: r.map (fun q => q.1) = (["__class__"] : List Str) := e7
  have er : r = [] := List.map_eq_nil_iff.mp (List.cons.inj f7).2
  have eq : qn = ("__class__" : Str) := (List.cons.inj f7).1
  clear e7 f7
  subst er eq
  cases n13 with
  | ref c =>
    have b4 : (match K.lookup c with
      | some ⟨_, _, .fields vs, _⟩ => (match vs.toList with
        | _ :: _ :: .str file _ :: _ => (PySem.Challenge.pw_forkbeats_k46_whole_fork_added.main.file : Str) == file
        | _ => false)
      | _ => false) = true := b4
    have b5 : (match K.lookup cc with
      | some ⟨_, _, .cell (some (.ref D)), _⟩ => decide (D = C)
      | _ => false) = true := b5
    have code : ∃ ccl cdd vs ccs file tf, K.lookup c = some ⟨ccl, cdd, .fields vs, ccs⟩ ∧ vs[2]? = some (.str file tf) ∧ ((P.main.file : Str) == file) = true := by
      cases q1 : K.lookup c with
      | none => rw [q1] at b4; cases b4
      | some o =>
        obtain ⟨o1, o2, o3, o4⟩ := o
        rw [q1] at b4
        cases o3 with
        | fields vs =>
          have b4 : (match vs.toList with
            | _ :: _ :: .str file _ :: _ => (PySem.Challenge.pw_forkbeats_k46_whole_fork_added.main.file : Str) == file
            | _ => false) = true := b4
          obtain ⟨vs⟩ := vs
          match vs, b4 with
          | _ :: _ :: .str file tf :: _, b4 => exact ⟨o1, o2, _, o4, file, tf, rfl, rfl, by rw [hP]; exact b4⟩
        | _ => cases b4
    have cell : ∃ cl cld csl, K.lookup cc = some ⟨cl, cld, .cell (some (.ref C)), csl⟩ := by
      cases q1 : K.lookup cc with
      | none => rw [q1] at b5; cases b5
      | some o =>
        obtain ⟨o1, o2, o3, o4⟩ := o
        rw [q1] at b5
        cases o3 with
        | cell v =>
          cases v with
          | none => cases b5
          | some u =>
            cases u with
            | ref D =>
              have : D = C := of_decide_eq_true b5
              exact ⟨o1, o2, o4, by rw [this]⟩
            | _ => cases b5
        | _ => cases b5
    subst e1 e2 e3 e4 e5 e6 e8 dv
    obtain ⟨ar, a1, a2⟩ := h3
    exact ⟨c, cc, ⟨oc, od, osl, n9, n10, n11, n12, n14, lk⟩, cd, ⟨oc, od, osl, _, ar, lk, a1, a2⟩, code, cell, (b2 b3).1, He.eqO_ok hs, by rw [hP]; decide +kernel, of_decide_eq_true (b2 b3).2⟩
  | _ => cases b4
end
theorem txt_of {P : Program} {K : PySem.W.Frag} {h : Heap} {mg : Str → Option Value} (hP : P = PySem.Challenge.pw_forkbeats_k46_whole_fork_added) (X : K.In h) (G : h.Ns mainGlobals mg) (c : SaysK K) : ∃ T : Txt P K mg, ∃ a : Addr, mg "law" = some (.ref a) ∧ FunP K "law" "law" (top 77) a := by
  obtain ⟨tML, hML⟩ := intB_ok X G (c.fact 0 16)
  obtain ⟨tLT, hLT⟩ := strB_ok X G (c.fact 0 17)
  obtain ⟨t_Fact_MOST_COUNT, h_Fact_MOST_COUNT⟩ := conB_ok (c.fact 5 7)
  obtain ⟨t_Fact_MOST_DEPTH, h_Fact_MOST_DEPTH⟩ := conB_ok (c.fact 5 8)
  obtain ⟨t_Bench_MOST_FORKS, h_Bench_MOST_FORKS⟩ := conB_ok (c.fact 5 9)
  obtain ⟨t_Bench_MOST_STRIKES, h_Bench_MOST_STRIKES⟩ := conB_ok (c.fact 5 10)
  obtain ⟨t_Bench_MOST_FACTS, h_Bench_MOST_FACTS⟩ := conB_ok (c.fact 5 11)
  obtain ⟨t_Bench_MOST_LIMIT, h_Bench_MOST_LIMIT⟩ := conB_ok (c.fact 5 12)
  obtain ⟨cd_Above, cc_Above, fi_Above⟩ := funS_of hP (c.fact 0 15) (c.fact 5 15) (c.def_ (d := ⟨fun K => (He.ma K (He.ga K "Above") "__init__"), "__init__", "Above.__init__", inC 29 0, [], true⟩) 3 7) rfl rfl ⟨_, rfl, rfl⟩
  obtain ⟨cd_InTune, cc_InTune, fi_InTune⟩ := funS_of hP (c.fact 0 15) (c.fact 5 19) (c.def_ (d := ⟨fun K => (He.ma K (He.ga K "InTune") "__init__"), "__init__", "InTune.__init__", inC 30 0, [], true⟩) 3 9) rfl rfl ⟨_, rfl, rfl⟩
  obtain ⟨cd_Between, cc_Between, fi_Between⟩ := funS_of hP (c.fact 0 15) (c.fact 6 3) (c.def_ (d := ⟨fun K => (He.ma K (He.ga K "Between") "__init__"), "__init__", "Between.__init__", inC 31 0, [], true⟩) 3 11) rfl rfl ⟨_, rfl, rfl⟩
  obtain ⟨cd_Highest, cc_Highest, fi_Highest⟩ := funS_of hP (c.fact 0 15) (c.fact 6 7) (c.def_ (d := ⟨fun K => (He.ma K (He.ga K "Highest") "__init__"), "__init__", "Highest.__init__", inC 32 0, [], true⟩) 3 13) rfl rfl ⟨_, rfl, rfl⟩
  obtain ⟨cd_AsOften, cc_AsOften, fi_AsOften⟩ := funS_of hP (c.fact 0 15) (c.fact 6 11) (c.def_ (d := ⟨fun K => (He.ma K (He.ga K "AsOften") "__init__"), "__init__", "AsOften.__init__", inC 33 0, [], true⟩) 3 15) rfl rfl ⟨_, rfl, rfl⟩
  obtain ⟨cd_MoreOften, cc_MoreOften, fi_MoreOften⟩ := funS_of hP (c.fact 0 15) (c.fact 6 15) (c.def_ (d := ⟨fun K => (He.ma K (He.ga K "MoreOften") "__init__"), "__init__", "MoreOften.__init__", inC 34 0, [], true⟩) 3 17) rfl rfl ⟨_, rfl, rfl⟩
  obtain ⟨cd_Trio, cc_Trio, fi_Trio⟩ := funS_of hP (c.fact 0 15) (c.fact 6 19) (c.def_ (d := ⟨fun K => (He.ma K (He.ga K "Trio") "__init__"), "__init__", "Trio.__init__", inC 35 0, [], true⟩) 3 19) rfl rfl ⟨_, rfl, rfl⟩
  obtain ⟨cd_Not, cc_Not, fi_Not⟩ := funS_of hP (c.fact 0 15) (c.fact 7 3) (c.def_ (d := ⟨fun K => (He.ma K (He.ga K "Not") "__init__"), "__init__", "Not.__init__", inC 37 0, [], true⟩) 4 1) rfl rfl ⟨_, rfl, rfl⟩
  obtain ⟨cd_Both, cc_Both, fi_Both⟩ := funS_of hP (c.fact 0 15) (c.fact 7 7) (c.def_ (d := ⟨fun K => (He.ma K (He.ga K "Both") "__init__"), "__init__", "Both.__init__", inC 38 0, [], true⟩) 4 3) rfl rfl ⟨_, rfl, rfl⟩
  obtain ⟨cd_Either, cc_Either, fi_Either⟩ := funS_of hP (c.fact 0 15) (c.fact 7 11) (c.def_ (d := ⟨fun K => (He.ma K (He.ga K "Either") "__init__"), "__init__", "Either.__init__", inC 39 0, [], true⟩) 4 5) rfl rfl ⟨_, rfl, rfl⟩
  exact ⟨{
    n_len := freeB_ok X G (c.fact 0 0)
    n_enumerate := freeB_ok X G (c.fact 0 1)
    n_range := freeB_ok X G (c.fact 0 2)
    n_sorted := freeB_ok X G (c.fact 0 3)
    n_set := freeB_ok X G (c.fact 0 4)
    n_max := freeB_ok X G (c.fact 0 5)
    n_min := freeB_ok X G (c.fact 0 6)
    n_abs := freeB_ok X G (c.fact 0 7)
    n_int := freeB_ok X G (c.fact 0 8)
    n_str := freeB_ok X G (c.fact 0 9)
    n_list := freeB_ok X G (c.fact 0 10)
    n_tuple := freeB_ok X G (c.fact 0 11)
    n_isinstance := freeB_ok X G (c.fact 0 12)
    n_all := freeB_ok X G (c.fact 0 13)
    n_bool := freeB_ok X G (c.fact 0 14)
    n_super := freeB_ok X G (c.fact 0 15)
    t_ML := tML
    g_MOST_LETTERS := hML
    t_LT := tLT
    g_LETTERS := hLT
    a_is_name := He.ga K "is_name"
    g_is_name := gloB_ok X G (c.fact 0 18)
    f_is_name := funP_of (c.def_ (d := ⟨fun K => (He.ga K "is_name"), "is_name", "is_name", top 20, [], false⟩) 0 0) rfl rfl
    a_checked_names := He.ga K "checked_names"
    g_checked_names := gloB_ok X G (c.fact 0 19)
    f_checked_names := funP_of (c.def_ (d := ⟨fun K => (He.ga K "checked_names"), "checked_names", "checked_names", top 25, [], false⟩) 0 1) rfl rfl
    a_check_distinct := He.ga K "check_distinct"
    g_check_distinct := gloB_ok X G (c.fact 1 0)
    f_check_distinct := funP_of (c.def_ (d := ⟨fun K => (He.ga K "check_distinct"), "check_distinct", "check_distinct", top 26, [], false⟩) 0 2) rfl rfl
    a_without_duplicates := He.ga K "without_duplicates"
    g_without_duplicates := gloB_ok X G (c.fact 1 1)
    f_without_duplicates := funP_of (c.def_ (d := ⟨fun K => (He.ga K "without_duplicates"), "without_duplicates", "without_duplicates", top 27, [], false⟩) 0 3) rfl rfl
    a_deeper := He.ga K "deeper"
    g_deeper := gloB_ok X G (c.fact 1 2)
    f_deeper := funP_of (c.def_ (d := ⟨fun K => (He.ga K "deeper"), "deeper", "deeper", top 36, [], false⟩) 0 4) rfl rfl
    a_reached_from := He.ga K "reached_from"
    g_reached_from := gloB_ok X G (c.fact 1 3)
    f_reached_from := funP_of (c.def_ (d := ⟨fun K => (He.ga K "reached_from"), "reached_from", "reached_from", top 41, [], false⟩) 0 5) rfl rfl
    a_blocks := He.ga K "blocks"
    g_blocks := gloB_ok X G (c.fact 1 4)
    f_blocks := funP_of (c.def_ (d := ⟨fun K => (He.ga K "blocks"), "blocks", "blocks", top 45, [], false⟩) 0 6) rfl rfl
    a_order_of_walking := He.ga K "order_of_walking"
    g_order_of_walking := gloB_ok X G (c.fact 1 5)
    f_order_of_walking := funP_of (c.def_ (d := ⟨fun K => (He.ga K "order_of_walking"), "order_of_walking", "order_of_walking", top 47, [], false⟩) 0 7) rfl rfl
    a_ties := He.ga K "ties"
    g_ties := gloB_ok X G (c.fact 1 6)
    f_ties := funP_of (c.def_ (d := ⟨fun K => (He.ga K "ties"), "ties", "ties", top 48, [], false⟩) 0 8) rfl rfl
    a_choices := He.ga K "choices"
    g_choices := gloB_ok X G (c.fact 1 7)
    f_choices := funP_of (c.def_ (d := ⟨fun K => (He.ga K "choices"), "choices", "choices", top 49, [], false⟩) 0 9) rfl rfl
    a_levels := He.ga K "levels"
    g_levels := gloB_ok X G (c.fact 1 8)
    f_levels := funP_of (c.def_ (d := ⟨fun K => (He.ga K "levels"), "levels", "levels", top 50, [], false⟩) 0 10) rfl rfl
    a_found_fittings := He.ga K "found_fittings"
    g_found_fittings := gloB_ok X G (c.fact 1 9)
    f_found_fittings := funP_of (c.def_ (d := ⟨fun K => (He.ga K "found_fittings"), "found_fittings", "found_fittings", top 51, [], false⟩) 0 11) rfl rfl
    a_fittings := He.ga K "fittings"
    g_fittings := gloB_ok X G (c.fact 1 10)
    f_fittings := funP_of (c.def_ (d := ⟨fun K => (He.ga K "fittings"), "fittings", "fittings", top 52, [], false⟩) 0 12) rfl rfl
    a_count_fittings := He.ga K "count_fittings"
    g_count_fittings := gloB_ok X G (c.fact 1 11)
    f_count_fittings := funP_of (c.def_ (d := ⟨fun K => (He.ga K "count_fittings"), "count_fittings", "count_fittings", top 53, [], false⟩) 0 13) rfl rfl
    a__law_bag := He.ga K "_law_bag"
    g__law_bag := gloB_ok X G (c.fact 1 12)
    f__law_bag := funP_of (c.def_ (d := ⟨fun K => (He.ga K "_law_bag"), "_law_bag", "_law_bag", top 55, [], false⟩) 0 14) rfl rfl
    a__law_mixed := He.ga K "_law_mixed"
    g__law_mixed := gloB_ok X G (c.fact 1 13)
    f__law_mixed := funP_of (c.def_ (d := ⟨fun K => (He.ga K "_law_mixed"), "_law_mixed", "_law_mixed", top 56, [], false⟩) 0 15) rfl rfl
    a__law_take := He.ga K "_law_take"
    g__law_take := gloB_ok X G (c.fact 1 14)
    f__law_take := funP_of (c.def_ (d := ⟨fun K => (He.ga K "_law_take"), "_law_take", "_law_take", top 57, [], false⟩) 0 16) rfl rfl
    a__law_name := He.ga K "_law_name"
    g__law_name := gloB_ok X G (c.fact 1 15)
    f__law_name := funP_of (c.def_ (d := ⟨fun K => (He.ga K "_law_name"), "_law_name", "_law_name", top 58, [], false⟩) 0 17) rfl rfl
    a__law_names := He.ga K "_law_names"
    g__law_names := gloB_ok X G (c.fact 1 16)
    f__law_names := funP_of (c.def_ (d := ⟨fun K => (He.ga K "_law_names"), "_law_names", "_law_names", top 59, [], false⟩) 0 18) rfl rfl
    a__law_is_int := He.ga K "_law_is_int"
    g__law_is_int := gloB_ok X G (c.fact 1 17)
    f__law_is_int := funP_of (c.def_ (d := ⟨fun K => (He.ga K "_law_is_int"), "_law_is_int", "_law_is_int", top 60, [], false⟩) 0 19) rfl rfl
    a__law_row := He.ga K "_law_row"
    g__law_row := gloB_ok X G (c.fact 1 18)
    f__law_row := funP_of (c.def_ (d := ⟨fun K => (He.ga K "_law_row"), "_law_row", "_law_row", top 61, [], false⟩) 1 0) rfl rfl
    a__law_rows := He.ga K "_law_rows"
    g__law_rows := gloB_ok X G (c.fact 1 19)
    f__law_rows := funP_of (c.def_ (d := ⟨fun K => (He.ga K "_law_rows"), "_law_rows", "_law_rows", top 62, [], false⟩) 1 1) rfl rfl
    a__law_some := He.ga K "_law_some"
    g__law_some := gloB_ok X G (c.fact 2 0)
    f__law_some := funP_of (c.def_ (d := ⟨fun K => (He.ga K "_law_some"), "_law_some", "_law_some", top 63, [], false⟩) 1 2) rfl rfl
    a__law_pairs := He.ga K "_law_pairs"
    g__law_pairs := gloB_ok X G (c.fact 2 1)
    f__law_pairs := funP_of (c.def_ (d := ⟨fun K => (He.ga K "_law_pairs"), "_law_pairs", "_law_pairs", top 64, [], false⟩) 1 3) rfl rfl
    a__law_level := He.ga K "_law_level"
    g__law_level := gloB_ok X G (c.fact 2 2)
    f__law_level := funP_of (c.def_ (d := ⟨fun K => (He.ga K "_law_level"), "_law_level", "_law_level", top 65, [], false⟩) 1 4) rfl rfl
    a__law_struck := He.ga K "_law_struck"
    g__law_struck := gloB_ok X G (c.fact 2 3)
    f__law_struck := funP_of (c.def_ (d := ⟨fun K => (He.ga K "_law_struck"), "_law_struck", "_law_struck", top 66, [], false⟩) 1 5) rfl rfl
    a__law_many := He.ga K "_law_many"
    g__law_many := gloB_ok X G (c.fact 2 4)
    f__law_many := funP_of (c.def_ (d := ⟨fun K => (He.ga K "_law_many"), "_law_many", "_law_many", top 67, [], false⟩) 1 6) rfl rfl
    a__law_bench := He.ga K "_law_bench"
    g__law_bench := gloB_ok X G (c.fact 2 5)
    f__law_bench := funP_of (c.def_ (d := ⟨fun K => (He.ga K "_law_bench"), "_law_bench", "_law_bench", top 68, [], false⟩) 1 7) rfl rfl
    a__law_rises := He.ga K "_law_rises"
    g__law_rises := gloB_ok X G (c.fact 2 6)
    f__law_rises := funP_of (c.def_ (d := ⟨fun K => (He.ga K "_law_rises"), "_law_rises", "_law_rises", top 69, [], false⟩) 1 8) rfl rfl
    a__law_pieces := He.ga K "_law_pieces"
    g__law_pieces := gloB_ok X G (c.fact 2 7)
    f__law_pieces := funP_of (c.def_ (d := ⟨fun K => (He.ga K "_law_pieces"), "_law_pieces", "_law_pieces", top 70, [], false⟩) 1 9) rfl rfl
    a__law_draw_plain := He.ga K "_law_draw_plain"
    g__law_draw_plain := gloB_ok X G (c.fact 2 8)
    f__law_draw_plain := funP_of (c.def_ (d := ⟨fun K => (He.ga K "_law_draw_plain"), "_law_draw_plain", "_law_draw_plain", top 71, [], false⟩) 1 10) rfl rfl
    a__law_draw_fact := He.ga K "_law_draw_fact"
    g__law_draw_fact := gloB_ok X G (c.fact 2 9)
    f__law_draw_fact := funP_of (c.def_ (d := ⟨fun K => (He.ga K "_law_draw_fact"), "_law_draw_fact", "_law_draw_fact", top 72, [], false⟩) 1 11) rfl rfl
    a__law_make := He.ga K "_law_make"
    g__law_make := gloB_ok X G (c.fact 2 10)
    f__law_make := funP_of (c.def_ (d := ⟨fun K => (He.ga K "_law_make"), "_law_make", "_law_make", top 73, [], false⟩) 1 12) rfl rfl
    a__law_make_highest := He.ga K "_law_make_highest"
    g__law_make_highest := gloB_ok X G (c.fact 2 11)
    f__law_make_highest := funP_of (c.def_ (d := ⟨fun K => (He.ga K "_law_make_highest"), "_law_make_highest", "_law_make_highest", top 74, [], false⟩) 1 13) rfl rfl
    a__law_draw_plans := He.ga K "_law_draw_plans"
    g__law_draw_plans := gloB_ok X G (c.fact 2 12)
    f__law_draw_plans := funP_of (c.def_ (d := ⟨fun K => (He.ga K "_law_draw_plans"), "_law_draw_plans", "_law_draw_plans", top 75, [], false⟩) 1 14) rfl rfl
    a__law_pitches := He.ga K "_law_pitches"
    g__law_pitches := gloB_ok X G (c.fact 2 13)
    f__law_pitches := funP_of (c.def_ (d := ⟨fun K => (He.ga K "_law_pitches"), "_law_pitches", "_law_pitches", top 76, [], false⟩) 1 15) rfl rfl
    C_Tuning := He.ga K "Tuning"
    g_Tuning := gloB_ok X G (c.fact 2 15)
    C_Fact := He.ga K "Fact"
    g_Fact := gloB_ok X G (c.fact 2 16)
    C_Above := He.ga K "Above"
    g_Above := gloB_ok X G (c.fact 2 17)
    C_InTune := He.ga K "InTune"
    g_InTune := gloB_ok X G (c.fact 2 18)
    C_Between := He.ga K "Between"
    g_Between := gloB_ok X G (c.fact 2 19)
    C_Highest := He.ga K "Highest"
    g_Highest := gloB_ok X G (c.fact 3 0)
    C_AsOften := He.ga K "AsOften"
    g_AsOften := gloB_ok X G (c.fact 3 1)
    C_MoreOften := He.ga K "MoreOften"
    g_MoreOften := gloB_ok X G (c.fact 3 2)
    C_Trio := He.ga K "Trio"
    g_Trio := gloB_ok X G (c.fact 3 3)
    C_Not := He.ga K "Not"
    g_Not := gloB_ok X G (c.fact 3 4)
    C_Both := He.ga K "Both"
    g_Both := gloB_ok X G (c.fact 3 5)
    C_Either := He.ga K "Either"
    g_Either := gloB_ok X G (c.fact 3 6)
    C_Bench := He.ga K "Bench"
    g_Bench := gloB_ok X G (c.fact 3 7)
    C_Blocks := He.ga K "Blocks"
    g_Blocks := gloB_ok X G (c.fact 3 8)
    cl_Tuning := clsB_ok (c.fact 3 9)
    i_Tuning := He.ma K (He.ga K "Tuning") "__init__"
    mk_Tuning := mkB_ok (c.fact 3 10)
    n_Tuning_level := noatB_ok (c.fact 3 11)
    n_Tuning_name_row := noatB_ok (c.fact 3 12)
    a_Tuning_pitches := He.ma K (He.ga K "Tuning") "pitches"
    m_Tuning_pitches := methB_ok (c.fact 3 13)
    f_Tuning_pitches := funP_of (c.def_ (d := ⟨fun K => (He.ma K (He.ga K "Tuning") "pitches"), "pitches", "Tuning.pitches", inC 23 4, [], false⟩) 1 17) rfl rfl
    a_Tuning_beats := He.ma K (He.ga K "Tuning") "beats"
    m_Tuning_beats := methB_ok (c.fact 3 14)
    f_Tuning_beats := funP_of (c.def_ (d := ⟨fun K => (He.ma K (He.ga K "Tuning") "beats"), "beats", "Tuning.beats", inC 23 5, [], false⟩) 1 18) rfl rfl
    cl_Bench := clsB_ok (c.fact 3 15)
    i_Bench := He.ma K (He.ga K "Bench") "__init__"
    mk_Bench := mkB_ok (c.fact 3 16)
    n_Bench_state := noatB_ok (c.fact 3 17)
    n_Bench_past := noatB_ok (c.fact 3 18)
    n_Bench_future := noatB_ok (c.fact 3 19)
    a_Bench_enter := He.ma K (He.ga K "Bench") "enter"
    m_Bench_enter := methB_ok (c.fact 4 0)
    f_Bench_enter := funP_of (c.def_ (d := ⟨fun K => (He.ma K (He.ga K "Bench") "enter"), "enter", "Bench.enter", inC 42 6, [], false⟩) 1 19) rfl rfl
    a_Bench_add := He.ma K (He.ga K "Bench") "add"
    m_Bench_add := methB_ok (c.fact 4 1)
    f_Bench_add := funP_of (c.def_ (d := ⟨fun K => (He.ma K (He.ga K "Bench") "add"), "add", "Bench.add", inC 42 7, [], false⟩) 2 0) rfl rfl
    a_Bench_add_all := He.ma K (He.ga K "Bench") "add_all"
    m_Bench_add_all := methB_ok (c.fact 4 2)
    f_Bench_add_all := funP_of (c.def_ (d := ⟨fun K => (He.ma K (He.ga K "Bench") "add_all"), "add_all", "Bench.add_all", inC 42 8, [], false⟩) 2 1) rfl rfl
    a_Bench_strike := He.ma K (He.ga K "Bench") "strike"
    m_Bench_strike := methB_ok (c.fact 4 3)
    f_Bench_strike := funP_of (c.def_ (d := ⟨fun K => (He.ma K (He.ga K "Bench") "strike"), "strike", "Bench.strike", inC 42 9, [], false⟩) 2 2) rfl rfl
    a_Bench_check_pair := He.ma K (He.ga K "Bench") "check_pair"
    m_Bench_check_pair := methB_ok (c.fact 4 4)
    f_Bench_check_pair := funP_of (c.def_ (d := ⟨fun K => (He.ma K (He.ga K "Bench") "check_pair"), "check_pair", "Bench.check_pair", inC 42 10, [], false⟩) 2 3) rfl rfl
    a_Bench_check_fork := He.ma K (He.ga K "Bench") "check_fork"
    m_Bench_check_fork := methB_ok (c.fact 4 5)
    f_Bench_check_fork := funP_of (c.def_ (d := ⟨fun K => (He.ma K (He.ga K "Bench") "check_fork"), "check_fork", "Bench.check_fork", inC 42 11, [], false⟩) 2 4) rfl rfl
    a_Bench_check_fact := He.ma K (He.ga K "Bench") "check_fact"
    m_Bench_check_fact := methB_ok (c.fact 4 6)
    f_Bench_check_fact := funP_of (c.def_ (d := ⟨fun K => (He.ma K (He.ga K "Bench") "check_fact"), "check_fact", "Bench.check_fact", inC 42 12, [], false⟩) 2 5) rfl rfl
    a_Bench_tell := He.ma K (He.ga K "Bench") "tell"
    m_Bench_tell := methB_ok (c.fact 4 7)
    f_Bench_tell := funP_of (c.def_ (d := ⟨fun K => (He.ma K (He.ga K "Bench") "tell"), "tell", "Bench.tell", inC 42 13, [], false⟩) 2 6) rfl rfl
    a_Bench_undo := He.ma K (He.ga K "Bench") "undo"
    m_Bench_undo := methB_ok (c.fact 4 8)
    f_Bench_undo := funP_of (c.def_ (d := ⟨fun K => (He.ma K (He.ga K "Bench") "undo"), "undo", "Bench.undo", inC 42 18, [], false⟩) 2 7) rfl rfl
    a_Bench_forks := He.ma K (He.ga K "Bench") "forks"
    m_Bench_forks := methB_ok (c.fact 4 9)
    f_Bench_forks := funP_of (c.def_ (d := ⟨fun K => (He.ma K (He.ga K "Bench") "forks"), "forks", "Bench.forks", inC 42 21, [], false⟩) 2 8) rfl rfl
    a_Bench_strikes := He.ma K (He.ga K "Bench") "strikes"
    m_Bench_strikes := methB_ok (c.fact 4 10)
    f_Bench_strikes := funP_of (c.def_ (d := ⟨fun K => (He.ma K (He.ga K "Bench") "strikes"), "strikes", "Bench.strikes", inC 42 22, [], false⟩) 2 9) rfl rfl
    a_Bench_told := He.ma K (He.ga K "Bench") "told"
    m_Bench_told := methB_ok (c.fact 4 11)
    f_Bench_told := funP_of (c.def_ (d := ⟨fun K => (He.ma K (He.ga K "Bench") "told"), "told", "Bench.told", inC 42 24, [], false⟩) 2 10) rfl rfl
    cl_Blocks := clsB_ok (c.fact 4 12)
    i_Blocks := He.ma K (He.ga K "Blocks") "__init__"
    mk_Blocks := mkB_ok (c.fact 4 13)
    n_Blocks_struck := noatB_ok (c.fact 4 14)
    n_Blocks_order := noatB_ok (c.fact 4 15)
    n_Blocks_low := noatB_ok (c.fact 4 16)
    n_Blocks_stack := noatB_ok (c.fact 4 17)
    n_Blocks_found := noatB_ok (c.fact 4 18)
    a_Blocks_visit := He.ma K (He.ga K "Blocks") "visit"
    m_Blocks_visit := methB_ok (c.fact 4 19)
    f_Blocks_visit := funP_of (c.def_ (d := ⟨fun K => (He.ma K (He.ga K "Blocks") "visit"), "visit", "Blocks.visit", inC 44 1, [], false⟩) 2 11) rfl rfl
    a_Blocks_close := He.ma K (He.ga K "Blocks") "close"
    m_Blocks_close := methB_ok (c.fact 5 0)
    f_Blocks_close := funP_of (c.def_ (d := ⟨fun K => (He.ma K (He.ga K "Blocks") "close"), "close", "Blocks.close", inC 44 2, [], false⟩) 2 12) rfl rfl
    f_Tuning_init := funP_of (c.def_ (d := ⟨fun K => (He.ma K (He.ga K "Tuning") "__init__"), "__init__", "Tuning.__init__", inC 23 0, [], false⟩) 2 13) rfl rfl
    f_Blocks_init := funP_of (c.def_ (d := ⟨fun K => (He.ma K (He.ga K "Blocks") "__init__"), "__init__", "Blocks.__init__", inC 44 0, [], false⟩) 2 14) rfl rfl
    f_Bench_init := funD_of (c.def_ (d := ⟨fun K => (He.ma K (He.ga K "Bench") "__init__"), "__init__", "Bench.__init__", inC 42 4, [.int 0], false⟩) 2 15) rfl
    a_Tuning_getitem := He.ma K (He.ga K "Tuning") "__getitem__"
    s_Tuning_getitem := spdB_ok (c.fact 5 1)
    f_Tuning_getitem := funP_of (c.def_ (d := ⟨fun K => (He.ma K (He.ga K "Tuning") "__getitem__"), "__getitem__", "Tuning.__getitem__", inC 23 8, [], false⟩) 2 16) rfl rfl
    a_Tuning_contains := He.ma K (He.ga K "Tuning") "__contains__"
    s_Tuning_contains := spdB_ok (c.fact 5 2)
    f_Tuning_contains := funP_of (c.def_ (d := ⟨fun K => (He.ma K (He.ga K "Tuning") "__contains__"), "__contains__", "Tuning.__contains__", inC 23 10, [], false⟩) 2 17) rfl rfl
    fi_Tuning_getitem := (c.fact 5 3)
    a_lim := lAd K
    p_lim := pAd K
    p_Bench_limit := propB_ok (c.fact 5 4)
    f_Bench_limit := funP_of (c.def_ (d := ⟨fun K => (lAd K), "limit", "Bench.limit", inC 42 15, [], false⟩) 2 18) rfl rfl
    i_Fact := He.ma K (He.ga K "Fact") "__init__"
    f_Fact_init := funP_of (c.def_ (d := ⟨fun K => (He.ma K (He.ga K "Fact") "__init__"), "__init__", "Fact.__init__", inC 28 2, [], false⟩) 2 19) rfl rfl
    a_Fact_forks := He.ma K (He.ga K "Fact") "forks"
    f_Fact_forks := funP_of (c.def_ (d := ⟨fun K => (He.ma K (He.ga K "Fact") "forks"), "forks", "Fact.forks", inC 28 3, [], false⟩) 3 0) rfl rfl
    a_Fact_call := He.ma K (He.ga K "Fact") "__call__"
    f_Fact_call := funP_of (c.def_ (d := ⟨fun K => (He.ma K (He.ga K "Fact") "__call__"), "__call__", "Fact.__call__", inC 28 5, [], false⟩) 3 1) rfl rfl
    a_Fact_invert := He.ma K (He.ga K "Fact") "__invert__"
    f_Fact_invert := funP_of (c.def_ (d := ⟨fun K => (He.ma K (He.ga K "Fact") "__invert__"), "__invert__", "Fact.__invert__", inC 28 6, [], false⟩) 3 2) rfl rfl
    a_Fact_and := He.ma K (He.ga K "Fact") "__and__"
    f_Fact_and := funP_of (c.def_ (d := ⟨fun K => (He.ma K (He.ga K "Fact") "__and__"), "__and__", "Fact.__and__", inC 28 7, [], false⟩) 3 3) rfl rfl
    a_Fact_or := He.ma K (He.ga K "Fact") "__or__"
    f_Fact_or := funP_of (c.def_ (d := ⟨fun K => (He.ma K (He.ga K "Fact") "__or__"), "__or__", "Fact.__or__", inC 28 8, [], false⟩) 3 4) rfl rfl
    a_Fact_str := He.ma K (He.ga K "Fact") "__str__"
    f_Fact_str := funP_of (c.def_ (d := ⟨fun K => (He.ma K (He.ga K "Fact") "__str__"), "__str__", "Fact.__str__", inC 28 9, [], false⟩) 3 5) rfl rfl
    mc_Fact := .type "type"
    rd_Fact := readB_ok (c.fact 5 5)
    mc_Bench := .type "type"
    rd_Bench := readB_ok (c.fact 5 6)
    t_Fact_MOST_COUNT := t_Fact_MOST_COUNT
    c_Fact_MOST_COUNT := h_Fact_MOST_COUNT
    t_Fact_MOST_DEPTH := t_Fact_MOST_DEPTH
    c_Fact_MOST_DEPTH := h_Fact_MOST_DEPTH
    t_Bench_MOST_FORKS := t_Bench_MOST_FORKS
    c_Bench_MOST_FORKS := h_Bench_MOST_FORKS
    t_Bench_MOST_STRIKES := t_Bench_MOST_STRIKES
    c_Bench_MOST_STRIKES := h_Bench_MOST_STRIKES
    t_Bench_MOST_FACTS := t_Bench_MOST_FACTS
    c_Bench_MOST_FACTS := h_Bench_MOST_FACTS
    t_Bench_MOST_LIMIT := t_Bench_MOST_LIMIT
    c_Bench_MOST_LIMIT := h_Bench_MOST_LIMIT
    k_Above := He.ma K (He.ga K "Above") "kept"
    fc_Above := factB_ok (c.fact 5 13)
    fk_Above := funP_of (c.def_ (d := ⟨fun K => (He.ma K (He.ga K "Above") "kept"), "kept", "Above.kept", inC 29 1, [], false⟩) 3 6) rfl rfl
    i_Above := He.ma K (He.ga K "Above") "__init__"
    mk_Above := mkB_ok (c.fact 5 14)
    cd_Above := cd_Above
    cc_Above := cc_Above
    fi_Above := fi_Above
    sm_Above := smB_ok (c.fact 5 16)
    k_InTune := He.ma K (He.ga K "InTune") "kept"
    fc_InTune := factB_ok (c.fact 5 17)
    fk_InTune := funP_of (c.def_ (d := ⟨fun K => (He.ma K (He.ga K "InTune") "kept"), "kept", "InTune.kept", inC 30 1, [], false⟩) 3 8) rfl rfl
    i_InTune := He.ma K (He.ga K "InTune") "__init__"
    mk_InTune := mkB_ok (c.fact 5 18)
    cd_InTune := cd_InTune
    cc_InTune := cc_InTune
    fi_InTune := fi_InTune
    sm_InTune := smB_ok (c.fact 6 0)
    k_Between := He.ma K (He.ga K "Between") "kept"
    fc_Between := factB_ok (c.fact 6 1)
    fk_Between := funP_of (c.def_ (d := ⟨fun K => (He.ma K (He.ga K "Between") "kept"), "kept", "Between.kept", inC 31 1, [], false⟩) 3 10) rfl rfl
    i_Between := He.ma K (He.ga K "Between") "__init__"
    mk_Between := mkB_ok (c.fact 6 2)
    cd_Between := cd_Between
    cc_Between := cc_Between
    fi_Between := fi_Between
    sm_Between := smB_ok (c.fact 6 4)
    k_Highest := He.ma K (He.ga K "Highest") "kept"
    fc_Highest := factB_ok (c.fact 6 5)
    fk_Highest := funP_of (c.def_ (d := ⟨fun K => (He.ma K (He.ga K "Highest") "kept"), "kept", "Highest.kept", inC 32 1, [], false⟩) 3 12) rfl rfl
    i_Highest := He.ma K (He.ga K "Highest") "__init__"
    mk_Highest := mkB_ok (c.fact 6 6)
    cd_Highest := cd_Highest
    cc_Highest := cc_Highest
    fi_Highest := fi_Highest
    sm_Highest := smB_ok (c.fact 6 8)
    k_AsOften := He.ma K (He.ga K "AsOften") "kept"
    fc_AsOften := factB_ok (c.fact 6 9)
    fk_AsOften := funP_of (c.def_ (d := ⟨fun K => (He.ma K (He.ga K "AsOften") "kept"), "kept", "AsOften.kept", inC 33 1, [], false⟩) 3 14) rfl rfl
    i_AsOften := He.ma K (He.ga K "AsOften") "__init__"
    mk_AsOften := mkB_ok (c.fact 6 10)
    cd_AsOften := cd_AsOften
    cc_AsOften := cc_AsOften
    fi_AsOften := fi_AsOften
    sm_AsOften := smB_ok (c.fact 6 12)
    k_MoreOften := He.ma K (He.ga K "MoreOften") "kept"
    fc_MoreOften := factB_ok (c.fact 6 13)
    fk_MoreOften := funP_of (c.def_ (d := ⟨fun K => (He.ma K (He.ga K "MoreOften") "kept"), "kept", "MoreOften.kept", inC 34 1, [], false⟩) 3 16) rfl rfl
    i_MoreOften := He.ma K (He.ga K "MoreOften") "__init__"
    mk_MoreOften := mkB_ok (c.fact 6 14)
    cd_MoreOften := cd_MoreOften
    cc_MoreOften := cc_MoreOften
    fi_MoreOften := fi_MoreOften
    sm_MoreOften := smB_ok (c.fact 6 16)
    k_Trio := He.ma K (He.ga K "Trio") "kept"
    fc_Trio := factB_ok (c.fact 6 17)
    fk_Trio := funP_of (c.def_ (d := ⟨fun K => (He.ma K (He.ga K "Trio") "kept"), "kept", "Trio.kept", inC 35 1, [], false⟩) 3 18) rfl rfl
    i_Trio := He.ma K (He.ga K "Trio") "__init__"
    mk_Trio := mkB_ok (c.fact 6 18)
    cd_Trio := cd_Trio
    cc_Trio := cc_Trio
    fi_Trio := fi_Trio
    sm_Trio := smB_ok (c.fact 7 0)
    k_Not := He.ma K (He.ga K "Not") "kept"
    fc_Not := factB_ok (c.fact 7 1)
    fk_Not := funP_of (c.def_ (d := ⟨fun K => (He.ma K (He.ga K "Not") "kept"), "kept", "Not.kept", inC 37 1, [], false⟩) 4 0) rfl rfl
    i_Not := He.ma K (He.ga K "Not") "__init__"
    mk_Not := mkB_ok (c.fact 7 2)
    cd_Not := cd_Not
    cc_Not := cc_Not
    fi_Not := fi_Not
    sm_Not := smB_ok (c.fact 7 4)
    k_Both := He.ma K (He.ga K "Both") "kept"
    fc_Both := factB_ok (c.fact 7 5)
    fk_Both := funP_of (c.def_ (d := ⟨fun K => (He.ma K (He.ga K "Both") "kept"), "kept", "Both.kept", inC 38 1, [], false⟩) 4 2) rfl rfl
    i_Both := He.ma K (He.ga K "Both") "__init__"
    mk_Both := mkB_ok (c.fact 7 6)
    cd_Both := cd_Both
    cc_Both := cc_Both
    fi_Both := fi_Both
    sm_Both := smB_ok (c.fact 7 8)
    k_Either := He.ma K (He.ga K "Either") "kept"
    fc_Either := factB_ok (c.fact 7 9)
    fk_Either := funP_of (c.def_ (d := ⟨fun K => (He.ma K (He.ga K "Either") "kept"), "kept", "Either.kept", inC 39 1, [], false⟩) 4 4) rfl rfl
    i_Either := He.ma K (He.ga K "Either") "__init__"
    mk_Either := mkB_ok (c.fact 7 10)
    cd_Either := cd_Either
    cc_Either := cc_Either
    fi_Either := fi_Either
    sm_Either := smB_ok (c.fact 7 12)
    apart := apartB_ok (c.fact 7 13) }, He.ga K "law", gloB_ok X G (c.fact 2 14), funP_of (c.def_ (d := ⟨fun K => (He.ga K "law"), "law", "law", top 77, [], false⟩) 1 16) rfl rfl⟩
theorem law_facts {P : Program} {w : World} {K : PySem.W.Frag} {h : Heap} {mg : Str → Option Value} {f : Addr} (hP : P = PySem.Challenge.pw_forkbeats_k46_whole_fork_added) (X : K.In h) (G : h.Ns mainGlobals mg) (hf : mg ("law" : Str) = some (.ref f)) (c : SaysK K) :
    ∃ fd : FuncData, (∀ (s : Shared) (v : Value), BindsTo s fd ⟨[v], []⟩ [("_law_script", v)]) ∧ ∀ base : Heap, K.In base → base.Ns mainGlobals mg → FnOk P w K mg base CX0 17 f fd ["_law_script"] (fun vs H Q E => spLaw K vs H Q ∧ E = E0) := by
  obtain ⟨T, a, ha, fd, F⟩ := txt_of hP X G c
  rw [hf] at ha
  cases ha
  have b := FunD.bindsA (ps := ["_law_script"]) F fun _ _ _ _ _ _ us hl => match us, hl with | [_], _ => rfl
  exact ⟨fd, fun s v => b s [v] rfl, fun base _ _ => w_law T F⟩
end Fb
open PySem PySem.W PySem.Calls PyProof.Rows
theorem PySem.Challenge.cw_forkbeats_k46_whole_fork_added_holds : PySem.Challenge.rw_forkbeats_k46_whole_fork_added.Holds := by
  w_on; o_law
  refine HandSHeadRun.head_any (r := OpenLaw.row PySem.Challenge.rw_forkbeats_k46_whole_fork_added) (q := Fb.qv) (H := Fb.hk) (ob := Fb.ob) (M := 12000) (loose := Fb.loose) (d := HandSHeadRun.topDef (OpenLaw.row PySem.Challenge.rw_forkbeats_k46_whole_fork_added).prog 77) (kwd := []) Fb.ob_eq
    (by kernel_rfl) (fun s => by kernel_rfl) Fb.run (by kernel_rfl) (by kernel_rfl) (by kernel_rfl) (by rfl) (by first | assumption | decide +kernel) (by decide +kernel) ⟨rfl, rfl, rfl, rfl, rfl, by decide +kernel⟩ ?hw ?hc
  case hw => w_witness2
  case hc =>
    refine L2.walk_ofE (l := PySem.Challenge.rw_forkbeats_k46_whole_fork_added) (n := 63) (k := 17) (x := "_law_script") (CX := L2.CX0) rfl (by decide) (by kernel_rfl) ⟨rfl, by decide, by decide⟩ ?F (fun _ _ _ _ z => z)
    intro w mg fa h Y G hmg0
    obtain ⟨K, KX, c⟩ := Y
    have hmg : mg ("law" : PySem.Str) = some (.ref fa) := by
      have e : (HandSHeadRun.topDef (OpenLaw.row PySem.Challenge.rw_forkbeats_k46_whole_fork_added).prog 77).name = ("law" : PySem.Str) := by kernel_rfl
      rw [← e]
      exact hmg0
    obtain ⟨fd, hb, hF⟩ := Fb.law_facts (P := (PySem.Challenge.rw_forkbeats_k46_whole_fork_added).prog) (w := w) rfl KX G hmg c
    exact ⟨K, fd, _, KX, hb, fun H a ns hl _ hS => ⟨⟨a, ns, rfl, hS, fun _ => rfl⟩, rfl⟩, hF⟩
