import PyProof.Rows.All
import Wide.All
import OpenK.AllK
import Wide.FinOn
import HandS.ForExc
import HandS.HeadEnd
import HandS.Head2
import HandS.HeadHook4
import HandS.HeadWalk
import HandS.ForMost
import HandS.Walk
import HandS.Wide
import HandS.Deep
import HandS.TupAny
import HandS.TupMul
import HandS.Conv
import HandS.Codes
import HandS.IsInst
import HandS.Lambda
import HandS.StrMore
import HandS.Style
import HandS.ExcCtx
import KE.GoesEnum
import HandS.TupLen
import KE.KTupSum
import KE.KRevSl
import HandS.Flow
import HandS.Strs
import KE.KDictZip
import HandS.Spec
import HandS.Defaults
import HandS.HotCalls
import HandS.ExcIs
import HandS.CallLocal
import PyProof.ExcBaseAll.ValueError
import PySem.Challenge.RW_bytefates_k19_errors_in_order
set_option Elab.async false
set_option linter.all false
set_option maxRecDepth 100000
set_option maxHeartbeats 4000000
namespace PyH
open PySem PySem.Spec PyProof.Rows L2 He
/-! the head's facts, looked up among the objects that the module's names reach in four plain steps (nothing struck twice: quicker in the kernel) -/
def near1 (g : Addr → Option Obj) (l : List Addr) : List Addr := l.flatMap fun a => match g a with
  | some o => refsD o
  | none => []
/-- but for the module's names, that each def knows -/
def near2 (g : Addr → Option Obj) (l : List Addr) : List Addr := l.flatMap fun a => match g a with
  | some o => (refsD o).filter fun b => !(b == mainGlobals)
  | none => []
def nearY (g : Addr → Option Obj) : List Addr :=
  let a0 := [mainGlobals]
  let a1 := near1 g a0
  let a2 := near2 g a1
  let a3 := near2 g a2
  a0 ++ (a1 ++ (a2 ++ a3))
def obY (fa : List Fa) (fn : List DefD) (ts : List Tab) (tf : List Defn) (ex : PySem.W.Frag → Bool) (g : Addr → Option Obj) : AlX :=
  (fun K : PySem.W.Frag => (obsT fa fn ts K, ex K && tabsB g tf K)) (frT g (nearY g))
theorem says_obY {fa : List Fa} {fn : List DefD} {ts : List Tab} {tf : List Defn} {ex : PySem.W.Frag → Bool} {w : World} {h : Heap} (e : obY fa fn ts tf ex h.get? = valX fn ts w) : SaysX fa fn ts tf ex w h (frT h.get? (nearY h.get?)) := by
  have e1 : obsT fa fn ts (frT h.get? (nearY h.get?)) = valT fn ts w := congrArg Prod.fst e
  have e2 : (ex (frT h.get? (nearY h.get?)) && tabsB h.get? tf (frT h.get? (nearY h.get?))) = true := congrArg Prod.snd e
  have b := ba e2
  have all := List.all_eq_true.mp b.2
  have one : ∀ p ∈ tf, ∃ o, h.get? (cT (frT h.get? (nearY h.get?)) p).2 = some o ∧ emptyTab o = true := by
    intro p hp
    have z := (ba (all p hp)).2
    cases q : h.get? (cT (frT h.get? (nearY h.get?)) p).2 with
    | some o => exact ⟨o, rfl, by rw [q] at z; exact z⟩
    | none => rw [q] at z; exact Bool.noConfusion z
  refine ⟨e1, b.1, fun p hp => (ba (all p hp)).1, ?_, ?_⟩
  · intro p hp
    have ⟨o, q, z⟩ := one p hp
    exact frT_none q z
  · intro p hp
    have ⟨o, q, z⟩ := one p hp
    rw [q, emptyTab_eq z]
def hookY (fa : List Fa) (fn : List DefD) (ts : List Tab) (tf : List Defn) (ex : PySem.W.Frag → Bool) : PySem.W.Hook :=
  { α := AlX, obs := fun s => obY fa fn ts tf ex s.heap.get?, val := fun w => valX fn ts w,
    says := fun w h => ∃ K : PySem.W.Frag, K.In h ∧ SaysX fa fn ts tf ex w h K,
    of := fun w h e => ⟨_, frT_in, says_obY e⟩,
    keeps := fun w h h' hs kk => by
      obtain ⟨K, i, c⟩ := hs
      exact ⟨K, i.keeps kk, c.t, c.more, c.hd, c.out, fun p hp => kk _ _ (c.empty p hp)⟩ }
theorem obY_eq {fa : List Fa} {fn : List DefD} {ts : List Tab} {tf : List Defn} {ex : PySem.W.Frag → Bool} {g : Addr → Option Obj} {s : Shared} (h : ∀ a, g a = s.heap.get? a) : obY fa fn ts tf ex g = (hookY fa fn ts tf ex).obs s := by
  obtain rfl : g = s.heap.get? := funext h
  rfl
theorem split2 {S α β γ : Type} {x : Option S} {f : S → α} {g : S → β} {h : S → γ} {a : α} {b : β} {c : γ} (h1 : x.map (fun s => (f s, g s)) = some (a, b)) (h2 : x.map h = some c) : x.map (fun s => (f s, g s, h s)) = some (a, b, c) := by
  cases x with
  | none => cases h1
  | some s =>
    have e1 : (f s, g s) = (a, b) := Option.some.inj h1
    have e2 : h s = c := Option.some.inj h2
    rw [Prod.mk.injEq] at e1
    show some (f s, g s, h s) = some (a, b, c)
    rw [e1.1, e1.2, e2]
end PyH

set_option Elab.async false
set_option linter.all false
set_option maxRecDepth 100000
set_option maxHeartbeats 4000000
/-! PyH0: what the module's run is asked, told without the small language: so the run can stand ahead of it. -/
namespace PyD
open PySem PySem.Spec PyProof.Rows L2
/-- one def of a text: its number, its name, its place at the top, whether it has a lambda, its parameters, its names, the lists that it changes, whether it gives back a list that may be changed -/
structure Dd where
  j : Nat
  x : PySem.Str
  i : Nat
  la : Bool
  ps : List PySem.Str
  N : List PySem.Str
  mu : List PySem.Str
  rc : Bool
  dv : List PySem.Str := []
def biN : List PySem.Str := ["len", "int", "abs", "max", "min", "sum", "tuple", "str", "bool", "list", "range", "enumerate", "zip", "isinstance", "dict"]
/-- the errors' names of a text: the places of the two defs, the classes that are asked for, the labels, the answers for each class -/
structure Er where
  iN : Nat
  iE : Nat
  xs : List PySem.Str
  l1 : PySem.Str
  l2 : PySem.Str
  bits : List (List Bool)
def excB (K : PySem.W.Frag) (D : Addr) : Bool :=
  He.eqO (PySem.W.findIn K (.ref D) "__getattribute__") (some (some (.builtin "BaseException.__getattribute__"))) && (He.eqO (PySem.W.findIn K (.ref D) "__getattr__") (some none) && (decide (PySem.W.subIn K (.ref D) (.type "BaseException") = some true) && (PySem.W.hasDictIn K D &&
    (He.eqO (PySem.W.findIn K (.ref D) "__class__") (some (some (.builtin "object.__class__"))) && (He.eqO (PySem.W.specialIn K (.builtin "object.__class__") "__get__") (some (some (.builtin "getset_descriptor.__get__"))) && (decide (PySem.W.takesIn K (.builtin "object.__class__") = some true) && decide (PySem.W.mroIn K D (.type "object") = some true)))))))
def veN : PySem.Str := "ValueError"
def hkitB (K : PySem.W.Frag) (D : Addr) (x : PySem.Str) (b : Bool) : Bool := if x == veN then decide (PySem.W.kitOne K (.ref D) (.type "ValueError") = some b) else decide (PySem.W.kitOne K (.ref D) (.ref (He.ga K x)) = some b)
def hkitsB (K : PySem.W.Frag) (D : Addr) : List PySem.Str → List Bool → Bool
  | [], [] => true
  | x :: xs, b :: bs => hkitB K D x b && hkitsB K D xs bs
  | _, _ => false
def feN : PySem.Str := "FateError"
def lnN : PySem.Str := "_law_names"
def leN : PySem.Str := "_law_error"
def clsB (K : PySem.W.Frag) (xs : List PySem.Str) : List PySem.Str → List (List Bool) → Bool
  | [], [] => true
  | c :: cs, bs :: r => (excB K (He.ga K c) && (decide (PySem.W.exmOne K (.ref (He.ga K c)) (.ref (He.ga K feN)) = some true) && hkitsB K (He.ga K c) xs bs)) && clsB K xs cs r
  | _, _ => false
def Er.exB (e : Er) (cl : List PySem.Str) (K : PySem.W.Frag) : Bool := clsB K e.xs cl e.bits
def Er.faL (e : Er) : List He.Fa := .glo lnN :: .glo leN :: .glo feN :: .free veN :: (e.xs.filter fun x => !(x == veN)).map .glo
inductive Cn where
  | int (i : Int) | str (z : PySem.Str) | tup (vs : List He.Dv) | dic (kvs : List (PySem.Str × Int))
def dvB : He.Dv → Bool
  | .non => true
  | .bl _ => true
  | .int _ => true
  | .str _ => true
  | _ => false
def cnFa : PySem.Str × Cn → He.Fa
  | (x, .int i) => .int x i
  | (x, .str z) => .str x z
  | (x, _) => .glo x
def cnTs : PySem.Str × Cn → Option He.Tab
  | (x, .dic kvs) => some (fun K => He.ga K x, kvs.map Prod.fst)
  | _ => none
def cnB (K : PySem.W.Frag) : PySem.Str × Cn → Bool
  | (x, .tup vs) => (He.tupB K x vs && (match K.lookup (He.ga K x) with | some o => o.dict.isNone | none => true)) && vs.all dvB
  | (x, .dic kvs) => He.valsB K (He.ga K x) (kvs.map fun p => (p.1, .int p.2))
  | _ => true
def cnsB (l : List (PySem.Str × Cn)) (K : PySem.W.Frag) : Bool := l.all (cnB K)
/-- a text's tables -/
structure Rw where
  top : Nat → Stmt
  dd : List Dd
  cl : List PySem.Str
  e : Er
  cn : List (PySem.Str × Cn)
def Rw.las (T : Rw) : List Dd := T.dd.filter Dd.la
def Rw.tfL (T : Rw) : List He.Defn := T.las.map fun d => (d.x, none)
def Rw.dis (T : Rw) (K : PySem.W.Frag) : Bool := decide (T.las.map fun d => (He.cT K (d.x, none)).2).Nodup
def Rw.dN (T : Rw) (d : Dd) : He.DefD := ⟨(d.x, none), d.x, d.x, defArgs (T.top d.i), defBody (T.top d.i), defScope (T.top d.i), [], []⟩
def Rw.eN (T : Rw) (i : Nat) (x : PySem.Str) : He.DefD := ⟨(x, none), x, x, defArgs (T.top i), defBody (T.top i), defScope (T.top i), [], []⟩
def Rw.fa (T : Rw) : List He.Fa := (T.dd.map (fun d => .glo d.x) ++ (biN.map .free ++ T.cl.flatMap fun x => [.glo x, .exc x])) ++ (T.e.faL ++ T.cn.map cnFa)
def Rw.fn (T : Rw) : List He.DefD := T.dd.map T.dN ++ [T.eN T.e.iN lnN, T.eN T.e.iE leN]
def Rw.ts (T : Rw) : List He.Tab := T.cn.filterMap cnTs
def Rw.ex (T : Rw) (K : PySem.W.Frag) : Bool := T.dis K && (T.e.exB T.cl K && cnsB T.cn K)
abbrev Rw.hk (T : Rw) : PySem.W.Hook := PyH.hookY T.fa T.fn T.ts T.tfL T.ex
def Rw.ob (T : Rw) (s : PySem.W.SharedT) : He.AlX := PyH.obY T.fa T.fn T.ts T.tfL T.ex (HandSHeadRun.getT s)
end PyD

set_option Elab.async false
set_option linter.all false
set_option maxRecDepth 100000
set_option maxHeartbeats 0
namespace TX
open PySem PySem.Spec PyProof.Rows L2 PyD
def top (i : Nat) : Stmt := PySem.Challenge.pw_bytefates_k19_errors_in_order.main.body.getD i (.Pass ⟨0, 0, 0, 0⟩)
def d_is_whole : Dd := ⟨0, "is_whole", 22, false, ["value", "low", "high"], ["value", "low", "high"], [], false, []⟩
def d_is_word : Dd := ⟨1, "is_word", 23, false, ["value", "words"], ["value", "words"], [], false, []⟩
def d_is_one_of : Dd := ⟨2, "is_one_of", 24, false, ["value", "numbers"], ["value", "numbers"], [], false, []⟩
def d_has_sizes : Dd := ⟨3, "has_sizes", 25, false, ["value"], ["value"], [], false, []⟩
def d_is_machine : Dd := ⟨4, "is_machine", 26, false, ["value"], ["value"], [], false, []⟩
def d_is_family : Dd := ⟨5, "is_family", 27, false, ["value"], ["value", "machine"], [], false, []⟩
def d_are_widths : Dd := ⟨6, "are_widths", 28, false, ["value"], ["value", "width"], [], false, []⟩
def d_is_part : Dd := ⟨7, "is_part", 29, false, ["value", "deep"], ["value", "deep", "part"], [], false, []⟩
def d_all_widths : Dd := ⟨8, "all_widths", 30, false, ["shape"], ["shape", "found", "part"], [], false, []⟩
def d_is_shape : Dd := ⟨9, "is_shape", 31, false, ["value"], ["value"], [], false, []⟩
def d_need_machine : Dd := ⟨31, "need_machine", 32, false, ["machine"], ["machine"], [], false, []⟩
def d_need_family : Dd := ⟨135, "need_family", 33, false, ["family"], ["family"], [], false, []⟩
def d_up_to : Dd := ⟨32, "up_to", 35, false, ["place", "alignment"], ["place", "alignment"], [], false, []⟩
def d_kind_size : Dd := ⟨33, "kind_size", 36, false, ["machine", "kind"], ["machine", "kind"], [], false, []⟩
def d_measured : Dd := ⟨34, "measured", 37, false, ["machine", "shape"], ["machine", "shape", "size", "alignment", "place", "most", "part"], [], false, []⟩
def d_is_plain : Dd := ⟨35, "is_plain", 46, false, ["long", "value"], ["long", "value"], [], false, []⟩
def d_is_step : Dd := ⟨36, "is_step", 47, false, ["long", "value"], ["long", "value", "step"], [], false, []⟩
def d_is_write : Dd := ⟨37, "is_write", 56, false, ["long", "value"], ["long", "value"], [], false, []⟩
def d_is_look : Dd := ⟨38, "is_look", 57, false, ["long", "value"], ["long", "value"], [], false, []⟩
def d_writes_of : Dd := ⟨39, "writes_of", 58, false, ["program"], ["program", "item"], [], false, []⟩
def d_looks_of : Dd := ⟨40, "looks_of", 59, false, ["program"], ["program", "item"], [], false, []⟩
def d_means : Dd := ⟨41, "means", 60, false, ["writes", "look"], ["writes", "look"], [], false, []⟩
def d_are_items : Dd := ⟨42, "are_items", 61, false, ["value"], ["value"], [], false, []⟩
def d_is_program : Dd := ⟨43, "is_program", 62, false, ["value"], ["value", "long", "before", "later", "item", "writes", "looks", "look"], [], false, []⟩
def d_need_program : Dd := ⟨44, "need_program", 63, false, ["program"], ["program"], [], false, []⟩
def d_are_values : Dd := ⟨45, "are_values", 64, false, ["widths", "value"], ["widths", "value", "at"], [], false, []⟩
def d_has_contents : Dd := ⟨46, "has_contents", 65, false, ["program", "value"], ["program", "value", "writes", "at"], [], false, []⟩
def d_need_contents : Dd := ⟨89, "need_contents", 66, false, ["program", "contents"], ["program", "contents"], [], false, []⟩
def d_are_bytes : Dd := ⟨90, "are_bytes", 67, false, ["value", "many"], ["value", "many", "byte"], [], false, []⟩
def d_need_bytes : Dd := ⟨91, "need_bytes", 68, false, ["value", "many"], ["value", "many"], [], false, []⟩
def d_are_contents : Dd := ⟨47, "are_contents", 69, false, ["program", "value"], ["program", "value"], [], false, []⟩
def d_does_suit : Dd := ⟨48, "does_suit", 70, false, ["program", "machine", "role"], ["program", "machine", "role", "items", "item"], [], false, []⟩
def d_need_fit : Dd := ⟨92, "need_fit", 71, false, ["program", "writers", "readers"], ["program", "writers", "readers", "machine"], [], false, []⟩
def d_suits : Dd := ⟨49, "suits", 72, false, ["program", "machine", "role"], ["program", "machine", "role"], [], false, []⟩
def d_sent : Dd := ⟨105, "sent", 86, false, ["program", "machine", "contents", "old"], ["program", "machine", "contents", "old"], [], false, []⟩
def d_read : Dd := ⟨106, "read", 87, false, ["program", "writer", "reader", "contents", "old"], ["program", "writer", "reader", "contents", "old"], [], false, []⟩
def d_sent_fates : Dd := ⟨126, "sent_fates", 96, false, ["program", "machine"], ["program", "machine"], [], false, []⟩
def d_read_fates : Dd := ⟨127, "read_fates", 97, false, ["program", "writer", "reader"], ["program", "writer", "reader", "look"], [], false, []⟩
def d_right_looks : Dd := ⟨142, "right_looks", 104, false, ["program", "writer", "reader"], ["program", "writer", "reader"], [], false, []⟩
def d_wrong_for : Dd := ⟨143, "wrong_for", 105, false, ["program", "writer", "reader", "look"], ["program", "writer", "reader", "look", "pair"], [], false, []⟩
def d_bad_pairs : Dd := ⟨144, "bad_pairs", 106, false, ["program", "family"], ["program", "family", "found", "one", "other"], [], false, []⟩
def d_need_two : Dd := ⟨175, "need_two", 110, false, ["one", "other", "family"], ["one", "other", "family"], [], false, []⟩
def d_same_read : Dd := ⟨176, "same_read", 111, false, ["one", "other", "family"], ["one", "other", "family"], [], false, []⟩
def d_parting : Dd := ⟨177, "parting", 112, false, ["one", "other", "family"], ["one", "other", "family"], [], false, []⟩
def d_needless : Dd := ⟨185, "needless", 114, false, ["program", "family"], ["program", "family", "found", "word", "items", "index", "item"], [], false, []⟩
def d_told_out : Dd := ⟨152, "told_out", 117, false, ["program", "machine"], ["program", "machine"], [], false, []⟩
def d_least_clears : Dd := ⟨153, "least_clears", 118, false, ["program", "family"], ["program", "family", "found", "machine", "byte", "bit"], [], false, []⟩
def d_machines_for : Dd := ⟨158, "machines_for", 121, false, ["program", "family", "contents", "value"], ["program", "family", "contents", "value", "at"], [], false, []⟩
def d_apart : Dd := ⟨165, "apart", 126, false, ["program", "one_machine", "other_machine"], ["program", "one_machine", "other_machine", "lot", "told", "fate"], [], false, []⟩
def d_program_text : Dd := ⟨210, "program_text", 132, false, ["program"], ["program"], [], false, []⟩
def d__law_vat : Dd := ⟨12, "_law_vat", 134, false, ["script", "k"], ["script", "k", "cell"], [], true, []⟩
def d__law_under : Dd := ⟨13, "_law_under", 135, false, ["vat", "many"], ["vat", "many", "found", "wide"], ["vat"], false, []⟩
def d__law_some : Dd := ⟨14, "_law_some", 136, false, ["vat", "things"], ["vat", "things"], ["vat"], false, []⟩
def d__law_is_whole : Dd := ⟨15, "_law_is_whole", 137, false, ["value", "low", "high"], ["value", "low", "high"], [], false, []⟩
def d__law_is_in : Dd := ⟨17, "_law_is_in", 138, false, ["value", "numbers"], ["value", "numbers"], [], false, []⟩
def d__law_is_machine : Dd := ⟨18, "_law_is_machine", 139, false, ["value"], ["value", "room", "numbers"], [], false, []⟩
def d__law_wide : Dd := ⟨20, "_law_wide", 140, false, ["value", "deep"], ["value", "deep", "inner", "bad", "width", "found", "part"], [], false, []⟩
def d__law_widths : Dd := ⟨21, "_law_widths", 141, false, ["value"], ["value", "found"], [], false, []⟩
def d__law_machine : Dd := ⟨22, "_law_machine", 142, false, ["vat"], ["vat", "sizes", "order"], ["vat"], false, []⟩
def d__law_shape : Dd := ⟨24, "_law_shape", 143, false, ["vat", "deep"], ["vat", "deep", "way", "part"], ["vat"], false, []⟩
def d__law_small : Dd := ⟨54, "_law_small", 144, false, ["vat"], ["vat", "found"], ["vat"], false, []⟩
def d__law_plain : Dd := ⟨55, "_law_plain", 145, false, ["vat", "long"], ["vat", "long", "way", "at", "room", "there"], ["vat"], false, []⟩
def d__law_step : Dd := ⟨56, "_law_step", 146, false, ["vat", "long"], ["vat", "long", "times", "turn"], ["vat"], false, []⟩
def d__law_twisted : Dd := ⟨57, "_law_twisted", 147, false, ["vat", "shape"], ["vat", "shape"], ["vat"], false, []⟩
def d__law_program : Dd := ⟨58, "_law_program", 148, false, ["vat", "most"], ["vat", "most", "long", "shapes", "turn", "before", "behind", "shape", "steps", "number", "at", "item"], ["vat"], false, []⟩
def d__law_odd : Dd := ⟨27, "_law_odd", 151, false, ["vat", "depth"], ["vat", "depth", "some", "row", "part"], ["vat"], false, []⟩
def d__law_bent : Dd := ⟨28, "_law_bent", 152, false, ["vat", "value"], ["vat", "value", "near", "at", "way"], ["vat"], false, []⟩
def d__law_program_calls : Dd := ⟨250, "_law_program_calls", 153, true, ["odd"], ["odd", "found", "call"], ["found"], true, []⟩
def d__law_machine_calls : Dd := ⟨251, "_law_machine_calls", 154, true, ["program", "good", "odd"], ["program", "good", "odd", "found", "call"], ["found"], true, []⟩
def d__law_by : Dd := ⟨252, "_law_by", 155, true, ["call", "one", "other"], ["call", "one", "other"], [], false, []⟩
def d__law_family_calls : Dd := ⟨253, "_law_family_calls", 156, true, ["program", "odd"], ["program", "odd", "found", "call"], ["found"], true, []⟩
def d_law : Dd := ⟨254, "law", 157, true, ["script"], ["script", "k", "vat", "program", "machine", "odds", "odd", "found", "one", "word", "small", "big"], ["found", "vat"], false, []⟩
def dd0 : List Dd := [d_is_whole, d_is_word, d_is_one_of, d_has_sizes, d_is_machine, d_is_family, d_are_widths, d_is_part, d_all_widths, d_is_shape, d_need_machine, d_need_family, d_up_to, d_kind_size, d_measured, d_is_plain]
def dd1 : List Dd := [d_is_step, d_is_write, d_is_look, d_writes_of, d_looks_of, d_means, d_are_items, d_is_program, d_need_program, d_are_values, d_has_contents, d_need_contents, d_are_bytes, d_need_bytes, d_are_contents, d_does_suit]
def dd2 : List Dd := [d_need_fit, d_suits, d_sent, d_read, d_sent_fates, d_read_fates, d_right_looks, d_wrong_for, d_bad_pairs, d_need_two, d_same_read, d_parting, d_needless, d_told_out, d_least_clears, d_machines_for]
def dd3 : List Dd := [d_apart, d_program_text, d__law_vat, d__law_under, d__law_some, d__law_is_whole, d__law_is_in, d__law_is_machine, d__law_wide, d__law_widths, d__law_machine, d__law_shape, d__law_small, d__law_plain, d__law_step, d__law_twisted]
def dd4 : List Dd := [d__law_program, d__law_odd, d__law_bent, d__law_program_calls, d__law_machine_calls, d__law_by, d__law_family_calls, d_law]
def dd : List Dd := dd0 ++ dd1 ++ dd2 ++ dd3 ++ dd4
def cl0 : List PySem.Str := ["FateError", "InvalidMachine", "InvalidFamily", "InvalidShape", "InvalidProgram", "InvalidContents", "InvalidBytes", "InvalidRole", "InvalidIndex", "InvalidNumber", "InvalidStep", "InvalidSteps", "InvalidText", "Unlike", "Misfit", "NothingToUndo"]
def cl : List PySem.Str := cl0
def cls0 : List (PySem.Str × Nat) := [("FateError", 0), ("InvalidMachine", 1), ("InvalidFamily", 2), ("InvalidShape", 3), ("InvalidProgram", 4), ("InvalidContents", 5), ("InvalidBytes", 6), ("InvalidRole", 7), ("InvalidIndex", 8), ("InvalidNumber", 9), ("InvalidStep", 10), ("InvalidSteps", 11), ("InvalidText", 12), ("Unlike", 13), ("Misfit", 14), ("NothingToUndo", 15)]
def cls : List (PySem.Str × Nat) := cls0
def cn0 : List (PySem.Str × Cn) := [("KINDS", .tup [.str "s", .str "m", .str "l"]), ("ORDERS", .tup [.str "big", .str "little", .str "pairs"]), ("WIDTHS", .dic [("s", 8), ("m", 16), ("l", 32)]), ("TIMES", .int 1000000000000000000000000000000), ("NOUGHT", .tup [.str "nought"])]
def cn : List (PySem.Str × Cn) := cn0
def bt0 : List Bool := [false, false, false, false, false, false, false, false, false, false, false, false, false, false, false, false, true]
def bt1 : List Bool := [true, false, false, false, false, false, false, false, false, false, false, false, false, false, false, false, true]
def bt2 : List Bool := [false, true, false, false, false, false, false, false, false, false, false, false, false, false, false, false, true]
def bt3 : List Bool := [false, false, true, false, false, false, false, false, false, false, false, false, false, false, false, false, true]
def bt4 : List Bool := [false, false, false, true, false, false, false, false, false, false, false, false, false, false, false, false, true]
def bt5 : List Bool := [false, false, false, false, true, false, false, false, false, false, false, false, false, false, false, false, true]
def bt6 : List Bool := [false, false, false, false, false, true, false, false, false, false, false, false, false, false, false, false, true]
def bt7 : List Bool := [false, false, false, false, false, false, true, false, false, false, false, false, false, false, false, false, true]
def bt8 : List Bool := [false, false, false, false, false, false, false, true, false, false, false, false, false, false, false, false, true]
def bt9 : List Bool := [false, false, false, false, false, false, false, false, true, false, false, false, false, false, false, false, true]
def bt10 : List Bool := [false, false, false, false, false, false, false, false, false, true, false, false, false, false, false, false, true]
def bt11 : List Bool := [false, false, false, false, false, false, false, false, false, false, true, false, false, false, false, false, true]
def bt12 : List Bool := [false, false, false, false, false, false, false, false, false, false, false, true, false, false, false, false, true]
def bt13 : List Bool := [false, false, false, false, false, false, false, false, false, false, false, false, true, false, false, false, true]
def bt14 : List Bool := [false, false, false, false, false, false, false, false, false, false, false, false, false, true, false, false, true]
def bt15 : List Bool := [false, false, false, false, false, false, false, false, false, false, false, false, false, false, true, false, true]
def bts0 : List (List Bool) := [bt0, bt1, bt2, bt3, bt4, bt5, bt6, bt7, bt8, bt9, bt10, bt11, bt12, bt13, bt14, bt15]
def bts : List (List Bool) := bts0
def xs0 : List PySem.Str := ["InvalidMachine", "InvalidFamily", "InvalidShape", "InvalidProgram", "InvalidContents", "InvalidBytes", "InvalidRole", "InvalidIndex", "InvalidNumber", "InvalidStep", "InvalidSteps", "InvalidText", "Unlike", "Misfit", "NothingToUndo", "TooMany"]
def xs1 : List PySem.Str := ["ValueError"]
def xs : List PySem.Str := xs0 ++ xs1
def e : Er := ⟨149, 150, xs, "machine family shape program contents bytes role index number step steps", " text unlike misfit undo many value", bts⟩
def rw_ : Rw := ⟨top, dd, cl, e, cn⟩
def loose0 : List PySem.Str := ["FateError", "InvalidMachine", "InvalidFamily", "InvalidShape", "InvalidProgram", "InvalidContents", "InvalidBytes", "InvalidRole", "InvalidIndex", "InvalidNumber", "InvalidStep", "InvalidSteps", "InvalidText", "Unlike", "Misfit", "NothingToUndo"]
def loose1 : List PySem.Str := ["TooMany", "is_whole", "is_word", "is_one_of", "has_sizes", "is_machine", "is_family", "are_widths", "is_part", "all_widths", "is_shape", "need_machine", "need_family", "up_to", "kind_size", "measured"]
def loose2 : List PySem.Str := ["byte_order", "bit_spots", "spots_at", "bits_of", "all_bits", "leaf_widths", "is_plain", "is_step", "idle", "chained", "plain_move", "so_often", "move_of", "all_moves", "moved", "is_write"]
def loose3 : List PySem.Str := ["is_look", "writes_of", "looks_of", "means", "are_items", "is_program", "need_program", "are_values", "has_contents", "need_contents", "are_bytes", "need_bytes", "are_contents", "does_suit", "need_fit", "suits"]
def loose4 : List PySem.Str := ["with_bits", "written", "seen", "sent_by", "read_by", "bits_of_number", "number_of_bits", "as_memory", "as_bytes", "as_values", "sent_bits", "read_values", "sent", "read", "value_fates", "all_values"]
def loose5 : List PySem.Str := ["old_fates", "sent_fates_of", "read_fates_of", "meant", "sent_fates", "read_fates", "unlike_bit", "with_one", "parted", "wrong_bit", "rightness", "right_looks", "wrong_for", "bad_pairs", "outline", "parted_by"]
def loose6 : List PySem.Str := ["need_two", "same_read", "parting", "without", "needless", "old_bits", "told_out", "least_clears", "bit_by", "can_send", "machines_for", "lot_of", "joined", "tied", "marked", "apart"]
def loose7 : List PySem.Str := ["shape_word", "step_words", "item_line", "text_of", "program_text", "_law_vat", "_law_under", "_law_some", "_law_is_whole", "_law_is_in", "_law_is_machine", "_law_wide", "_law_widths", "_law_machine", "_law_shape", "_law_small"]
def loose8 : List PySem.Str := ["_law_plain", "_law_step", "_law_twisted", "_law_program", "_law_names", "_law_error", "_law_odd", "_law_bent", "_law_program_calls", "_law_machine_calls", "_law_by", "_law_family_calls", "KINDS", "ORDERS", "WIDTHS", "TIMES"]
def loose9 : List PySem.Str := ["NOUGHT"]
def loose : List PySem.Str := loose0 ++ loose1 ++ loose2 ++ loose3 ++ loose4 ++ loose5 ++ loose6 ++ loose7 ++ loose8 ++ loose9
abbrev R : PySem.W.OpenRow := PySem.W.OpenLaw.row PySem.Challenge.rw_bytefates_k19_errors_in_order
section
open HandSHeadRun PySem.W PySem.Calls
theorem run0a (w : World) : ∀ os : PySem.OsState, (HandSHeadRun.endF (HandSHeadRun.stepQ (HandSHeadRun.denQ HandSHeadRun.tabQ) R.prog (w.withFollow "special-get-raises" false)) 12000 R.prog (w.withFollow "special-get-raises" false) os).map (fun s => (HandSHeadRun.looksF R.prog (boot_heap (w.withFollow "special-get-raises" false).params) s.abs, HandSHeadRun.seenQ (PySem.W.view R.prog [157]) loose (importedModules R.prog.main.body) (fun s => PySem.W.xlAt (PySem.W.view R.prog [157]) [] s && PySem.W.recOk R.toRowW.records s) s.abs)) = some (true, PySem.W.openGood (PySem.W.view R.prog [157]) loose) := fun os => by kernel_rfl
theorem run0c (w : World) : ∀ os : PySem.OsState, (HandSHeadRun.endF (HandSHeadRun.stepQ (HandSHeadRun.denQ HandSHeadRun.tabQ) R.prog (w.withFollow "special-get-raises" false)) 12000 R.prog (w.withFollow "special-get-raises" false) os).map rw_.ob = some (rw_.hk.val (w.withFollow "special-get-raises" false)) := fun os => by kernel_rfl
theorem run0 (w : World) : HandSHeadRun.RunEq R (PySem.W.view R.prog [157]) rw_.hk rw_.ob 12000 loose (w.withFollow "special-get-raises" false) := fun os => PyH.split2 (run0a w os) (run0c w os)
theorem run1a (w : World) : ∀ os : PySem.OsState, (HandSHeadRun.endF (HandSHeadRun.stepQ (HandSHeadRun.denQ HandSHeadRun.tabQ) R.prog (w.withFollow "special-get-raises" true)) 12000 R.prog (w.withFollow "special-get-raises" true) os).map (fun s => (HandSHeadRun.looksF R.prog (boot_heap (w.withFollow "special-get-raises" true).params) s.abs, HandSHeadRun.seenQ (PySem.W.view R.prog [157]) loose (importedModules R.prog.main.body) (fun s => PySem.W.xlAt (PySem.W.view R.prog [157]) [] s && PySem.W.recOk R.toRowW.records s) s.abs)) = some (true, PySem.W.openGood (PySem.W.view R.prog [157]) loose) := fun os => by kernel_rfl
theorem run1c (w : World) : ∀ os : PySem.OsState, (HandSHeadRun.endF (HandSHeadRun.stepQ (HandSHeadRun.denQ HandSHeadRun.tabQ) R.prog (w.withFollow "special-get-raises" true)) 12000 R.prog (w.withFollow "special-get-raises" true) os).map rw_.ob = some (rw_.hk.val (w.withFollow "special-get-raises" true)) := fun os => by kernel_rfl
theorem run1 (w : World) : HandSHeadRun.RunEq R (PySem.W.view R.prog [157]) rw_.hk rw_.ob 12000 loose (w.withFollow "special-get-raises" true) := fun os => PyH.split2 (run1a w os) (run1c w os)
end
theorem run (w : World) : HandSHeadRun.RunEq R (PySem.W.view R.prog [157]) rw_.hk rw_.ob 12000 loose w :=
  PySem.W.byRow2 "special-get-raises" (P := fun w => HandSHeadRun.RunEq R (PySem.W.view R.prog [157]) rw_.hk rw_.ob 12000 loose w) run0 run1 w
end TX
set_option Elab.async false
set_option linter.all false
set_option maxRecDepth 100000
set_option maxHeartbeats 4000000
/-! PyN1: tuples of tuples of whole numbers and texts as keys of a dict. -/
namespace PySem
open Sem (wp)
section
variable {prog : Program} {w : World} {K : Type} [DecidableEq K] (knd : KeyKind prog w K)
/-- the items are tuples that are keys -/
inductive TupsAre (h : Heap) : List (List K) → List Value → Prop
  | nil : TupsAre h [] []
  | cons {k : List K} {a : Addr} {ks : List (List K)} {vs : List Value} : IsTupleKey knd h k a → TupsAre h ks vs → TupsAre h (k :: ks) (.ref a :: vs)
def IsNestKey (h : Heap) (ks : List (List K)) (a : Addr) : Prop := ∃ o items n, h.get? a = some o ∧ o.cls = .type "tuple" ∧ o.data = .seq items n ∧ TupsAre knd h ks items.toList
variable {knd}
theorem TupsAre.inj {h : Heap} {x y : List (List K)} {vs : List Value} (hx : TupsAre knd h x vs) (hy : TupsAre knd h y vs) : x = y := by
  induction hx generalizing y with
  | nil => cases hy; rfl
  | cons h1 _ ih =>
    cases hy with
    | cons h2 t2 => rw [h1.inj h2, ih t2]
theorem TupsAre.keeps {h h' : Heap} {ks : List (List K)} {vs : List Value} {d : Addr} {o : Obj} {es ep} (x : TupsAre knd h ks vs) (ho : h.get? d = some o) (hd : o.data = .dict es ep) (hs : Heap.SameBut d h h') : TupsAre knd h' ks vs := by
  induction x with
  | nil => exact .nil
  | cons h1 _ ih => exact .cons (h1.keeps ho hd hs) ih
theorem IsNestKey.typeIs {s : Shared} {ks : List (List K)} {a : Addr} (x : IsNestKey knd s.heap ks a) : s.TypeIs (.ref a) "tuple" := let ⟨o, _, _, ho, hc, _⟩ := x; ⟨o, ho, hc⟩
theorem IsNestKey.inj {h : Heap} {a : Addr} {x y : List (List K)} (hx : IsNestKey knd h x a) (hy : IsNestKey knd h y a) : x = y := by
  obtain ⟨o, items, n, ho, _, hd, hi⟩ := hx
  obtain ⟨o', items', n', ho', _, hd', hi'⟩ := hy
  obtain rfl : o = o' := Option.some.inj (ho.symm.trans ho')
  rw [hd] at hd'
  injection hd' with h1 _
  subst h1
  exact hi.inj hi'
theorem IsNestKey.keeps {h h' : Heap} {ks : List (List K)} {a d : Addr} {o : Obj} {es ep} (x : IsNestKey knd h ks a) (ho : h.get? d = some o) (hd : o.data = .dict es ep) (hs : Heap.SameBut d h h') : IsNestKey knd h' ks a := by
  obtain ⟨o', items, n, ho', hc, hd', hi⟩ := x
  have hne : a ≠ d := by
    rintro rfl
    obtain rfl : o' = o := Option.some.inj (ho'.symm.trans ho)
    rw [hd] at hd'; exact nomatch hd'
  exact ⟨o', items, n, (hs.2 a hne).trans ho', hc, hd', hi.keeps ho hd hs⟩
def nestHash (knd : KeyKind prog w K) (ks : List (List K)) : Int := reduceHash (Builtin.Tuple.tupleHashOf (ks.map (tupleKeyHash knd)))
def nestDraws (ks : List (List K)) : Nat := (ks.map fun k => k.length + 1).sum + 1
variable {A : Around} {E : Value → Shared → Prop} {s : Shared}
theorem wpAny_pyHash_nest {ks : List (List K)} {a : Addr} {Q : Int → Shared → Prop} (hu : A.units + 1 < cLine) (hu1 : A.in1.units < cLine) (hk : IsNestKey knd s.heap ks a) (h : Q (nestHash knd ks) { s with toks := s.toks + nestDraws ks }) :
    wpAny (model prog w) A (pyHash (.ref a)) Q E s := by
  have hT := hk.typeIs
  obtain ⟨o, items, n, ho, _, hd, hi⟩ := hk
  unfold pyHash
  first | unfold pyHashByItsType | skip
  first | refine wpAny_bind (wpAny_cRoomFor_or (.inr (by omega)) ?_) | skip
  refine wpAny_bind (wpAny_specialOf hT F.slot_tuple_hash.lookup ?_)
  show wpAny _ _ (if (some (Value.builtin "tuple.__hash__") == some Value.none) = true then _ else _) Q E s
  rw [if_neg (by rw [beq_builtin_none]; exact Bool.false_ne_true)]
  refine wpAny_bind (wpAny_specialOf hT F.slot_tuple_hash.lookup ?_)
  show wpAny _ _ (callSpecialIfBoundUnlessNone? (.ref a) "__hash__" _ >>= _) Q E s
  refine wpAny_bind (wpAny_callSpecialIfBoundUnlessNone?_slot hT F.slot_tuple_hash (wpAny_call_entry F.slot_tuple_hash hT F.entry_tuple_hash ?_ (F.args_tuple_hash_1 _)))
  show wpAny _ _ (Builtin.Tuple.tupleItemsOf (.ref a) >>= _) _ _ s
  refine wpAny_bind (wpAny_tupleItemsOf ho hd ?_)
  refine wpAny_bind ?_
  rw [← Array.forIn_toList]
  refine wpAny_forIn_list _
    (fun rest (b : Array Int) s' => ∃ done left, ks = done ++ left ∧ TupsAre knd s.heap left rest ∧ b.toList = done.map (tupleKeyHash knd) ∧ s' = { s with toks := s.toks + (done.map fun k => k.length + 1).sum })
    _ ?_ ?_ _ _ ⟨[], ks, rfl, hi, rfl, rfl⟩
  · rintro x rest b s' ⟨done, left, rfl, hl, hb, rfl⟩
    cases hl with
    | @cons k y ks' _ h1 hl' =>
      refine wpAny_bind (wpAny_pyHash_tuple (knd := knd) (ks := k) ?_ h1 ?_)
      · assumption
      · first
          | exact wpAny_pure ⟨done ++ [k], ks', by simp, hl', by simp [hb], by simp [Nat.add_assoc]⟩
          | exact wpAny_bind (wpAny_pure (wpAny_pure ⟨done ++ [k], ks', by simp, hl', by simp [hb], by simp [Nat.add_assoc]⟩))
  · rintro b s' ⟨done, left, rfl, hl, hb, rfl⟩
    cases hl
    rw [List.append_nil] at h
    show wpAny _ _ (retInt (Builtin.Tuple.tupleHashOf b.toList)) _ _ _
    rw [hb]
    refine wpAny_ret_mkInt ?_
    show wpAny _ _ (if (decide (-(2 : Int) ^ 63 ≤ Builtin.Tuple.tupleHashOf (done.map (tupleKeyHash knd))) && decide (Builtin.Tuple.tupleHashOf (done.map (tupleKeyHash knd)) < 2 ^ 63)) = true then _ else _) Q E _
    unfold nestHash reduceHash nestDraws at h
    by_cases hr : (decide (-(2 : Int) ^ 63 ≤ Builtin.Tuple.tupleHashOf (done.map (tupleKeyHash knd))) && decide (Builtin.Tuple.tupleHashOf (done.map (tupleKeyHash knd)) < 2 ^ 63)) = true
    · rw [if_pos hr]
      rw [if_pos hr] at h
      exact wpAny_pure (by simpa [Nat.add_assoc] using h)
    · rw [if_neg hr]
      rw [if_neg hr] at h
      exact wpAny_bind (wpAny_rule (wpAny_pure (by simpa [Nat.add_assoc] using h)))
theorem nest_eq_tree {x y : List (List K)} {a b : Addr} {P : Fin → Shared → Prop} (hu : A.units < cLine) (hx : IsNestKey knd s.heap x a) (hy : IsNestKey knd s.heap y b) (h : P (.done (.ret (.bool (decide (x = y))))) s) :
    wpAny (model prog w) A (Builtin.«tuple.__eq__» ⟨[.ref a, .ref b], []⟩) P E s := by
  have hTb := hy.typeIs
  obtain ⟨oa, xs, na, hoa, _, hda, hia⟩ := hx
  obtain ⟨ob, ys, nb, hob, _, hdb, hib⟩ := hy
  show wpAny _ _ (isInstance (.ref b) (.type "tuple") >>= _) _ _ s
  refine wpAny_bind (wpAny_isInstance hTb isSubtype_tuple_tuple ?_)
  simp only [Bool.not_true, Bool.false_eq_true, if_false]
  refine wpAny_bind (wpAny_tupleItemsOf hoa hda ?_)
  refine wpAny_bind (wpAny_tupleItemsOf hob hdb ?_)
  refine wpAny_bind ?_
  refine wpAny_forIn_list _
    (fun rest r s' => r.1 = none ∧ s' = s ∧ ∃ x' y' xs' ys', rest = List.zip xs' ys' ∧ TupsAre knd s.heap x' xs' ∧ TupsAre knd s.heap y' ys' ∧ decide (x' = y') = decide (x = y) ∧ (xs'.length == ys'.length) = (xs.size == ys.size))
    _ ?_ ?_ _ _ ⟨rfl, rfl, x, y, xs.toList, ys.toList, rfl, hia, hib, rfl, by simp⟩
  · rintro ⟨u, v⟩ rest r s' ⟨hr, rfl, x', y', xs', ys', hz, hx', hy', hdec, hlen⟩
    cases hx' with
    | nil => simp at hz
    | @cons k1 u' x'' xs'' h1 hx'' =>
      cases hy' with
      | nil => simp at hz
      | @cons k2 v' y'' ys'' h2 hy'' =>
        simp only [List.zip_cons_cons, List.cons.injEq, Prod.mk.injEq] at hz
        obtain ⟨⟨rfl, rfl⟩, rfl⟩ := hz
        refine wpAny_bind (wpAny_eqBool_tuple (x := k1) (y := k2) hu h1 h2 ?_)
        by_cases hk : k1 = k2
        · subst hk
          rw [decide_eq_true rfl]
          simp only [Bool.not_true, Bool.false_eq_true, if_false]
          refine wpAny_pure ⟨rfl, rfl, x'', y'', xs'', ys'', rfl, hx'', hy'', ?_, by simpa using hlen⟩
          rw [← hdec]
          by_cases hxy : x'' = y''
          · simp [hxy]
          · simp [hxy]
        · rw [decide_eq_false hk]
          simp only [Bool.not_false, if_true]
          have hf : decide (x = y) = false := by rw [← hdec]; simp [hk]
          rw [hf] at h
          exact wpAny_bind (wpAny_pure (wpAny_pure (wpAny_pure h)))
  · rintro ⟨r1, r2⟩ s' ⟨hr, rfl, x', y', xs', ys', hz, hx', hy', hdec, hlen⟩
    simp only at hr
    subst hr
    refine wpAny_pure ?_
    have hfin : (xs.size == ys.size) = decide (x = y) := by
      rw [← hdec, ← hlen]
      cases hx' with
      | nil =>
        cases hy' with
        | nil => simp
        | cons _ _ => simp
      | cons _ _ =>
        cases hy' with
        | nil => simp
        | cons _ _ => simp at hz
    show P (.done (.ret (.bool (xs.size == ys.size)))) s'
    rw [hfin]; exact h
theorem wpAny_eqBool_nest {x y : List (List K)} {a b : Addr} {Q : Bool → Shared → Prop} (hu : A.units + 1 < cLine) (hu1 : A.in1.units < cLine) (hx : IsNestKey knd s.heap x a) (hy : IsNestKey knd s.heap y b) (h : Q (decide (x = y)) s) :
    wpAny (model prog w) A (eqBool (.ref a) (.ref b)) Q E s := by
  unfold eqBool
  try with_reducible refine wpAny_holding ?_
  show wpAny _ _ (if (Value.ref a == Value.ref b) = true then _ else _) Q E s
  by_cases hab : (Value.ref a == Value.ref b) = true
  · rw [if_pos hab]
    have e : a = b := by have := eq_of_beq hab; injection this
    subst e
    obtain rfl := hx.inj hy
    exact wpAny_bind (wpAny_rule (wpAny_pure (by simpa using h)))
  · rw [if_neg hab]
    refine wpAny_bind (wpAny_richCompare_same_room (op := .Eq) hx.typeIs hy.typeIs F.slot_tuple_eq
      (wpAny_call_entry F.slot_tuple_eq hx.typeIs F.entry_tuple_eq (nest_eq_tree ?_ hx hy ⟨_, rfl, (fun e => nomatch e), wpAny_truthy_bool h⟩) (F.args_tuple_eq_2 _ _)) (by omega))
    assumption
theorem wpAny_eqIsQuiet_tupleN {n : Nat} {ks : List K} {a : Addr} {Q : Bool → Shared → Prop} (hk : IsTupleKey knd s.heap ks a) (h : Q true s) : wpAny (model prog w) A (eqIsQuiet (n + 1) (.ref a)) Q E s := by
  have hT := hk.typeIs
  obtain ⟨o, items, m, ho, _, hd, hi⟩ := hk
  unfold eqIsQuiet
  refine wpAny_bind (wpAny_specialOf hT F.slot_tuple_eq.lookup ?_)
  show wpAny _ _ (isInstance (.ref a) (.type "tuple") >>= _) _ _ s
  refine wpAny_bind (wpAny_isInstance hT isSubtype_tuple_tuple ?_)
  simp only [Bool.not_true, Bool.false_eq_true, if_false]
  refine wpAny_bind (wpAny_seqItems ho hd ?_)
  refine wpAny_bind ?_
  show wpAny _ _ (forIn items _ _) _ _ s
  rw [← Array.forIn_toList]
  refine wpAny_forIn_list _ (fun rest r s' => r.1 = none ∧ s' = s ∧ ∀ v ∈ rest, carriedByValue v = true) _ ?_ ?_ _ _ ⟨rfl, rfl, hi.byValue⟩
  · rintro v rest r s' ⟨hr, rfl, hall⟩
    rw [eqIsQuiet_byValue _ (hall v List.mem_cons_self)]
    refine wpAny_bind (wpAny_pure ?_)
    simp only [Bool.not_true, Bool.false_eq_true, if_false]
    exact wpAny_pure ⟨rfl, rfl, fun u hu' => hall u (List.mem_cons_of_mem _ hu')⟩
  · rintro ⟨r1, r2⟩ s' ⟨hr, rfl, _⟩
    simp only at hr
    subst hr
    exact wpAny_pure h
theorem wpAny_eqIsQuiet_nest {ks : List (List K)} {a : Addr} {Q : Bool → Shared → Prop} (hk : IsNestKey knd s.heap ks a) (h : Q true s) : wpAny (model prog w) A (eqIsQuiet 8 (.ref a)) Q E s := by
  have hT := hk.typeIs
  obtain ⟨o, items, m, ho, _, hd, hi⟩ := hk
  unfold eqIsQuiet
  refine wpAny_bind (wpAny_specialOf hT F.slot_tuple_eq.lookup ?_)
  show wpAny _ _ (isInstance (.ref a) (.type "tuple") >>= _) _ _ s
  refine wpAny_bind (wpAny_isInstance hT isSubtype_tuple_tuple ?_)
  simp only [Bool.not_true, Bool.false_eq_true, if_false]
  refine wpAny_bind (wpAny_seqItems ho hd ?_)
  refine wpAny_bind ?_
  show wpAny _ _ (forIn items _ _) _ _ s
  rw [← Array.forIn_toList]
  refine wpAny_forIn_list _ (fun rest r s' => r.1 = none ∧ s' = s ∧ ∃ l, TupsAre knd s.heap l rest) _ ?_ ?_ _ _ ⟨rfl, rfl, ks, hi⟩
  · rintro v rest r s' ⟨hr, rfl, l, hl⟩
    cases hl with
    | @cons k y ks' _ h1 hl' =>
      refine wpAny_bind (wpAny_eqIsQuiet_tupleN (n := 6) h1 ?_)
      simp only [Bool.not_true, Bool.false_eq_true, if_false]
      exact wpAny_pure ⟨rfl, rfl, ks', hl'⟩
  · rintro ⟨r1, r2⟩ s' ⟨hr, rfl, _⟩
    simp only at hr
    subst hr
    exact wpAny_pure h
end
def nestKind {prog : Program} {w : World} {K : Type} [DecidableEq K] (knd : KeyKind prog w K) : HeapKind prog w (List (List K)) where
  is := IsNestKey knd
  hash := nestHash knd
  draws := nestDraws
  room := fun A => A.units + 1 < cLine ∧ A.in1.units < cLine
  inj := fun hx hy => hx.inj hy
  keeps := fun x ho hd hs => x.keeps ho hd hs
  pyHash := fun hu hk h => wpAny_pyHash_nest hu.1 hu.2 hk h
  eqBool := fun hu hx hy h => wpAny_eqBool_nest hu.1 hu.2 hx hy h
  quiet := fun hk h => wpAny_eqIsQuiet_nest hk h
end PySem

set_option Elab.async false
set_option linter.all false
set_option maxRecDepth 100000
set_option maxHeartbeats 4000000
/-! PyN2: dicts with keys of any kind over the hand layer: made, asked, stored in. -/
namespace L2
open PySem PySem.Spec PyProof.Rows
/-- a dict with keys of some kind, by its own object -/
def dicG {K : Type} (hash : K → Int) (a : Addr) (xs : List (K × Addr × Value)) : HO := .ext fun h => ((a == sysModules) = false ∧ xs.length ≤ sizeLine) ∧
  ∃ o es ep, h.get? a = some o ∧ o.ExactDict ∧ o.data = .dict es ep ∧ es.toList = xs.map (fun x => ⟨hash x.1, .ref x.2.1, x.2.2⟩) ∧ (xs.map (·.1)).Nodup
section
variable {P : Program} {w : World} {K : Type} [DecidableEq K] {hash : K → Int} {knd : HeapKind P w K} {H : Hp} {h : Heap} {a : Addr} {xs : List (K × Addr × Value)}
theorem dicG_of (ok : HOk P w H h) (e : H a = some (dicG hash a xs)) (hh : knd.hash = hash) (hk : ∀ x ∈ xs, knd.is h x.1 x.2.1) : (a == sysModules) = false ∧ xs.length ≤ sizeLine ∧ h.DictOfH knd a xs := by
  obtain ⟨⟨⟨q1, q2⟩, o, es, ep, h1, h2, h3, h4, h5⟩, _, _⟩ := (show ObjOk P w H h a (dicG hash a xs) from ok a _ e)
  refine ⟨q1, q2, o, es, ep, h1, h2, h3, ?_, hk, h5⟩
  rw [h4]
  subst hh
  rfl
theorem dicG_ok (hh : knd.hash = hash) (hd : (a == sysModules) = false) (hl : xs.length ≤ sizeLine) (d : h.DictOfH knd a xs) : ObjOk P w H h a (dicG hash a xs) := by
  obtain ⟨o, es, ep, h1, h2, h3, h4, h5, h6⟩ := d
  refine ⟨⟨⟨hd, hl⟩, o, es, ep, h1, h2, h3, ?_, h6⟩, ⟨o, h1⟩, fun g1 g2 ⟨p, o, es, ep, k1, k2⟩ k => ⟨p, o, es, ep, k _ k1, k2⟩⟩
  rw [h4]
  subst hh
  rfl
end
theorem dicG_ne_code {K : Type} {hash : K → Int} {a : Addr} {xs : List (K × Addr × Value)} {q : Str} : dicG hash a xs ≠ LamX.CodeO a q := by
  intro e
  have e := HO.ext.inj e
  have g : ({ objs := Array.replicate (a + 1) { cls := .none, data := .fields #[.none, .str q 0] } } : Heap).get? a = some { cls := .none, data := .fields #[.none, .str q 0] } := by
    unfold Heap.get?
    rw [Array.getElem?_replicate, if_pos (by omega)]
  have p2 := (congrFun e _).mpr ⟨_, _, _, g, rfl, rfl⟩
  obtain ⟨_, o, es, ep, h1, h2, h3, _⟩ := p2
  rw [g] at h1
  cases h1
  cases h3
/-- {} -/
def tDNewG {K : Type} (hash : K → Int) : TE := fun _ H Q => ∀ p, H p = none → Q (.ref p) (upd H p (dicG hash p []))
theorem dicG_empty {P : Program} {w : World} {K : Type} {hash : K → Int} {H : Hp} (h : Heap) (hb : sysModules < h.objs.size) : ObjOk P w H (h.push { cls := .type "dict", data := .dict #[] }) h.objs.size (dicG hash h.objs.size []) :=
  ⟨⟨⟨beq_eq_false_iff_ne.mpr (Ne.symm (Nat.ne_of_lt hb)), Nat.zero_le _⟩, _, #[], 0, Heap.get?_push_size _ rfl, ⟨rfl, rfl, rfl⟩, rfl, rfl, List.nodup_nil⟩, ⟨_, Heap.get?_push_size _ rfl⟩, fun g1 g2 ⟨p, o, es, ep, k1, k2⟩ k => ⟨p, o, es, ep, k _ k1, k2⟩⟩
section
variable {X : Cx} {pos : Pos} {K : Type} [DecidableEq K] {hash : K → Int}
theorem pe_dnewG : PE X (.Dict [] [] pos) (tDNewG hash) := ⟨fun pins s σ H Q I h =>
  wpAny_Dict_empty ⟨.ref s.heap.objs.size, _, I.laid (a := s.heap.objs.size) (o := dicG hash s.heap.objs.size []) (t' := s.toks) (fun _ _ q => Heap.get?_push_of_some _ q) (Nat.le_refl _) (dicG_empty s.heap I.big), rfl, h _ (I.hok.fresh (Nat.le_refl _))⟩⟩
end
section
variable {X : Cx} {pins : List (Addr × Obj)} {σ : St} {H : Hp} {s : Shared} {a b : Addr} {A : Around} {E : Value → Shared → Prop} {K : Type} [DecidableEq K] {hash : K → Int} {knd : HeapKind X.prog X.w K} {xs : List (K × Addr × Value)} {k : K}
/-- what must be known of a dict and of a key -/
structure KeyAt (X : Cx) (H : Hp) (s : Shared) (hash : K → Int) (knd : HeapKind X.prog X.w K) (a : Addr) (xs : List (K × Addr × Value)) (b : Addr) (k : K) : Prop where
  dict : H a = some (dicG hash a xs)
  hh : knd.hash = hash
  keys : ∀ x ∈ xs, knd.is s.heap x.1 x.2.1
  key : knd.is s.heap k b
theorem g_in {Q : Value → Shared → Prop} (hu : knd.room A.in1) (I : Inv X pins σ H s) (g : KeyAt X H s hash knd a xs b k) (h : ∀ s', Inv X pins σ H s' → Q (.bool (atKey xs k).isSome) s') :
    wpAny (model X.prog X.w) A (compareOp .In (.ref b) (.ref a)) Q E s := by
  obtain ⟨hd, hl, dd⟩ := dicG_of I.hok g.dict g.hh g.keys
  exact wpAny_in_heap hu g.key hd dd (h _ (I.tok _))
theorem g_notIn {Q : Value → Shared → Prop} (hu : knd.room A.in1) (I : Inv X pins σ H s) (g : KeyAt X H s hash knd a xs b k) (h : ∀ s', Inv X pins σ H s' → Q (.bool (!(atKey xs k).isSome)) s') :
    wpAny (model X.prog X.w) A (compareOp .NotIn (.ref b) (.ref a)) Q E s := by
  obtain ⟨hd, hl, dd⟩ := dicG_of I.hok g.dict g.hh g.keys
  exact wpAny_notIn_heap hu g.key hd dd (h _ (I.tok _))
theorem g_getItem {Q : Value → Shared → Prop} {p : Addr × Value} (hu : knd.room A.in1) (I : Inv X pins σ H s) (g : KeyAt X H s hash knd a xs b k) (hp : atKey xs k = some p) (h : ∀ s', Inv X pins σ H s' → Q p.2 s') :
    wpAny (model X.prog X.w) A (getItem (.ref a) (.ref b)) Q E s := by
  obtain ⟨hd, hl, dd⟩ := dicG_of I.hok g.dict g.hh g.keys
  exact wpAny_getItem_heap hu g.key dd hp (h _ (I.tok _))
theorem g_typeIs (I : Inv X pins σ H s) (g : KeyAt X H s hash knd a xs b k) : s.TypeIs (.ref a) "dict" := (dicG_of I.hok g.dict g.hh g.keys).2.2.typeIs
theorem g_noDict (I : Inv X pins σ H s) (g : KeyAt X H s hash knd a xs b k) : ∀ c, Value.ref a = .ref c → ∃ ob, s.heap.get? c = some ob ∧ ob.dict = none := fun c q => by
  cases q
  obtain ⟨_, _, ob, _, _, h1, h2, _⟩ := dicG_of I.hok g.dict g.hh g.keys
  exact ⟨ob, h1, h2.2.1⟩
theorem g_get2 {Q : Value → Shared → Prop} {dflt : Value} (hu : knd.room A.in1) (I : Inv X pins σ H s) (g : KeyAt X H s hash knd a xs b k) (h : ∀ s', Inv X pins σ H s' → Q (((atKey xs k).map (·.2)).getD dflt) s') :
    wpAny (model X.prog X.w) A (call (.builtin "dict.get") [.ref a, .ref b, dflt]) Q E s := by
  obtain ⟨hd, hl, dd⟩ := dicG_of I.hok g.dict g.hh g.keys
  exact call_meetsIn PySem.F.slot_dict_get dd.typeIs PySem.F.entry_dict_get (PySem.F.args_dict_get_3 _ _ _) (meetsH_dict_get_default knd a b hd dflt) ⟨hu, k, xs, g.key, dd, h _ (I.tok _)⟩
/-- d[k] = v -/
theorem g_setItem {Q : Unit → Shared → Prop} {v : Value} (hu : knd.room A.in1) (I : Inv X pins σ H s) (g : KeyAt X H s hash knd a xs b k) (hl : xs.length < sizeLine) (h : ∀ s', Inv X pins σ (upd H a (dicG hash a (storedH xs k b v))) s' → Q () s') :
    wpAny (model X.prog X.w) A (setItem (.ref a) (.ref b) v) Q E s := by
  obtain ⟨hd, hz, dd⟩ := dicG_of I.hok g.dict g.hh g.keys
  refine wpAny_setItem_heap (hsz := hz) hu g.key dd fun h' dd' hs => h _ ?_
  have hl' : (storedH xs k b v).length ≤ sizeLine := by
    unfold storedH
    split
    · rw [List.length_map]; exact hz
    · rw [List.length_append, List.length_singleton]; omega
  have he : ∃ q, h'.get? a = some q := let ⟨q, _, _, hq, _⟩ := dd'; ⟨q, hq⟩
  exact d_write I (by rw [g.dict]; exact True.intro) hs he (dicG_ok g.hh hd hl' dd')
theorem g_len {Q : Value → Shared → Prop} (I : Inv X pins σ H s) (hdict : H a = some (dicG hash a xs)) (hh : knd.hash = hash) (keys : ∀ x ∈ xs, knd.is s.heap x.1 x.2.1) (h : ∀ t s', Inv X pins σ H s' → Q (.int xs.length t) s') :
    wpAny (model X.prog X.w) A (call (.builtin "len") [.ref a]) Q E s := by
  obtain ⟨hd, hz, dd⟩ := dicG_of I.hok hdict hh keys
  exact call_len_dictH hd dd (by rw [sizeLine_eq] at hz; omega) (h _ _ (I.tok _))
end
end L2

set_option Elab.async false
set_option linter.all false
set_option maxRecDepth 100000
set_option maxHeartbeats 4000000
/-! PyD1: plain data D, how the abstract heap bears it (Rp), the state of an evaluator over such data (SR), how it goes on (Ext). -/
namespace PyD
open PySem PySem.Spec PyProof.Rows L2

/-- a value as plain data. fn i: the i-th def; scr: the script; dc: a dict that is not changed, as its pairs were put -/
inductive D where
  | non | bl (b : Bool) | int (i : Int) | str (s : Str) | tup (ds : List D) | lst (ds : List D) | fn (i : Nat) | scr (ns : List Int) | dc (kvs : List (Str × Int))
def kvK (kvs : List (Str × Int)) : List (Key × V) := kvs.map fun p => (Sum.inr p.1, V.int p.2)
def dcGet (kvs : List (Str × Int)) (z : Str) : Option Int := match valV (mergeK [] (kvK kvs)) (Sum.inr z) with
  | some (.int i) => some i
  | _ => none
/-- what a name holds: data, or the i-th of the objects that may be changed -/
inductive W where
  | d (x : D) | c (i : Nat)
/-- what may be changed: a list, a dict; fro: a list that is changed no more -/
inductive C where
  | lst (ds : List D) | dic (kvs : List (D × D)) | fro (ds : List D)
def C.lv : C → Bool
  | .lst _ => true
  | .dic _ => true
  | .fro _ => false
abbrev Ms := List C
inductive R (α : Type) where
  | ok (a : α) | exc (c : Nat) (M : Ms) | stuck
def R.bind {α β : Type} (r : R α) (f : α → R β) : R β := match r with
  | .ok a => f a
  | .exc c M => .exc c M
  | .stuck => .stuck

/-- what is fixed: the written part, the defs' addresses, the classes' addresses, the tables of code objects -/
structure Gl where
  K : PySem.W.Frag
  fa : Nat → Addr
  ca : Nat → Addr
  T : List (Addr × Str)
  w : World

section
variable (G : Gl) (Z : Hp)
mutual
inductive Rp : D → V → Prop
  | non : Rp .non .non
  | bl (b : Bool) : Rp (.bl b) (.bl b)
  | int (i : Int) : Rp (.int i) (.int i)
  | str (s : Str) : Rp (.str s) (.str s)
  | tup {ds : List D} {a : Addr} {xs : List V} : SqT G.K Z a xs → Rps ds xs → Rp (.tup ds) (.ref a)
  | lst {ds : List D} {a : Addr} {xs : List V} : Z a = some (.lst xs) → Rps ds xs → Rp (.lst ds) (.ref a)
  | fn (i : Nat) : Rp (.fn i) (.ref (G.fa i))
  | scr {ns : List Int} {a : Addr} : SqL G.K Z a (ns.map V.int) → Rp (.scr ns) (.ref a)
  | dc {kvs : List (Str × Int)} {a : Addr} : (Z a = some (.dK (mergeK [] (kvK kvs))) ∨ ∀ z i, dcGet kvs z = some i → KDct G.K G.w a z (.int i)) → Rp (.dc kvs) (.ref a)
inductive Rps : List D → List V → Prop
  | nil : Rps [] []
  | cons {d : D} {v : V} {ds : List D} {vs : List V} : Rp d v → Rps ds vs → Rps (d :: ds) (v :: vs)
end
end

/-- no attributes of its own -/
def NoDc (K : PySem.W.Frag) (v : V) : Prop := ∀ a, v = .ref a → ∀ o, K.lookup a = some o → o.dict = none
theorem Same.sqT {K : PySem.W.Frag} {H H' : Hp} {a : Addr} {xs : List V} (e : Same H H') (h : SqT K H a xs) : SqT K H' a xs := by
  rcases h with (h | ⟨o, h⟩) | h
  · exact .inl (.inl (e a _ h))
  · exact .inl (.inr ⟨o, e a _ h⟩)
  · exact .inr h

section
variable {G : Gl} {Z Z' : Hp}
mutual
theorem Rp.mono (e : Same Z Z') : ∀ {d : D} {v : V}, Rp G Z d v → Rp G Z' d v
  | _, _, .non => .non
  | _, _, .bl b => .bl b
  | _, _, .int i => .int i
  | _, _, .str s => .str s
  | _, _, .tup h hs => .tup (Same.sqT e h) (Rps.mono e hs)
  | _, _, .lst h hs => .lst (e _ _ h) (Rps.mono e hs)
  | _, _, .fn i => .fn i
  | _, _, .scr h => .scr (L2.Same.seq e h)
  | _, _, .dc h => .dc (h.imp (fun h => e _ _ h) id)
theorem Rps.mono (e : Same Z Z') : ∀ {ds : List D} {vs : List V}, Rps G Z ds vs → Rps G Z' ds vs
  | _, _, .nil => .nil
  | _, _, .cons h hs => .cons (Rp.mono e h) (Rps.mono e hs)
end
theorem Rps.length : ∀ {ds : List D} {vs : List V}, Rps G Z ds vs → ds.length = vs.length
  | _, _, .nil => rfl
  | _, _, .cons _ t => by rw [List.length_cons, List.length_cons, Rps.length t]
theorem Rps.get : ∀ {ds : List D} {vs : List V} {i : Nat} {d : D}, Rps G Z ds vs → ds[i]? = some d → ∃ v, vs[i]? = some v ∧ Rp G Z d v
  | _, _, _, _, .nil, e => by simp at e
  | _, _, 0, _, .cons h _, e => by simp at e; subst e; exact ⟨_, rfl, h⟩
  | _, _, i + 1, d, .cons _ t, e => by
    obtain ⟨v, h1, h2⟩ := Rps.get (i := i) (d := d) t (by simpa using e)
    exact ⟨v, by simpa using h1, h2⟩
theorem Rps.get' : ∀ {ds : List D} {vs : List V} {i : Nat} {v : V}, Rps G Z ds vs → vs[i]? = some v → ∃ d, ds[i]? = some d ∧ Rp G Z d v
  | _, _, _, _, .nil, e => by simp at e
  | _, _, 0, _, .cons h _, e => by simp at e; subst e; exact ⟨_, rfl, h⟩
  | _, _, i + 1, v, .cons _ t, e => by
    obtain ⟨d, h1, h2⟩ := Rps.get' (i := i) (v := v) t (by simpa using e)
    exact ⟨d, by simpa using h1, h2⟩
theorem Rps.append : ∀ {ds es : List D} {vs us : List V}, Rps G Z ds vs → Rps G Z es us → Rps G Z (ds ++ es) (vs ++ us)
  | _, _, _, _, .nil, t => t
  | _, _, _, _, .cons h hs, t => .cons h (Rps.append hs t)
theorem Rps.take : ∀ {ds : List D} {vs : List V} (n : Nat), Rps G Z ds vs → Rps G Z (ds.take n) (vs.take n)
  | _, _, 0, _ => .nil
  | _, _, _ + 1, .nil => .nil
  | _, _, n + 1, .cons h hs => .cons h (Rps.take n hs)
theorem Rps.drop : ∀ {ds : List D} {vs : List V} (n : Nat), Rps G Z ds vs → Rps G Z (ds.drop n) (vs.drop n)
  | _, _, 0, h => h
  | _, _, _ + 1, .nil => .nil
  | _, _, n + 1, .cons _ hs => Rps.drop n hs
theorem Rps.set : ∀ {ds : List D} {vs : List V} {d : D} {v : V} (i : Nat), Rp G Z d v → Rps G Z ds vs → Rps G Z (ds.set i d) (vs.set i v)
  | _, _, _, _, _, _, .nil => .nil
  | _, _, _, _, 0, h, .cons _ hs => .cons h hs
  | _, _, _, _, i + 1, h, .cons h0 hs => .cons h0 (Rps.set i h hs)
theorem Rps.reverse {ds : List D} {vs : List V} (h : Rps G Z ds vs) : Rps G Z ds.reverse vs.reverse := by
  induction ds generalizing vs with
  | nil => cases h; exact .nil
  | cons d r ih =>
    cases h with
    | cons h hs =>
      rw [List.reverse_cons, List.reverse_cons]
      exact (ih hs).append (.cons h .nil)
theorem Rps.rep {ds : List D} {vs : List V} (h : Rps G Z ds vs) : ∀ k : Nat, Rps G Z (List.replicate k ds).flatten (List.replicate k vs).flatten
  | 0 => .nil
  | k + 1 => by
    rw [List.replicate_succ, List.replicate_succ, List.flatten_cons, List.flatten_cons]
    exact h.append (Rps.rep h k)
/-- ints -/
theorem Rps.ints : ∀ {ns : List Int} {vs : List V}, Rps G Z (ns.map D.int) vs → vs = ns.map V.int
  | [], _, h => by cases h; rfl
  | n :: ns, _, h => by
    cases h with
    | cons h hs => cases h; rw [Rps.ints hs, List.map_cons]
theorem Rps.ofInts : ∀ (ns : List Int), Rps G Z (ns.map D.int) (ns.map V.int)
  | [] => .nil
  | n :: ns => .cons (.int n) (Rps.ofInts ns)
theorem Rps.strs : ∀ {ns : List Str} {vs : List V}, Rps G Z (ns.map D.str) vs → vs = ns.map V.str
  | [], _, h => by cases h; rfl
  | n :: ns, _, h => by
    cases h with
    | cons h hs => cases h; rw [Rps.strs hs, List.map_cons]
theorem Rps.ofStrs : ∀ (ns : List Str), Rps G Z (ns.map D.str) (ns.map V.str)
  | [] => .nil
  | n :: ns => .cons (.str n) (Rps.ofStrs ns)
end

/-! ### keys of dicts: tuples of whole numbers and texts, tuples of such tuples -/
def flatK : List D → Option (List Key)
  | [] => some []
  | .int i :: r => (flatK r).map (Sum.inl i :: ·)
  | .str z :: r => (flatK r).map (Sum.inr z :: ·)
  | _ => none
def keyF : D → Option (List Key)
  | .tup (d :: ds) => flatK (d :: ds)
  | _ => none
def nestK : List D → Option (List (List Key))
  | [] => some []
  | d :: r => (keyF d).bind fun k => (nestK r).map (k :: ·)
def keyN : D → Option (List (List Key))
  | .tup (d :: ds) => nestK (d :: ds)
  | _ => none
def hashF (w : World) (ks : List Key) : Int := reduceHash (Builtin.Tuple.tupleHashOf (ks.map (keyH w)))
def hashN (w : World) (ks : List (List Key)) : Int := reduceHash (Builtin.Tuple.tupleHashOf (ks.map (hashF w)))
/-- an entry of a dict as the heap bears it -/
def EntR (G : Gl) (Z : Hp) {K : Type} (kf : D → Option K) (p : D × D) (x : K × Addr × Value) : Prop := kf p.1 = some x.1 ∧ Rp G Z p.1 (.ref x.2.1) ∧ ∃ v, Rp G Z p.2 v ∧ RelV v x.2.2
/-! ### the state -/
def Live (α : List Addr) (M : Ms) (a : Addr) : Prop := ∃ (i : Nat) (c : C), M[i]? = some c ∧ c.lv = true ∧ α[i]? = some a
/-- a cell's content as the heap bears it at a -/
def CellAt (G : Gl) (Z H : Hp) (a : Addr) : C → Prop
  | .lst ds => ∃ vs, H a = some (.lst vs) ∧ Rps G Z ds vs
  | .dic kvs => (∃ xs, H a = some (dicG (hashF G.w) a xs) ∧ Paired (EntR G Z keyF) kvs xs) ∨ ∃ xs, H a = some (dicG (hashN G.w) a xs) ∧ Paired (EntR G Z keyN) kvs xs
  | .fro _ => True
structure SR (G : Gl) (α : List Addr) (M : Ms) (Z H : Hp) : Prop where
  sub : ∀ a o, Z a = some o → H a = some o
  len : α.length = M.length
  cell : ∀ (i : Nat) (c : C) (a : Addr), M[i]? = some c → c.lv = true → α[i]? = some a → Z a = none ∧ CellAt G Z H a c
  inj : ∀ (i j : Nat) (c e : C) (a : Addr), M[i]? = some c → c.lv = true → M[j]? = some e → e.lv = true → α[i]? = some a → α[j]? = some a → i = j
  fro : ∀ (i : Nat) (ds : List D) (a : Addr), M[i]? = some (.fro ds) → α[i]? = some a → ∃ vs, Z a = some (.lst vs) ∧ Rps G Z ds vs
  tabs : LamX.Tabs G.T H
  ztab : ∀ a ps, Z a ≠ some (.tbl ps)
/-- nothing stands there, or a table -/
def Abs (H : Hp) (a : Addr) : Prop := ∀ o, H a = some o → ∃ ps, o = .tbl ps
theorem Abs.of {H : Hp} {a : Addr} (h : H a = none) : Abs H a := fun o e => by rw [h] at e; cases e
/-- from one state to a later one -/
structure Ext (α : List Addr) (M : Ms) (Z H : Hp) (α' : List Addr) (M' : Ms) (Z' H' : Hp) : Prop where
  same : Same Z Z'
  pre : ∃ β, α' = α ++ β
  keep : ∀ a o, H a = some o → ¬ Live α M a → (∀ ps, o ≠ .tbl ps) → H' a = some o
  live : ∀ a, Live α' M' a → Live α M a ∨ Abs H a
  dom : ∀ a, ¬ Abs H a → ¬ Abs H' a
  zold : ∀ a, ¬ Abs H a → Z a = none → ¬ Live α M a → Z' a = none
section
variable {G : Gl} {α α1 α2 : List Addr} {M M1 M2 : Ms} {Z Z1 Z2 H H1 H2 : Hp}
theorem Ext.refl : Ext α M Z H α M Z H := ⟨Same.refl Z, ⟨[], by simp⟩, fun _ _ h _ _ => h, fun _ h => .inl h, fun _ h => h, fun _ _ h _ => h⟩
theorem Ext.trans (a : Ext α M Z H α1 M1 Z1 H1) (b : Ext α1 M1 Z1 H1 α2 M2 Z2 H2) : Ext α M Z H α2 M2 Z2 H2 := by
  refine ⟨a.same.trans b.same, ?_, fun x o h nl nt => ?_, fun x h => ?_, fun x h => b.dom x (a.dom x h), fun x h z nl => b.zold x (a.dom x h) (a.zold x h z nl) fun l => ?_⟩
  · obtain ⟨β, e⟩ := a.pre
    obtain ⟨γ, f⟩ := b.pre
    exact ⟨β ++ γ, by rw [f, e, List.append_assoc]⟩
  · refine b.keep x o (a.keep x o h nl nt) (fun l => ?_) nt
    rcases a.live x l with q | q
    · exact nl q
    · obtain ⟨ps, e⟩ := q o h
      exact nt ps e
  · rcases b.live x h with q | q
    · exact a.live x q
    · refine .inr (Classical.byContradiction fun n => a.dom x n q)
  · rcases a.live x l with q | q
    · exact nl q
    · exact h q
theorem abs_not {H : Hp} {a : Addr} {o : HO} (h : H a = some o) (nt : ∀ ps, o ≠ .tbl ps) : ¬ Abs H a := fun q => by
  obtain ⟨ps, e⟩ := q o h
  exact nt ps e
theorem abs_upd {H : Hp} {p a : Addr} {o : HO} (hp : H p = none) (h : ¬ Abs H a) : ¬ Abs (upd H p o) a := fun q => h fun u e => q u (by rw [upd_ne (ne_of_none e hp)]; exact e)
theorem SR.zfree (S : SR G α M Z H) {p : Addr} (h : H p = none) : Z p = none := by
  cases e : Z p with
  | none => rfl
  | some o => rw [S.sub p o e] at h; cases h
theorem SR.nolive (S : SR G α M Z H) {p : Addr} {o : HO} (h : Z p = some o) : ¬ Live α M p := fun ⟨i, c, h1, h2, h3⟩ => by
  rw [(S.cell i c p h1 h2 h3).1] at h; cases h
theorem Live.tracked (S : SR G α M Z H) {p : Addr} (l : Live α M p) : H p ≠ none := fun e => by
  obtain ⟨i, c, h1, h2, h3⟩ := l
  obtain ⟨_, q⟩ := S.cell i c p h1 h2 h3
  cases c with
  | lst ds => obtain ⟨vs, q, _⟩ := q; rw [e] at q; cases q
  | dic kvs => rcases q with ⟨xs, q, _⟩ | ⟨xs, q, _⟩ <;> (rw [e] at q; cases q)
  | fro ds => cases h2
theorem Live.nontab (S : SR G α M Z H) {p : Addr} (l : Live α M p) (ps : Array Value) : H p ≠ some (.tbl ps) := fun e => by
  obtain ⟨i, c, h1, h2, h3⟩ := l
  obtain ⟨_, q⟩ := S.cell i c p h1 h2 h3
  cases c with
  | lst ds => obtain ⟨vs, q, _⟩ := q; rw [e] at q; cases q
  | dic kvs => rcases q with ⟨xs, q, _⟩ | ⟨xs, q, _⟩ <;> (rw [e] at q; cases q)
  | fro ds => cases h2
theorem same_upd {Z : Hp} {p : Addr} {o : HO} (h : Z p = none) : Same Z (upd Z p o) := fun b u e => by rw [upd_ne (ne_of_none e h)]; exact e
theorem CellAt.mono {Z' H' : Hp} {a : Addr} {c : C} (e : Same Z Z') (hh : ∀ o, H a = some o → H' a = some o) (h : CellAt G Z H a c) : CellAt G Z' H' a c := by
  cases c with
  | lst ds => obtain ⟨vs, q, r⟩ := h; exact ⟨vs, hh _ q, r.mono e⟩
  | dic kvs =>
    rcases h with ⟨xs, q, r⟩ | ⟨xs, q, r⟩
    · exact .inl ⟨xs, hh _ q, Paired.mapP r fun p x ⟨h1, h2, v, h3, h4⟩ => ⟨h1, h2.mono e, v, h3.mono e, h4⟩⟩
    · exact .inr ⟨xs, hh _ q, Paired.mapP r fun p x ⟨h1, h2, v, h3, h4⟩ => ⟨h1, h2.mono e, v, h3.mono e, h4⟩⟩
  | fro ds => trivial
theorem pre_self {α : List Addr} : ∃ β, α = α ++ β := ⟨[], by simp⟩
theorem SR.froM {Z' : Hp} (S : SR G α M Z H) (e : Same Z Z') {i : Nat} {ds : List D} {a : Addr} (h1 : M[i]? = some (.fro ds)) (h2 : α[i]? = some a) : ∃ vs, Z' a = some (.lst vs) ∧ Rps G Z' ds vs :=
  let ⟨vs, q, r⟩ := S.fro i ds a h1 h2
  ⟨vs, e _ _ q, r.mono e⟩
/-- a new object that is not changed any more -/
theorem SR.new (S : SR G α M Z H) {p : Addr} (hp : H p = none) {o : HO} (nt : ∀ ps, o ≠ .tbl ps) : SR G α M (upd Z p o) (upd H p o) ∧ Ext α M Z H α M (upd Z p o) (upd H p o) := by
  have zp := S.zfree hp
  have ne : ∀ (i : Nat) (c : C) (a : Addr), M[i]? = some c → c.lv = true → α[i]? = some a → a ≠ p := fun i c a h1 h2 h3 e => by
    subst e
    exact Live.tracked S ⟨i, c, h1, h2, h3⟩ hp
  refine ⟨⟨fun a u h => ?_, S.len, fun i c a h1 h2 h3 => ?_, S.inj, fun i ds a h1 h2 => S.froM (same_upd zp) h1 h2, ?_, fun a ps h => ?_⟩, ⟨same_upd zp, pre_self, fun a u h _ _ => ?_, fun a l => .inl l, fun a h => abs_upd hp h, fun a h z _ => ?_⟩⟩
  · by_cases e : a = p
    · subst e; rw [upd_same] at h ⊢; exact h
    · rw [upd_ne e] at h ⊢; exact S.sub a u h
  · obtain ⟨q1, q2⟩ := S.cell i c a h1 h2 h3
    refine ⟨by rw [upd_ne (ne i c a h1 h2 h3)]; exact q1, q2.mono (same_upd zp) fun u h => ?_⟩
    rw [upd_ne (ne i c a h1 h2 h3)]; exact h
  · exact S.tabs.ext fun b u h => by rw [upd_ne (ne_of_none h hp)]; exact h
  · by_cases e : a = p
    · subst e; rw [upd_same] at h; exact nt ps (Option.some.inj h)
    · rw [upd_ne e] at h; exact S.ztab a ps h
  · rw [upd_ne (ne_of_none h hp)]; exact h
  · by_cases e : a = p
    · subst e; exact absurd (Abs.of hp) h
    · rw [upd_ne e]; exact z
/-- a new object that is not told of: it is neither data nor a cell -/
theorem SR.extra (S : SR G α M Z H) {p : Addr} (hp : H p = none) {o : HO} : SR G α M Z (upd H p o) ∧ Ext α M Z H α M Z (upd H p o) := by
  have ne : ∀ (i : Nat) (c : C) (a : Addr), M[i]? = some c → c.lv = true → α[i]? = some a → a ≠ p := fun i c a h1 h2 h3 e => by
    subst e
    exact Live.tracked S ⟨i, c, h1, h2, h3⟩ hp
  refine ⟨⟨fun a u h => ?_, S.len, fun i c a h1 h2 h3 => ?_, S.inj, S.fro, ?_, S.ztab⟩, ⟨Same.refl Z, pre_self, fun a u h _ _ => ?_, fun a l => .inl l, fun a h => abs_upd hp h, fun a _ z _ => z⟩⟩
  · have q := S.sub a u h
    rw [upd_ne (ne_of_none q hp)]; exact q
  · obtain ⟨q1, q2⟩ := S.cell i c a h1 h2 h3
    refine ⟨q1, q2.mono (Same.refl Z) fun u h => ?_⟩
    rw [upd_ne (ne i c a h1 h2 h3)]; exact h
  · exact S.tabs.ext fun b u h => by rw [upd_ne (ne_of_none h hp)]; exact h
  · rw [upd_ne (ne_of_none h hp)]; exact h
/-- what is not told of becomes data; it was not there at the start H0 -/
theorem SR.adopt {α0 : List Addr} {M0 : Ms} {Z0 H0 : Hp} (S : SR G α M Z H) {p : Addr} {o : HO} (hp : H p = some o) (nz : Z p = none) (nl : ¬ Live α M p) (nt : ∀ ps, o ≠ .tbl ps) (h0 : Abs H0 p) (e0 : Ext α0 M0 Z0 H0 α M Z H) : SR G α M (upd Z p o) H ∧ Ext α0 M0 Z0 H0 α M (upd Z p o) H := by
  have ne : ∀ (i : Nat) (c : C) (a : Addr), M[i]? = some c → c.lv = true → α[i]? = some a → a ≠ p := fun i c a h1 h2 h3 e => by
    subst e
    exact nl ⟨i, c, h1, h2, h3⟩
  refine ⟨⟨fun a u h => ?_, S.len, fun i c a h1 h2 h3 => ?_, S.inj, fun i ds a h1 h2 => S.froM (same_upd nz) h1 h2, S.tabs, fun a ps h => ?_⟩, ⟨e0.same.trans (same_upd nz), e0.pre, e0.keep, e0.live, e0.dom, fun a h z l => ?_⟩⟩
  · by_cases e : a = p
    · subst e; rw [upd_same] at h; cases h; exact hp
    · rw [upd_ne e] at h; exact S.sub a u h
  · obtain ⟨q1, q2⟩ := S.cell i c a h1 h2 h3
    exact ⟨by rw [upd_ne (ne i c a h1 h2 h3)]; exact q1, q2.mono (same_upd nz) fun u h => h⟩
  · by_cases e : a = p
    · subst e; rw [upd_same] at h; exact nt ps (Option.some.inj h)
    · rw [upd_ne e] at h; exact S.ztab a ps h
  · by_cases e : a = p
    · subst e; exact absurd h0 h
    · rw [upd_ne e]; exact e0.zold a h z l
/-- what is not told of becomes a cell, the last one -/
theorem SR.pushC (S : SR G α M Z H) {p : Addr} {c0 : C} (lv0 : c0.lv = true) (r : CellAt G Z H p c0) (nz : Z p = none) (nl : ¬ Live α M p) {α0 : List Addr} {M0 : Ms} {Z0 H0 : Hp} (h0 : Abs H0 p) (e0 : Ext α0 M0 Z0 H0 α M Z H) :
    SR G (α ++ [p]) (M ++ [c0]) Z H ∧ Ext α0 M0 Z0 H0 (α ++ [p]) (M ++ [c0]) Z H := by
  have pr : ∃ β, α ++ [p] = α0 ++ β := let ⟨β, e⟩ := e0.pre; ⟨β ++ [p], by rw [e, List.append_assoc]⟩
  have old : ∀ (i : Nat) (c : C) (a : Addr), (M ++ [c0])[i]? = some c → (α ++ [p])[i]? = some a → (M[i]? = some c ∧ α[i]? = some a) ∨ (i = M.length ∧ c = c0 ∧ a = p) := fun i c a h1 h2 => by
    by_cases hi : i < M.length
    · rw [List.getElem?_append_left hi] at h1
      rw [List.getElem?_append_left (by rw [S.len]; exact hi)] at h2
      exact .inl ⟨h1, h2⟩
    · have q := (List.getElem?_eq_some_iff.mp h1).1
      rw [List.length_append] at q
      have e : i = M.length := by simp at q; omega
      subst e
      rw [List.getElem?_append_right (Nat.le_refl _)] at h1
      rw [← S.len, List.getElem?_append_right (Nat.le_refl _)] at h2
      simp at h1 h2
      exact .inr ⟨rfl, h1.symm, h2.symm⟩
  refine ⟨⟨S.sub, by simp [S.len], fun i c a h1 h2 h3 => ?_, fun i j c e a h1 h2 h3 h4 h5 h6 => ?_, fun i fs a h1 h2 => ?_, S.tabs, S.ztab⟩, ⟨e0.same, pr, e0.keep, fun a l => ?_, e0.dom, e0.zold⟩⟩
  · rcases old i c a h1 h3 with ⟨q1, q2⟩ | ⟨_, rfl, rfl⟩
    · obtain ⟨z, q⟩ := S.cell i c a q1 h2 q2
      exact ⟨z, q.mono (Same.refl Z) fun o h => h⟩
    · exact ⟨nz, r⟩
  · rcases old i c a h1 h5 with ⟨q1, q2⟩ | ⟨e1, _, q2⟩
    · rcases old j e a h3 h6 with ⟨q3, q4⟩ | ⟨_, _, q4⟩
      · exact S.inj i j c e a q1 h2 q3 h4 q2 q4
      · subst q4; exact absurd ⟨i, c, q1, h2, q2⟩ nl
    · rcases old j e a h3 h6 with ⟨q3, q4⟩ | ⟨e2, _, _⟩
      · subst q2; exact absurd ⟨j, e, q3, h4, q4⟩ nl
      · rw [e1, e2]
  · rcases old i _ a h1 h2 with ⟨q1, q2⟩ | ⟨_, q, _⟩
    · exact S.fro i fs a q1 q2
    · rw [← q] at lv0; cases lv0
  · obtain ⟨i, c, h1, h2, h3⟩ := l
    rcases old i c a h1 h3 with ⟨q1, q2⟩ | ⟨_, _, q⟩
    · exact e0.live a ⟨i, c, q1, h2, q2⟩
    · subst q; exact .inr h0
theorem SR.push (S : SR G α M Z H) {p : Addr} {ds : List D} {vs : List V} (hp : H p = some (.lst vs)) (nz : Z p = none) (nl : ¬ Live α M p) (r : Rps G Z ds vs) {α0 : List Addr} {M0 : Ms} {Z0 H0 : Hp} (h0 : Abs H0 p) (e0 : Ext α0 M0 Z0 H0 α M Z H) :
    SR G (α ++ [p]) (M ++ [.lst ds]) Z H ∧ Ext α0 M0 Z0 H0 (α ++ [p]) (M ++ [.lst ds]) Z H := S.pushC (c0 := .lst ds) rfl ⟨vs, hp, r⟩ nz nl h0 e0
/-- a cell is changed -/
theorem SR.putC (S : SR G α M Z H) {i : Nat} {a : Addr} {c0 c1 : C} {o1 : HO} (h1 : M[i]? = some c0) (lv0 : c0.lv = true) (h3 : α[i]? = some a) (lv1 : c1.lv = true) (r : CellAt G Z (upd H a o1) a c1) (nt1 : ∀ ps, o1 ≠ .tbl ps) (nc : ∀ q, H a ≠ some (LamX.CodeO a q)) :
    SR G α (M.set i c1) Z (upd H a o1) ∧ Ext α M Z H α (M.set i c1) Z (upd H a o1) := by
  have hl : Live α M a := ⟨i, _, h1, lv0, h3⟩
  obtain ⟨za, _⟩ := S.cell i _ a h1 lv0 h3
  have ntb := Live.nontab S hl
  have hi : i < M.length := (List.getElem?_eq_some_iff.mp h1).1
  have old : ∀ (j : Nat) (c : C), (M.set i c1)[j]? = some c → c.lv = true → ∃ c' : C, M[j]? = some c' ∧ c'.lv = true ∧ (j = i ∧ c = c1 ∨ j ≠ i ∧ c' = c) := fun j c h n => by
    by_cases e : j = i
    · subst e
      rw [List.getElem?_set_self hi] at h
      cases h
      exact ⟨_, h1, lv0, .inl ⟨rfl, rfl⟩⟩
    · rw [List.getElem?_set_ne (Ne.symm e)] at h
      exact ⟨c, h, n, .inr ⟨e, rfl⟩⟩
  refine ⟨⟨fun b u h => ?_, by rw [List.length_set]; exact S.len, fun j c b q1 q2 q3 => ?_, fun j k c e b q1 q2 q3 q4 q5 q6 => ?_, fun j fs b q1 q2 => ?_, ?_, S.ztab⟩, ⟨Same.refl Z, pre_self, fun b u h nl nt => ?_, fun b l => ?_, fun b h => ?_, fun b _ z _ => z⟩⟩
  · rw [upd_ne (fun e => by subst e; rw [za] at h; cases h)]; exact S.sub b u h
  · obtain ⟨c', m1, m2, m3⟩ := old j c q1 q2
    obtain ⟨zb, q⟩ := S.cell j c' b m1 m2 q3
    refine ⟨zb, ?_⟩
    rcases m3 with ⟨rfl, rfl⟩ | ⟨ne, rfl⟩
    · rw [h3] at q3; cases q3
      exact r
    · have nb : b ≠ a := fun e => by
        subst e
        exact ne (S.inj j i c' _ b m1 m2 h1 lv0 q3 h3)
      exact q.mono (Same.refl Z) fun u h => by rw [upd_ne nb]; exact h
  · obtain ⟨c', m1, m2, _⟩ := old j c q1 q2
    obtain ⟨e', m3, m4, _⟩ := old k e q3 q4
    exact S.inj j k c' e' b m1 m2 m3 m4 q5 q6
  · by_cases e : j = i
    · subst e; rw [List.getElem?_set_self hi] at q1; cases q1; cases lv1
    · rw [List.getElem?_set_ne (Ne.symm e)] at q1; exact S.fro j fs b q1 q2
  · intro p hp
    obtain ⟨ps, t1, t2, t3⟩ := S.tabs p hp
    refine ⟨ps, by rw [upd_ne (fun e => by rw [e] at t1; exact ntb _ t1)]; exact t1, t2, fun pos cv hc => ?_⟩
    obtain ⟨c0, e1, e2⟩ := t3 pos cv hc
    refine ⟨c0, e1, by rw [upd_ne (fun e => by subst e; exact nc _ e2)]; exact e2⟩
  · rw [upd_ne (fun e => by subst e; exact nl hl)]; exact h
  · obtain ⟨j, c, q1, q2, q3⟩ := l
    obtain ⟨c', m1, m2, _⟩ := old j c q1 q2
    exact .inl ⟨j, c', m1, m2, q3⟩
  · by_cases e : b = a
    · subst e; exact abs_not upd_same nt1
    · exact fun q => h fun u z => q u (by rw [upd_ne e]; exact z)
/-- a cell's list is changed -/
theorem SR.put (S : SR G α M Z H) {i : Nat} {a : Addr} {ds es : List D} {us : List V} (h1 : M[i]? = some (.lst ds)) (h3 : α[i]? = some a) (r : Rps G Z es us) :
    SR G α (M.set i (.lst es)) Z (upd H a (.lst us)) ∧ Ext α M Z H α (M.set i (.lst es)) Z (upd H a (.lst us)) := by
  obtain ⟨_, vs, ha, _⟩ := S.cell i _ a h1 rfl h3
  exact S.putC h1 rfl h3 (c1 := .lst es) rfl ⟨us, upd_same, r⟩ (fun ps z => by cases z) fun q z => by rw [ha] at z; exact absurd (Option.some.inj z) (by unfold LamX.CodeO; simp)
/-- a cell's list is changed no more: it is data -/
theorem SR.freeze (S : SR G α M Z H) {i : Nat} {a : Addr} {ds : List D} (h1 : M[i]? = some (.lst ds)) (h3 : α[i]? = some a) :
    ∃ vs, H a = some (.lst vs) ∧ Rp G (upd Z a (.lst vs)) (.lst ds) (.ref a) ∧ SR G α (M.set i (.fro ds)) (upd Z a (.lst vs)) H ∧ Ext α M Z H α (M.set i (.fro ds)) (upd Z a (.lst vs)) H := by
  obtain ⟨za, vs, ha, r⟩ := S.cell i _ a h1 rfl h3
  have hi : i < M.length := (List.getElem?_eq_some_iff.mp h1).1
  have sm := same_upd (o := HO.lst vs) za
  have old : ∀ (j : Nat) (c : C), (M.set i (C.fro ds))[j]? = some c → c.lv = true → M[j]? = some c ∧ j ≠ i := fun j c h n => by
    by_cases e : j = i
    · subst e
      rw [List.getElem?_set_self hi] at h
      cases h; cases n
    · rw [List.getElem?_set_ne (Ne.symm e)] at h
      exact ⟨h, e⟩
  refine ⟨vs, ha, .lst upd_same (r.mono sm), ⟨fun b u h => ?_, by rw [List.length_set]; exact S.len, fun j c b q1 q2 q3 => ?_, fun j k c e b q1 q2 q3 q4 q5 q6 => ?_, fun j fs b q1 q2 => ?_, S.tabs, fun b ps h => ?_⟩, ⟨sm, pre_self, fun b u h nl nt => h, fun b l => ?_, fun b h => h, fun b _ z nl => ?_⟩⟩
  · by_cases e : b = a
    · subst e; rw [upd_same] at h; cases h; exact ha
    · rw [upd_ne e] at h; exact S.sub b u h
  · obtain ⟨m1, m2⟩ := old j c q1 q2
    obtain ⟨zb, q⟩ := S.cell j c b m1 q2 q3
    have nb : b ≠ a := fun e => by
      subst e
      exact m2 (S.inj j i c _ b m1 q2 h1 rfl q3 h3)
    exact ⟨by rw [upd_ne nb]; exact zb, q.mono sm fun u h => h⟩
  · exact S.inj j k c e b (old j c q1 q2).1 q2 (old k e q3 q4).1 q4 q5 q6
  · by_cases e : j = i
    · subst e
      rw [List.getElem?_set_self hi] at q1
      cases q1
      rw [h3] at q2
      cases q2
      exact ⟨vs, upd_same, r.mono sm⟩
    · rw [List.getElem?_set_ne (Ne.symm e)] at q1; exact S.froM sm q1 q2
  · by_cases e : b = a
    · subst e; rw [upd_same] at h; cases h
    · rw [upd_ne e] at h; exact S.ztab b ps h
  · obtain ⟨j, c, q1, q2, q3⟩ := l
    exact .inl ⟨j, c, (old j c q1 q2).1, q2, q3⟩
  · rw [upd_ne (fun e => by subst e; exact nl ⟨i, _, h1, rfl, h3⟩)]; exact z
/-- the cells beyond n are let go -/
theorem SR.cut (S : SR G α M Z H) (n : Nat) : SR G (α.take n) (M.take n) Z H := by
  have mm : ∀ (i : Nat) (c : C), (M.take n)[i]? = some c → M[i]? = some c := fun i c h => by
    by_cases hi : i < n
    · rw [List.getElem?_take_of_lt hi] at h; exact h
    · rw [List.getElem?_eq_none (by rw [List.length_take]; omega)] at h; cases h
  have aa : ∀ (i : Nat) (c : Addr), (α.take n)[i]? = some c → α[i]? = some c := fun i c h => by
    by_cases hi : i < n
    · rw [List.getElem?_take_of_lt hi] at h; exact h
    · rw [List.getElem?_eq_none (by rw [List.length_take]; omega)] at h; cases h
  exact ⟨S.sub, by rw [List.length_take, List.length_take, S.len], fun i c a h1 h2 h3 => S.cell i c a (mm i c h1) h2 (aa i a h3),
    fun i j c e a h1 h2 h3 h4 h5 h6 => S.inj i j c e a (mm i c h1) h2 (mm j e h3) h4 (aa i a h5) (aa j a h6), fun i ds a h1 h2 => S.fro i ds a (mm i _ h1) (aa i a h2), S.tabs, S.ztab⟩
theorem Ext.cut {n : Nat} (x : Ext α M Z H α1 M1 Z1 H1) (hn : α.length ≤ n) : Ext α M Z H (α1.take n) (M1.take n) Z1 H1 := by
  refine ⟨x.same, ?_, x.keep, fun a l => ?_, x.dom, x.zold⟩
  · obtain ⟨β, e⟩ := x.pre
    refine ⟨β.take (n - α.length), ?_⟩
    rw [e, List.take_append, List.take_of_length_le hn]
  · obtain ⟨i, c, h1, h2, h3⟩ := l
    have hi : i < n := by
      have q := (List.getElem?_eq_some_iff.mp h1).1
      rw [List.length_take] at q
      omega
    rw [List.getElem?_take_of_lt hi] at h1 h3
    exact x.live a ⟨i, c, h1, h2, h3⟩
end
/-- what a name holds, as the heap bears it -/
def RpW (G : Gl) (α : List Addr) (Z : Hp) : W → V → Prop
  | .d x, v => Rp G Z x v
  | .c i, v => ∃ a, α[i]? = some a ∧ v = .ref a
inductive RpWs (G : Gl) (α : List Addr) (Z : Hp) : List W → List V → Prop
  | nil : RpWs G α Z [] []
  | cons {d : W} {v : V} {ds : List W} {vs : List V} : RpW G α Z d v → RpWs G α Z ds vs → RpWs G α Z (d :: ds) (v :: vs)
theorem RpW.mono {G : Gl} {α α' : List Addr} {Z Z' : Hp} (e : Same Z Z') (p : ∃ β, α' = α ++ β) {w : W} {v : V} (h : RpW G α Z w v) : RpW G α' Z' w v := by
  cases w with
  | d x => exact Rp.mono e h
  | c i =>
    obtain ⟨a, h1, h2⟩ := h
    obtain ⟨β, q⟩ := p
    refine ⟨a, ?_, h2⟩
    rw [q, List.getElem?_append_left (List.getElem?_eq_some_iff.mp h1).1]
    exact h1
theorem RpWs.mono {G : Gl} {α α' : List Addr} {Z Z' : Hp} (e : Same Z Z') (p : ∃ β, α' = α ++ β) : ∀ {ds : List W} {vs : List V}, RpWs G α Z ds vs → RpWs G α' Z' ds vs
  | _, _, .nil => .nil
  | _, _, .cons h hs => .cons (h.mono e p) (hs.mono e p)
theorem RpWs.length {G : Gl} {α : List Addr} {Z : Hp} : ∀ {ds : List W} {vs : List V}, RpWs G α Z ds vs → ds.length = vs.length
  | _, _, .nil => rfl
  | _, _, .cons _ t => by rw [List.length_cons, List.length_cons, RpWs.length t]
/-- the names' values -/
abbrev Env := List (Option W)
structure ER (G : Gl) (α : List Addr) (Z : Hp) (ρ : Env) (σ : L2.St) : Prop where
  len : ρ.length = σ.length
  at_ : ∀ (i : Nat) (w : W), ρ[i]? = some (some w) → ∃ v, σ[i]? = some (some v) ∧ RpW G α Z w v
theorem ER.mono {G : Gl} {α α' : List Addr} {Z Z' : Hp} {ρ : Env} {σ : L2.St} (e : Same Z Z') (p : ∃ β, α' = α ++ β) (h : ER G α Z ρ σ) : ER G α' Z' ρ σ :=
  ⟨h.len, fun i w q => let ⟨v, h1, h2⟩ := h.at_ i w q; ⟨v, h1, h2.mono e p⟩⟩
theorem ER.set {G : Gl} {α : List Addr} {Z : Hp} {ρ : Env} {σ : L2.St} (h : ER G α Z ρ σ) (i : Nat) {w : W} {v : V} (r : RpW G α Z w v) : ER G α Z (ρ.set i (some w)) (σ.set i (some v)) := by
  refine ⟨by rw [List.length_set, List.length_set, h.len], fun j u q => ?_⟩
  by_cases e : i = j
  · subst e
    have hi := (List.getElem?_eq_some_iff.mp q).1
    rw [List.length_set] at hi
    rw [List.getElem?_set_self hi] at q
    cases q
    exact ⟨v, by rw [List.getElem?_set_self (by rw [← h.len]; exact hi)], r⟩
  · rw [List.getElem?_set_ne e] at q
    obtain ⟨x, h1, h2⟩ := h.at_ j u q
    exact ⟨x, by rw [List.getElem?_set_ne e]; exact h1, h2⟩
end PyD

set_option Elab.async false
set_option linter.all false
set_option maxRecDepth 100000
set_option maxHeartbeats 4000000
/-! PyD2: a small language of expressions and statements over plain data, and what they come to. -/
namespace PyD
open PySem PySem.Spec PyProof.Rows L2

inductive B2 where
  | add | sub | mul | fdiv | mod | pow | shl | shr | band
inductive Cp where
  | eq | ne | lt | le | gt | ge | mem | nmem
inductive Bi where
  | len | int | abs | max | min | sum | tuple | str | bool
inductive Ty where
  | int | bool | str | tuple
inductive Me where
  | split | join | upper | count | index
inductive Sm where
  | index | count
inductive Tg where
  | nm (i : Nat) | tp (is : List Nat)
mutual
inductive E where
  | var (i : Nat) | con (d : D)
  | tup (es : Es) | fr (f : F) | nw (f : F)
  | op2 (o : B2) (a b : E) | neg (a : E) | not (a : E) | and (a b : E) | or (a b : E) | ife (c a b : E)
  | cmp (o : Cp) (a b : E) | chn (o p : Cp) (a b c : E) | isn (a : E) | isnn (a : E)
  | ix (a b : E) | sl (a : E) (lo hi : Eo)
  | call (f : Nat) (es : Es) | bi (b : Bi) (es : Es) | isi (a : E) (t : Ty) | mt (m : Me) (a : E) (es : Es) | trg (a : E) | err (e : E) (nms : List Str) | dsp (kvs : List (Str × Int)) | rev (a : E) | notv (a : E) | sm (m : Sm) (a b : E) | cix (ys : List Str) (a : E) | zd (z : Str) (a : E) | calv (i : Nat) (es : Es) | dnew | dmem (neg : Bool) (k d : E) | dget (d k : E) | dgetd (d k x : E) | dlen (d : E) | dzip (a b : E)
inductive F where
  | lst (es : Es) | of (e : E) | rg (a : E) | rg2 (a b : E) | op (o : B2) (a b : E) | sl (a : E) (lo hi : Eo) | lc (e : E) (t : Tg) (it : Ir) (c : Eo) (own : List Nat)
  | lc2 (e : E) (t : Tg) (it : Ir) (t1 : Tg) (it1 : Ir) (c : Eo) (own own1 : List Nat)
inductive Es where
  | nil | cons (e : E) (es : Es)
inductive Eo where
  | none | some (e : E)
inductive Ir where
  | seq (e : E) | rg1 (a : E) | rg2 (a b : E) | rg3 (a b c : E) | enum (e : E) | zip (a b : E)
end
mutual
inductive S where
  | asg (t : Tg) (e : E) | par (is : List Nat) (es : Es)
  | sti (o : E) (k e : E) | sts (o : E) (lo hi : Eo) (e : E) | app (o e : E)
  | ex (e : E) | ife (c : E) (a b : Ss) | fr (t : Tg) (it : Ir) (b : Ss) | wh (c : E) (b : Ss)
  | ret (e : E) | retn | retc (e : E) | rai (c : Nat) | pass | bad | dput (d k e : E)
inductive Ss where
  | nil | cons (s : S) (ss : Ss)
end
inductive Fl where
  | nx | rt (w : W)

/-! ### values -/
mutual
def D.toP : D → PyData
  | .non => .none
  | .bl b => .bool b
  | .int i => .int i
  | .str s => .str s
  | .tup ds => .tuple (D.toPs ds)
  | .lst ds => .list (D.toPs ds)
  | .fn _ => .dict []
  | .scr _ => .dict []
  | .dc _ => .dict []
def D.toPs : List D → List PyData
  | [] => []
  | d :: ds => d.toP :: D.toPs ds
end
theorem toPs_map : ∀ ds : List D, D.toPs ds = ds.map D.toP
  | [] => rfl
  | d :: ds => by rw [D.toPs, toPs_map ds, List.map_cons]
/-- == of data -/
def D.eqv (x y : D) : Bool := PyData.eqv x.toP y.toP
/-- data that == takes: no def, no script, not deeper than 64 -/
def D.sh (x : D) : Bool := SeqAt.shaped x.toP
/-- flat data -/
def D.flat : D → Bool
  | .non => true | .bl _ => true | .int _ => true | .str _ => true | _ => false
def isNon : D → Bool
  | .non => true
  | _ => false
def stuckIf {α : Type} (b : Bool) (r : R α) : R α := if b = true then r else .stuck
def mulOk (i j : Int) : Bool := decide (-(2 ^ 64) < i ∧ i < 2 ^ 64) || decide (-(2 ^ 64) < j ∧ j < 2 ^ 64)
def iop : B2 → Int → Int → R D
  | .add, i, j => .ok (.int (i + j))
  | .sub, i, j => .ok (.int (i - j))
  | .mul, i, j => stuckIf (mulOk i j) (.ok (.int (i * j)))
  | .fdiv, i, j => stuckIf (decide (0 < j ∧ j < 2 ^ 64)) (.ok (.int (i / j)))
  | .mod, i, j => stuckIf (decide (0 < j)) (.ok (.int (i % j)))
  | .pow, i, j => stuckIf (decide (0 ≤ j ∧ j ≤ 1000000 ∧ i.natAbs < 2 ^ 64)) (.ok (.int (i ^ j.toNat)))
  | .shl, i, j => stuckIf (decide (0 ≤ j ∧ j ≤ 1000000 ∧ i.natAbs < 2 ^ 64)) (.ok (.int (i * 2 ^ j.toNat)))
  | .shr, i, j => stuckIf (decide (0 ≤ j)) (.ok (.int (i / 2 ^ j.toNat)))
  | .band, i, j => .ok (.int (Builtin.bitAnd i j))
def b2 (b : Bool) : Int := if b = true then 1 else 0
/-- an operation with a bool -/
def iopB : B2 → Int → Int → R D
  | .add, i, j => .ok (.int (i + j))
  | .sub, i, j => .ok (.int (i - j))
  | .mul, i, j => .ok (.int (i * j))
  | _, _, _ => .stuck
def repD (ds : List D) (k : Int) : List D := (List.replicate k.toNat ds).flatten
def dop2 (o : B2) (x y : D) : R D := match x, y with
  | .int i, .int j => iop o i j
  | .bl a, .int j => iopB o (b2 a) j
  | .int i, .bl b => iopB o i (b2 b)
  | .str a, .str b => (match o with
    | .add => stuckIf (decide (a.length + b.length ≤ sizeLine)) (.ok (.str (a ++ b)))
    | _ => .stuck)
  | .tup a, .tup b => (match o with
    | .add => stuckIf (decide (a.length + b.length ≤ sizeLine)) (.ok (.tup (a ++ b)))
    | _ => .stuck)
  | .lst a, .lst b => (match o with
    | .add => stuckIf (decide (a.length + b.length ≤ sizeLine)) (.ok (.lst (a ++ b)))
    | _ => .stuck)
  | .lst a, .int k => (match o with
    | .mul => stuckIf (decide (-(2 ^ 63) ≤ k ∧ k < 2 ^ 63 ∧ a.length * k.toNat ≤ sizeLine)) (.ok (.lst (repD a k)))
    | _ => .stuck)
  | .tup a, .int k => (match o with
    | .mul => stuckIf (decide (a ≠ [] ∧ 1 ≤ k ∧ k ≤ 1000 ∧ a.length ≤ 1000)) (.ok (.tup (repD a k)))
    | _ => .stuck)
  | _, _ => .stuck
/-- a new list by an operation -/
def lop (o : B2) (x y : D) : R (List D) := match o, x, y with
  | .add, .lst a, .lst b => stuckIf (decide (a.length + b.length ≤ sizeLine)) (.ok (a ++ b))
  | .mul, .lst a, .int k => stuckIf (decide (-(2 ^ 63) ≤ k ∧ k < 2 ^ 63 ∧ a.length * k.toNat ≤ sizeLine)) (.ok (repD a k))
  | _, _, _ => .stuck
def dcmp (o : Cp) (x y : D) : R D := match o with
  | .eq => stuckIf (x.sh && y.sh) (.ok (.bl (x.eqv y)))
  | .ne => stuckIf (x.sh && y.sh) (.ok (.bl (!x.eqv y)))
  | .lt => (match x, y with | .int i, .int j => .ok (.bl (decide (i < j))) | _, _ => .stuck)
  | .le => (match x, y with | .int i, .int j => .ok (.bl (decide (i ≤ j))) | _, _ => .stuck)
  | .gt => (match x, y with | .int i, .int j => .ok (.bl (decide (j < i))) | _, _ => .stuck)
  | .ge => (match x, y with | .int i, .int j => .ok (.bl (decide (j ≤ i))) | _, _ => .stuck)
  | .mem => (match y with
    | .lst ds => stuckIf (x.sh && (D.lst ds).sh) (.ok (.bl (ds.any fun d => d.eqv x)))
    | .tup ds => stuckIf (x.flat && ds.all D.flat) (.ok (.bl (ds.any fun d => d.eqv x)))
    | .str z => (match x with | .str c => stuckIf (decide (c.length = 1)) (.ok (.bl (decide (c.cps.getD 0 0 ∈ z.cps.toList)))) | _ => .stuck)
    | _ => .stuck)
  | .nmem => (match y with
    | .lst ds => stuckIf (x.sh && (D.lst ds).sh) (.ok (.bl (!ds.any fun d => d.eqv x)))
    | .tup ds => stuckIf (x.flat && ds.all D.flat) (.ok (.bl (!ds.any fun d => d.eqv x)))
    | .str z => (match x with | .str c => stuckIf (decide (c.length = 1)) (.ok (.bl (!decide (c.cps.getD 0 0 ∈ z.cps.toList)))) | _ => .stuck)
    | _ => .stuck)
def optR {α : Type} : Option α → R α
  | some a => .ok a
  | none => .stuck
def dix (x y : D) : R D := match x, y with
  | .lst ds, .int i => optR (atI ds i)
  | .tup ds, .int i => optR (atI ds i)
  | .str z, .int i => stuckIf (decide (z.length ≤ sizeLine)) (optR ((atI z.cps.toList i).map fun c => D.str ⟨#[c]⟩))
  | .scr ns, .int i => optR ((atI ns i).map D.int)
  | .dc kvs, .str z => optR ((dcGet kvs z).map D.int)
  | _, _ => .stuck
def cutD (ds : List D) (lo hi : Option Int) : List D := (ds.drop (HT.sIx ds.length 0 lo)).take (HT.sIx ds.length ds.length hi - HT.sIx ds.length 0 lo)
def dsl (x : D) (lo hi : Option Int) : R D := match x with
  | .lst ds => .ok (.lst (cutD ds lo hi))
  | .tup ds => .ok (.tup (cutD ds lo hi))
  | .str z => stuckIf (decide (z.length ≤ sizeLine)) (.ok (.str (cutS z lo hi)))
  | _ => .stuck
def intsOf : List D → Option (List Int)
  | [] => some []
  | .int i :: ds => (intsOf ds).map (i :: ·)
  | _ => none
def strsOf : List D → Option (List Str)
  | [] => some []
  | .str i :: ds => (strsOf ds).map (i :: ·)
  | _ => none
def dbi (b : Bi) (xs : List D) : R D := match b, xs with
  | .len, [.lst ds] => .ok (.int ds.length)
  | .len, [.tup ds] => .ok (.int ds.length)
  | .len, [.scr ns] => .ok (.int ns.length)
  | .len, [.str z] => stuckIf (decide (z.length ≤ sizeLine)) (.ok (.int z.length))
  | .int, [.int i] => .ok (.int i)
  | .int, [.bl k] => .ok (.int (if k then 1 else 0))
  | .int, [.str z] => stuckIf (decide (z.length ≤ 640)) (optR ((PySem.intText? z).map D.int))
  | .abs, [.int i] => .ok (.int (if i < 0 then -i else i))
  | .max, [.int i, .int j] => .ok (.int (if j > i then j else i))
  | .min, [.int i, .int j] => .ok (.int (if j < i then j else i))
  | .sum, [.lst ds] => optR ((intsOf ds).map fun ns => D.int ns.sum)
  | .sum, [.tup ds] => optR ((intsOf ds).map fun ns => D.int ns.sum)
  | .tuple, [.lst ds] => .ok (.tup ds)
  | .tuple, [.tup ds] => .ok (.tup ds)
  | .str, [.int i] => stuckIf (decide (i.natAbs.log2 < 1920)) (.ok (.str (toString i : String)))
  | .str, [.bl k] => .ok (.str (if k then "True" else "False" : String))
  | .bool, [.bl k] => .ok (.bl k)
  | .bool, [.int i] => .ok (.bl (i != 0))
  | _, _ => .stuck
def disi (x : D) (t : Ty) : R D := match t, x with
  | .int, .int _ => .ok (.bl true)
  | .int, .bl _ => .ok (.bl true)
  | .bool, .bl _ => .ok (.bl true)
  | .str, .str _ => .ok (.bl true)
  | .tuple, .tup _ => .ok (.bl true)
  | _, .fn _ => .stuck
  | _, .scr _ => .stuck
  | _, .dc _ => .stuck
  | _, _ => .ok (.bl false)
def dtru : D → R Bool
  | .bl b => .ok b
  | .int i => .ok (i != 0)
  | .non => .ok false
  | _ => .stuck
def drev : D → R D
  | .lst ds => .ok (.lst ds.reverse)
  | .tup ds => .ok (.tup ds.reverse)
  | _ => .stuck
/-- the first place of an equal one -/
def findI (ds : List D) (y : D) : Option Nat := ds.findIdx? fun d => d.eqv y
def dsm (m : Sm) (x y : D) : R D := match m, x with
  | .index, .lst ds => stuckIf ((D.lst ds).sh && y.sh) (optR ((findI ds y).map fun j => D.int (j : Nat)))
  | .count, .lst ds => (match y with
    | .str z => optR ((strsOf ds).map fun ys => D.int (ys.count z : Nat))
    | _ => .stuck)
  | _, _ => .stuck
def dcix (ys : List Str) (y : D) : R D := match y with
  | .str z => optR ((ys.findIdx? fun d => d == z).map fun j => D.int (j : Nat))
  | _ => .stuck
def zipC (z : Str) (ns : List Int) : List (Str × Int) := (z.cps.toList.map fun c => (⟨#[c]⟩ : Str)).zip ns
/-- dict(zip(text, numbers)) -/
def dzd (z : Str) (x : D) : R D := match x with
  | .tup ds => optR ((intsOf ds).map fun ns => D.dc (zipC z ns))
  | _ => .stuck
def isLst : D → Bool
  | .lst _ => true
  | _ => false
def joinOk (a : Str) (zs : List Str) : Bool := decide ((zs.map (·.length)).sum + zs.length * a.length ≤ 16777216)
def dmt (m : Me) (a : Str) (ys : List D) : R D := match m, ys with
  | .split, [.str b] => stuckIf (!(b.length == 0) && decide (a.length + 2 ≤ sizeLine)) (.ok (.lst ((Txt.split a b).map D.str)))
  | .join, [.lst ds] => optR ((strsOf ds).bind fun zs => if joinOk a zs = true then some (D.str (Txt.join a zs)) else none)
  | .upper, [] => stuckIf (decide (a.length ≤ 5592405)) (.ok (.str (Txt.upper a)))
  | _, _ => .stuck
/-- what is seen of a value -/
def view (M : Ms) : W → R D
  | .d x => .ok x
  | .c i => (match M[i]? with
    | some (.lst ds) => .ok (.lst ds)
    | some (.fro ds) => .ok (.lst ds)
    | _ => .stuck)
/-- a value as data: a cell is changed no more -/
def frz (M : Ms) : W → R (D × Ms)
  | .d x => .ok (x, M)
  | .c i => (match M[i]? with
    | some (.lst ds) => .ok (.lst ds, M.set i (.fro ds))
    | some (.fro ds) => .ok (.lst ds, M)
    | _ => .stuck)
/-! dicts -/
/-- the kvs are all of one kind, and so is k -/
def keyOk (kvs : List (D × D)) (k : D) : Bool := ((keyF k).isSome && kvs.all fun p => (keyF p.1).isSome) || ((keyN k).isSome && kvs.all fun p => (keyN p.1).isSome)
def keyE (x y : D) : Bool := decide (keyF x = keyF y) && decide (keyN x = keyN y)
def dGet (kvs : List (D × D)) (k : D) : Option D := (kvs.find? fun p => keyE p.1 k).map (·.2)
def dPut (kvs : List (D × D)) (k v : D) : List (D × D) := if (dGet kvs k).isSome then kvs.map (fun p => if keyE p.1 k then (p.1, v) else p) else kvs ++ [(k, v)]
def dicOf (M : Ms) : W → R (List (D × D))
  | .d _ => .stuck
  | .c i => (match M[i]? with
    | some (.dic kvs) => .ok kvs
    | _ => .stuck)
def dataOf : W → R D
  | .d x => .ok x
  | .c _ => .stuck
def dmemR (neg : Bool) (kvs : List (D × D)) (k : D) : R D := stuckIf (keyOk kvs k) (.ok (.bl (if neg = true then !(dGet kvs k).isSome else (dGet kvs k).isSome)))
def dgetR (kvs : List (D × D)) (k : D) : R D := stuckIf (keyOk kvs k) (optR (dGet kvs k))
def dgetdR (kvs : List (D × D)) (k x : D) : R D := stuckIf (keyOk kvs k) (.ok ((dGet kvs k).getD x))
def dputM (M : Ms) (w : W) (k v : D) : R Ms := match w with
  | .d _ => .stuck
  | .c i => (match M[i]? with
    | some (.dic kvs) => stuckIf (keyOk kvs k && decide (kvs.length < sizeLine)) (.ok (M.set i (.dic (dPut kvs k v))))
    | _ => .stuck)
/-- xs[a:c] = ys -/
def stsM (M : Ms) (w : W) (lo hi : Option Int) (x : D) : R Ms := match w, lo, hi, x with
  | .c i, some a, some c, .lst ys => (match M[i]? with
    | some (.lst ds) => stuckIf (decide (0 ≤ a ∧ a ≤ c ∧ c ≤ ds.length ∧ ds.length + ys.length ≤ sizeLine)) (.ok (M.set i (.lst (ds.take a.toNat ++ ys ++ ds.drop c.toNat))))
    | _ => .stuck)
  | _, _, _, _ => .stuck
def rgCnt (a b c : Int) : Nat := ((b - a + c - 1) / c).toNat
def rg3D (a c : Int) (n : Nat) : List D := (List.range n).map fun (i : Nat) => D.int (a + (i : Nat) * c)
def dzipK (ks vs : List D) : R (List (D × D)) := stuckIf (ks.all fun k => (keyF k).isSome) (stuckIf (decide (ks.length ≤ sizeLine)) (.ok ((ks.zip vs).foldl (fun acc p => dPut acc p.1 p.2) [])))
/-- a list that may be changed -/
def cellOf (M : Ms) : W → R Nat
  | .d _ => .stuck
  | .c i => (match M[i]? with
    | some (.lst _) => .ok i
    | _ => .stuck)
def asB (d : D) (f : Bool → R α) : R α := match d with
  | .bl b => f b
  | _ => .stuck
def asS (d : D) (f : Str → R α) : R α := match d with
  | .str b => f b
  | _ => .stuck
def asI (d : D) (f : Int → R α) : R α := match d with
  | .int b => f b
  | _ => .stuck
/-- the small range of what range() may be asked here -/
def rgOk (a b : Int) : Bool := decide (-(2 ^ 62) ≤ a ∧ a < 2 ^ 62 ∧ -(2 ^ 62) ≤ b ∧ b < 2 ^ 62 ∧ (b - a).toNat ≤ 2 ^ 24)
def rgD (a b : Int) : List D := (List.range (b - a).toNat).map fun (i : Nat) => D.int (a + (i : Nat))
/-- the items of what is walked -/
def itemsOf : D → R (List D)
  | .lst ds => .ok ds
  | .tup ds => .ok ds
  | .str z => .ok (z.cps.toList.map fun c => D.str ⟨#[c]⟩)
  | _ => .stuck
def enumD (i : Nat) : List D → List D
  | [] => []
  | d :: ds => .tup [.int (i : Nat), d] :: enumD (i + 1) ds
def zipD : List D → List D → List D
  | a :: as, b :: bs => .tup [a, b] :: zipD as bs
  | _, _ => []
def setAll : List Nat → List D → Env → R Env
  | [], [], ρ => .ok ρ
  | i :: is, d :: ds, ρ => setAll is ds (ρ.set i (some (.d d)))
  | _, _, _ => .stuck
def setW : List Nat → List W → Env → R Env
  | [], [], ρ => .ok ρ
  | i :: is, d :: ds, ρ => setW is ds (ρ.set i (some d))
  | _, _, _ => .stuck
def bindT (t : Tg) (d : D) (ρ : Env) : R Env := match t with
  | .nm i => .ok (ρ.set i (some (.d d)))
  | .tp is => (match d with
    | .tup ds => setAll is ds ρ
    | _ => .stuck)
def wipeD (ρ : Env) : List Nat → Env
  | [] => ρ
  | v :: vs => (wipeD ρ vs).set v none

/-! ### loops -/
def forL (body : D → Env → Ms → R ((Fl × Env) × Ms)) : List D → Env → Ms → R ((Fl × Env) × Ms)
  | [], ρ, M => .ok ((.nx, ρ), M)
  | d :: r, ρ, M => (body d ρ M).bind fun q => match q.1.1 with
    | .nx => forL body r q.1.2 q.2
    | .rt w => .ok ((.rt w, q.1.2), q.2)
/-- a comprehension: each turn gives an item or none -/
def lcL (elt : D → Ms → R (Option D × Ms)) : List D → List D → Ms → R (List D × Ms)
  | [], acc, M => .ok (acc, M)
  | d :: r, acc, M => (match elt d M with
    | .ok (some x, M') => stuckIf (decide (acc.length < sizeLine)) (lcL elt r (acc ++ [x]) M')
    | .ok (none, M') => lcL elt r acc M'
    | _ => .stuck)
/-- a comprehension of two fors: the inner one goes on with the same list -/
def lc2L (inner : D → List D → Ms → R (List D × Ms)) : List D → List D → Ms → R (List D × Ms)
  | [], acc, M => .ok (acc, M)
  | d :: r, acc, M => (match inner d acc M with
    | .ok (acc', M') => lc2L inner r acc' M'
    | _ => .stuck)
def whL (c : Env → Ms → R (Bool × Ms)) (body : Env → Ms → R ((Fl × Env) × Ms)) : Nat → Env → Ms → R ((Fl × Env) × Ms)
  | 0, _, _ => .stuck
  | n + 1, ρ, M => (c ρ M).bind fun q => if q.1 = true then (body ρ q.2).bind fun q => (match q.1.1 with
    | .nx => whL c body n q.1.2 q.2
    | .rt w => .ok ((.rt w, q.1.2), q.2)) else .ok ((.nx, ρ), q.2)

/-- _law_error's answer: "" where all went well, else the error's names -/
def errR {β : Type} (nms : List Str) (n : Nat) : R (β × Ms) → R (W × Ms)
  | .ok (_, M) => .ok (.d (.str ""), M.take n)
  | .exc c M => (match nms[c]? with
    | some z => .ok (.d (.str z), M.take n)
    | none => .stuck)
  | .stuck => .stuck

def okOnly {α β : Type} (r : R α) (f : α → R β) : R β := match r with
  | .ok a => f a
  | _ => .stuck
/-! ### what they come to. cl: what a call comes to -/
section
variable (cl : Nat → List W → Ms → R (W × Ms))
mutual
def evE : E → Env → Ms → R (W × Ms)
  | .var i, ρ, M => (match ρ[i]? with
    | some (some w) => .ok (w, M)
    | _ => .stuck)
  | .con d, _, M => .ok (.d d, M)
  | .tup es, ρ, M => (evDs es ρ M).bind fun q => stuckIf (decide (q.1.length ≤ sizeLine)) (.ok (.d (.tup q.1), q.2))
  | .fr f, ρ, M => (evF f ρ M).bind fun q => .ok (.d (.lst q.1), q.2)
  | .nw f, ρ, M => (evF f ρ M).bind fun q => .ok (.c q.2.length, q.2 ++ [.lst q.1])
  | .op2 o a b, ρ, M => (evE a ρ M).bind fun p => (evE b ρ p.2).bind fun q => (view q.2 p.1).bind fun x => (view q.2 q.1).bind fun y => (dop2 o x y).bind fun z => .ok (.d z, q.2)
  | .neg a, ρ, M => (evE a ρ M).bind fun p => (view p.2 p.1).bind fun x => asI x fun i => .ok (.d (.int (-i)), p.2)
  | .not a, ρ, M => (evE a ρ M).bind fun p => (view p.2 p.1).bind fun x => asB x fun i => .ok (.d (.bl (!i)), p.2)
  | .and a b, ρ, M => (evE a ρ M).bind fun p => (view p.2 p.1).bind fun x => asB x fun i => if i = true then evE b ρ p.2 else .ok (.d (.bl false), p.2)
  | .or a b, ρ, M => (evE a ρ M).bind fun p => (view p.2 p.1).bind fun x => asB x fun i => if i = true then .ok (.d (.bl true), p.2) else evE b ρ p.2
  | .ife c a b, ρ, M => (evE c ρ M).bind fun p => (view p.2 p.1).bind fun x => asB x fun i => if i = true then evE a ρ p.2 else evE b ρ p.2
  | .cmp o a b, ρ, M => (evE a ρ M).bind fun p => (evE b ρ p.2).bind fun q => (view q.2 p.1).bind fun x => (view q.2 q.1).bind fun y => (dcmp o x y).bind fun z => .ok (.d z, q.2)
  | .chn o o' a b c, ρ, M => (evE a ρ M).bind fun p => (evE b ρ p.2).bind fun q => (view q.2 p.1).bind fun x => (view q.2 q.1).bind fun y => (dcmp o x y).bind fun z => asB z fun k =>
      if k = true then (evE c ρ q.2).bind fun r => (view r.2 q.1).bind fun y' => (view r.2 r.1).bind fun z' => (dcmp o' y' z').bind fun u => .ok (.d u, r.2) else .ok (.d (.bl false), q.2)
  | .isn a, ρ, M => (evE a ρ M).bind fun p => (view p.2 p.1).bind fun x => .ok (.d (.bl (isNon x)), p.2)
  | .isnn a, ρ, M => (evE a ρ M).bind fun p => (view p.2 p.1).bind fun x => .ok (.d (.bl (!isNon x)), p.2)
  | .ix a b, ρ, M => (evE a ρ M).bind fun p => (evE b ρ p.2).bind fun q => (view q.2 p.1).bind fun x => (view q.2 q.1).bind fun y => (dix x y).bind fun z => .ok (.d z, q.2)
  | .sl a lo hi, ρ, M => (evE a ρ M).bind fun p => (evO lo ρ p.2).bind fun q => (evO hi ρ q.2).bind fun r => (view r.2 p.1).bind fun x => (dsl x q.1 r.1).bind fun z => .ok (.d z, r.2)
  | .call f es, ρ, M => (evWs es ρ M).bind fun q => cl f q.1 q.2
  | .bi b es, ρ, M => (evVs es ρ M).bind fun q => (dbi b q.1).bind fun z => .ok (.d z, q.2)
  | .isi a t, ρ, M => (evE a ρ M).bind fun p => (view p.2 p.1).bind fun x => (disi x t).bind fun z => .ok (.d z, p.2)
  | .mt m a es, ρ, M => (evE a ρ M).bind fun p => (view p.2 p.1).bind fun x => asS x fun a => (evVs es ρ p.2).bind fun q => (dmt m a q.1).bind fun z => .ok (.d z, q.2)
  | .trg a, ρ, M => (evE a ρ M).bind fun p => (view p.2 p.1).bind fun x => asI x fun n => stuckIf (rgOk 0 n) (.ok (.d (.tup (rgD 0 n)), p.2))
  | .dsp kvs, _, M => .ok (.d (.dc kvs), M)
  | .notv a, ρ, M => (evE a ρ M).bind fun p => (view p.2 p.1).bind fun x => (dtru x).bind fun k => .ok (.d (.bl (!k)), p.2)
  | .rev a, ρ, M => (evE a ρ M).bind fun p => (view p.2 p.1).bind fun x => (drev x).bind fun z => .ok (.d z, p.2)
  | .sm m a b, ρ, M => (evE a ρ M).bind fun p => (view p.2 p.1).bind fun x0 => stuckIf (isLst x0) ((evE b ρ p.2).bind fun q => (view q.2 p.1).bind fun x => (view q.2 q.1).bind fun y => (dsm m x y).bind fun z => .ok (.d z, q.2))
  | .cix ys a, ρ, M => (evE a ρ M).bind fun p => (view p.2 p.1).bind fun x => (dcix ys x).bind fun z => .ok (.d z, p.2)
  | .zd z a, ρ, M => (evE a ρ M).bind fun p => (view p.2 p.1).bind fun x => (dzd z x).bind fun d => .ok (.d d, p.2)
  | .err e nms, ρ, M => errR nms M.length (evE e ρ M)
  | .dnew, _, M => .ok (.c M.length, M ++ [.dic []])
  | .dmem neg k d, ρ, M => (evE k ρ M).bind fun p => (evE d ρ p.2).bind fun q => (dataOf p.1).bind fun x => (dicOf q.2 q.1).bind fun kvs => (dmemR neg kvs x).bind fun z => .ok (.d z, q.2)
  | .dget d k, ρ, M => (evE d ρ M).bind fun p => (evE k ρ p.2).bind fun q => (dataOf q.1).bind fun x => (dicOf q.2 p.1).bind fun kvs => (dgetR kvs x).bind fun z => .ok (.d z, q.2)
  | .dgetd d k x, ρ, M => (evE d ρ M).bind fun p => (dicOf p.2 p.1).bind fun _ => (evE k ρ p.2).bind fun q => (evE x ρ q.2).bind fun r => (dataOf q.1).bind fun y => (dataOf r.1).bind fun z => (dicOf r.2 p.1).bind fun kvs => (dgetdR kvs y z).bind fun u => .ok (.d u, r.2)
  | .dlen d, ρ, M => (evE d ρ M).bind fun p => (dicOf p.2 p.1).bind fun kvs => .ok (.d (.int kvs.length), p.2)
  | .dzip a b, ρ, M => (evE a ρ M).bind fun p => (frz p.2 p.1).bind fun p => (evE b ρ p.2).bind fun q => (frz q.2 q.1).bind fun q => (itemsOf p.1).bind fun ds => (itemsOf q.1).bind fun es => (dzipK ds es).bind fun kvs => .ok (.c q.2.length, q.2 ++ [.dic kvs])
  | .calv i es, ρ, M => (match ρ[i]? with
    | some (some (.d (.fn j))) => okOnly (evWs es ρ M) fun q => cl j q.1 q.2
    | _ => .stuck)
def evF : F → Env → Ms → R (List D × Ms)
  | .lst es, ρ, M => (evDs es ρ M).bind fun q => stuckIf (decide (q.1.length ≤ sizeLine)) (.ok (q.1, q.2))
  | .of e, ρ, M => (evE e ρ M).bind fun p => (view p.2 p.1).bind fun x => (match x with
    | .lst ds => .ok (ds, p.2)
    | .tup ds => .ok (ds, p.2)
    | _ => .stuck)
  | .rg a, ρ, M => (evE a ρ M).bind fun p => (view p.2 p.1).bind fun x => asI x fun n => stuckIf (rgOk 0 n) (.ok (rgD 0 n, p.2))
  | .rg2 a b, ρ, M => (evE a ρ M).bind fun p => (evE b ρ p.2).bind fun q => (view q.2 p.1).bind fun x => (view q.2 q.1).bind fun y => asI x fun m => asI y fun n => stuckIf (rgOk m n) (.ok (rgD m n, q.2))
  | .op o a b, ρ, M => (evE a ρ M).bind fun p => (evE b ρ p.2).bind fun q => (view q.2 p.1).bind fun x => (view q.2 q.1).bind fun y => (lop o x y).bind fun z => .ok (z, q.2)
  | .sl a lo hi, ρ, M => (evE a ρ M).bind fun p => (evO lo ρ p.2).bind fun q => (evO hi ρ q.2).bind fun r => (view r.2 p.1).bind fun x => (match x with
    | .lst ds => .ok (cutD ds q.1 r.1, r.2)
    | _ => .stuck)
  | .lc e t it c own, ρ, M => (evI it ρ M).bind fun p => lcL (fun d M => (bindT t d (wipeD ρ own)).bind fun ρ' => (evC c ρ' M).bind fun q =>
      if q.1 = true then (evE e ρ' q.2).bind fun r => (frz r.2 r.1).bind fun r => .ok (some r.1, r.2) else .ok (none, q.2)) p.1 [] p.2
  | .lc2 e t it t1 it1 c own own1, ρ, M => (evI it ρ M).bind fun p => lc2L (fun d acc M => (bindT t d (wipeD ρ own)).bind fun ρ' => (evI it1 ρ' M).bind fun p1 =>
      lcL (fun d M => (bindT t1 d (wipeD ρ' own1)).bind fun ρ'' => (evC c ρ'' M).bind fun q =>
        if q.1 = true then (evE e ρ'' q.2).bind fun r => (frz r.2 r.1).bind fun r => .ok (some r.1, r.2) else .ok (none, q.2)) p1.1 acc p1.2) p.1 [] p.2
/-- as they are (a call's arguments) -/
def evWs : Es → Env → Ms → R (List W × Ms)
  | .nil, _, M => .ok ([], M)
  | .cons e es, ρ, M => (evE e ρ M).bind fun p => (evWs es ρ p.2).bind fun q => .ok (p.1 :: q.1, q.2)
/-- as data -/
def evDs : Es → Env → Ms → R (List D × Ms)
  | .nil, _, M => .ok ([], M)
  | .cons e es, ρ, M => (evE e ρ M).bind fun p => (frz p.2 p.1).bind fun p => (evDs es ρ p.2).bind fun q => .ok (p.1 :: q.1, q.2)
/-- as they are seen (a built-in's arguments); a cell stands alone -/
def evVs : Es → Env → Ms → R (List D × Ms)
  | .nil, _, M => .ok ([], M)
  | .cons e .nil, ρ, M => (evE e ρ M).bind fun p => (view p.2 p.1).bind fun x => .ok ([x], p.2)
  | .cons e es, ρ, M => (evE e ρ M).bind fun p => (frz p.2 p.1).bind fun p => (evDs es ρ p.2).bind fun q => .ok (p.1 :: q.1, q.2)
def evO : Eo → Env → Ms → R (Option Int × Ms)
  | .none, _, M => .ok (none, M)
  | .some e, ρ, M => (evE e ρ M).bind fun p => (view p.2 p.1).bind fun x => asI x fun i => .ok (some i, p.2)
def evC : Eo → Env → Ms → R (Bool × Ms)
  | .none, _, M => .ok (true, M)
  | .some e, ρ, M => (evE e ρ M).bind fun p => (view p.2 p.1).bind fun x => asB x fun b => .ok (b, p.2)
def evI : Ir → Env → Ms → R (List D × Ms)
  | .seq e, ρ, M => (evE e ρ M).bind fun p => (frz p.2 p.1).bind fun p => (itemsOf p.1).bind fun ds => .ok (ds, p.2)
  | .rg1 a, ρ, M => (evE a ρ M).bind fun p => (view p.2 p.1).bind fun x => asI x fun n => stuckIf (decide (-(2 ^ 62) ≤ n ∧ n < 2 ^ 62)) (.ok (rgD 0 n, p.2))
  | .rg2 a b, ρ, M => (evE a ρ M).bind fun p => (view p.2 p.1).bind fun x => (evE b ρ p.2).bind fun q => (view q.2 q.1).bind fun y => asI x fun m => asI y fun n =>
      stuckIf (decide (-(2 ^ 62) ≤ m ∧ m < 2 ^ 62 ∧ -(2 ^ 62) ≤ n ∧ n < 2 ^ 62)) (.ok (rgD m n, q.2))
  | .rg3 a b c, ρ, M => (evE a ρ M).bind fun p => (view p.2 p.1).bind fun x => (evE b ρ p.2).bind fun q => (view q.2 q.1).bind fun y => (evE c ρ q.2).bind fun r => (view r.2 r.1).bind fun z => asI x fun i => asI y fun j => asI z fun k =>
      stuckIf (decide (0 ≤ i ∧ i ≤ j ∧ j < 2 ^ 30 ∧ 1 ≤ k ∧ k < 2 ^ 30)) (.ok (rg3D i k (rgCnt i j k), r.2))
  | .enum e, ρ, M => (evE e ρ M).bind fun p => (frz p.2 p.1).bind fun p => (itemsOf p.1).bind fun ds => .ok (enumD 0 ds, p.2)
  | .zip a b, ρ, M => (evE a ρ M).bind fun p => (frz p.2 p.1).bind fun p => (evE b ρ p.2).bind fun q => (frz q.2 q.1).bind fun q => (itemsOf p.1).bind fun ds => (itemsOf q.1).bind fun es => .ok (zipD ds es, q.2)
end
variable (wf : Nat)
mutual
def evS : S → Env → Ms → R ((Fl × Env) × Ms)
  | .asg t e, ρ, M => (evE cl e ρ M).bind fun p => (match t with
    | .nm i => .ok ((.nx, ρ.set i (some p.1)), p.2)
    | .tp is => (frz p.2 p.1).bind fun p => (bindT (.tp is) p.1 ρ).bind fun ρ' => .ok ((.nx, ρ'), p.2))
  | .par is es, ρ, M => (evWs cl es ρ M).bind fun p => (setW is p.1 ρ).bind fun ρ' => .ok ((.nx, ρ'), p.2)
  | .sti o k e, ρ, M => (evE cl e ρ M).bind fun p => (frz p.2 p.1).bind fun p => (evE cl o ρ p.2).bind fun q => (evE cl k ρ q.2).bind fun r => (view r.2 r.1).bind fun k => asI k fun k => (match q.1 with
    | .c i => (match r.2[i]? with
      | some (.lst ds) => (match ixN ds.length k with
        | some j => .ok ((.nx, ρ), r.2.set i (.lst (ds.set j p.1)))
        | none => .stuck)
      | _ => .stuck)
    | _ => .stuck)
  | .sts o lo hi e, ρ, M => (evE cl e ρ M).bind fun p => (frz p.2 p.1).bind fun p => (evE cl o ρ p.2).bind fun q => (evO cl lo ρ q.2).bind fun r => (evO cl hi ρ r.2).bind fun t => (stsM t.2 q.1 r.1 t.1 p.1).bind fun M' => .ok ((.nx, ρ), M')
  | .app o e, ρ, M => (evE cl o ρ M).bind fun q => (cellOf q.2 q.1).bind fun i => (evE cl e ρ q.2).bind fun p => (frz p.2 p.1).bind fun p => (match p.2[i]? with
      | some (.lst ds) => stuckIf (decide (ds.length < sizeLine)) (.ok ((.nx, ρ), p.2.set i (.lst (ds ++ [p.1]))))
      | _ => .stuck)
  | .ex e, ρ, M => (evE cl e ρ M).bind fun p => .ok ((.nx, ρ), p.2)
  | .ife c a b, ρ, M => (evE cl c ρ M).bind fun p => (view p.2 p.1).bind fun x => asB x fun i => if i = true then evSs a ρ p.2 else evSs b ρ p.2
  | .fr t it b, ρ, M => (evI cl it ρ M).bind fun p => forL (fun d ρ M => (bindT t d ρ).bind fun ρ' => evSs b ρ' M) p.1 ρ p.2
  | .wh c b, ρ, M => whL (fun ρ M => (evE cl c ρ M).bind fun p => (view p.2 p.1).bind fun x => asB x fun i => .ok (i, p.2)) (fun ρ M => evSs b ρ M) wf ρ M
  | .ret e, ρ, M => (evE cl e ρ M).bind fun p => (frz p.2 p.1).bind fun p => .ok ((.rt (.d p.1), ρ), p.2)
  | .retn, ρ, M => .ok ((.rt (.d .non), ρ), M)
  | .retc e, ρ, M => (evE cl e ρ M).bind fun p => .ok ((.rt p.1, ρ), p.2)
  | .rai c, _, M => .exc c M
  | .pass, ρ, M => .ok ((.nx, ρ), M)
  | .bad, _, _ => .stuck
  | .dput d k e, ρ, M => (evE cl e ρ M).bind fun p => (frz p.2 p.1).bind fun p => (evE cl d ρ p.2).bind fun q => (evE cl k ρ q.2).bind fun r => (dataOf r.1).bind fun k => (dputM r.2 q.1 k p.1).bind fun M' => .ok ((.nx, ρ), M')
def evSs : Ss → Env → Ms → R ((Fl × Env) × Ms)
  | .nil, ρ, M => .ok ((.nx, ρ), M)
  | .cons s ss, ρ, M => (evS s ρ M).bind fun q => (match q.1.1 with
    | .nx => evSs ss q.1.2 q.2
    | .rt w => .ok ((.rt w, q.1.2), q.2))
end
end
end PyD

set_option Elab.async false
set_option linter.all false
set_option maxRecDepth 100000
set_option maxHeartbeats 4000000
/-! PyD3: what an evaluation comes to, as a wish about the heap (Post); operations by values. -/
namespace PyD
open PySem PySem.Spec PyProof.Rows L2

theorem R.bind_bind {β γ δ : Type} (r : R β) (f : β → R γ) (g : γ → R δ) : (r.bind f).bind g = r.bind fun x => (f x).bind g := by
  cases r <;> rfl
theorem asB_bind {β γ : Type} (d : D) (f : Bool → R β) (g : β → R γ) : (asB d f).bind g = asB d fun i => (f i).bind g := by
  cases d <;> rfl
theorem asI_bind {β γ : Type} (d : D) (f : Int → R β) (g : β → R γ) : (asI d f).bind g = asI d fun i => (f i).bind g := by
  cases d <;> rfl
def Post {β : Type} (G : Gl) (E : XK) (α : List Addr) (M : Ms) (Z H : Hp) (r : R (β × Ms)) (K : β → List Addr → Ms → Hp → Hp → Prop) : Prop := match r with
  | .ok (b, M') => ∀ α' Z' H', Ext α M Z H α' M' Z' H' → SR G α' M' Z' H' → K b α' M' Z' H'
  | .exc c M' => ∀ α' Z' H', Ext α M Z H α' M' Z' H' → SR G α' M' Z' H' → E (.ref (G.ca c)) Option.none H'
  | .stuck => False
section
variable {G : Gl} {E : XK} {α : List Addr} {M : Ms} {Z H : Hp} {β γ : Type}
theorem Post.imp {r : R (β × Ms)} {K K' : β → List Addr → Ms → Hp → Hp → Prop} (h : Post G E α M Z H r K)
    (f : ∀ b α' M' Z' H', Ext α M Z H α' M' Z' H' → SR G α' M' Z' H' → K b α' M' Z' H' → K' b α' M' Z' H') : Post G E α M Z H r K' := by
  match r, h with
  | .ok (b, M'), h => exact fun α' Z' H' x S => f b α' M' Z' H' x S (h α' Z' H' x S)
  | .exc c M', h => exact h
  | .stuck, h => exact h
theorem Post.later {r : R (β × Ms)} {K : β → List Addr → Ms → Hp → Hp → Prop} (h : Post G E α M Z H r K) {α1 : List Addr} {M1 : Ms} {Z1 H1 : Hp} (x : Ext α M Z H α1 M1 Z1 H1) : Post G E α1 M1 Z1 H1 r K := by
  match r, h with
  | .ok (b, M'), h => exact fun α' Z' H' y S => h α' Z' H' (x.trans y) S
  | .exc c M', h => exact fun α' Z' H' y S => h α' Z' H' (x.trans y) S
  | .stuck, h => exact h
theorem Post.bind {r : R (β × Ms)} {f : β × Ms → R (γ × Ms)} {K : γ → List Addr → Ms → Hp → Hp → Prop} (h : Post G E α M Z H (r.bind f) K) :
    Post G E α M Z H r fun b α1 M1 Z1 H1 => Post G E α1 M1 Z1 H1 (f (b, M1)) K := by
  match r, h with
  | .ok (b, M'), h => exact fun α' Z' H' x S => Post.later (show Post G E α M Z H (f (b, M')) K from h) x
  | .exc c M', h => exact h
  | .stuck, h => exact h
theorem Post.ok {b : β} {K : β → List Addr → Ms → Hp → Hp → Prop} (h : Post G E α M Z H (.ok (b, M)) K) (S : SR G α M Z H) : K b α M Z H := h α Z H .refl S
/-- a step that only looks -/
theorem Post.look {r : R β} {f : β → R (γ × Ms)} {K : γ → List Addr → Ms → Hp → Hp → Prop} (hr : ∀ c M, r ≠ .exc c M) (h : Post G E α M Z H (r.bind f) K) : ∃ b, r = .ok b ∧ Post G E α M Z H (f b) K := by
  match r, hr, h with
  | .ok b, _, h => exact ⟨b, rfl, h⟩
  | .exc c M', hr, _ => exact absurd rfl (hr c M')
  | .stuck, _, h => exact h.elim
theorem Post.stuckIf {b : Bool} {r : R (γ × Ms)} {K : γ → List Addr → Ms → Hp → Hp → Prop} (h : Post G E α M Z H (stuckIf b r) K) : b = true ∧ Post G E α M Z H r K := by
  cases b with
  | true => exact ⟨rfl, h⟩
  | false => exact (show False from h).elim
theorem Post.asB {d : D} {f : Bool → R (γ × Ms)} {K : γ → List Addr → Ms → Hp → Hp → Prop} (h : Post G E α M Z H (asB d f) K) : ∃ b, d = .bl b ∧ Post G E α M Z H (f b) K := by
  cases d <;> first | exact ⟨_, rfl, h⟩ | exact (show False from h).elim
theorem Post.asS {d : D} {f : PySem.Str → R (γ × Ms)} {K : γ → List Addr → Ms → Hp → Hp → Prop} (h : Post G E α M Z H (asS d f) K) : ∃ b, d = .str b ∧ Post G E α M Z H (f b) K := by
  cases d <;> first | exact ⟨_, rfl, h⟩ | exact (show False from h).elim
theorem Post.asI {d : D} {f : Int → R (γ × Ms)} {K : γ → List Addr → Ms → Hp → Hp → Prop} (h : Post G E α M Z H (asI d f) K) : ∃ b, d = .int b ∧ Post G E α M Z H (f b) K := by
  cases d <;> first | exact ⟨_, rfl, h⟩ | exact (show False from h).elim
end
theorem stuckIf_ok {β : Type} {b : Bool} {r : R β} {x : β} (h : stuckIf b r = .ok x) : b = true ∧ r = .ok x := by
  cases b with
  | true => exact ⟨rfl, h⟩
  | false => cases h
theorem optR_ok {β : Type} {o : Option β} {x : β} (h : optR o = .ok x) : o = some x := by
  cases o with
  | none => cases h
  | some a => cases h; rfl
theorem bind_ok {β γ : Type} {r : R β} {f : β → R γ} {x : γ} (h : r.bind f = .ok x) : ∃ b, r = .ok b ∧ f b = .ok x := by
  match r, h with
  | .ok b, h => exact ⟨b, rfl, h⟩
/-- what is wished of a new value -/
def KD (G : Gl) (α : List Addr) (M : Ms) (Z H : Hp) (z : D) (Q : VK) : Prop := ∀ Z' H' v, Ext α M Z H α M Z' H' → SR G α M Z' H' → Rp G Z' z v → Q v H'
/-- a value that is only looked at: data, or a cell's list as it stands -/
inductive Rv (G : Gl) (Z H : Hp) : D → V → Prop
  | data {x : D} {v : V} : Rp G Z x v → Rv G Z H x v
  | cell {ds : List D} {a : Addr} {vs : List V} : H a = some (.lst vs) → Rps G Z ds vs → Rv G Z H (.lst ds) (.ref a)
section
variable {G : Gl} {α : List Addr} {M : Ms} {Z H : Hp} {Q : VK} {z : D}
theorem KD.here (k : KD G α M Z H z Q) (S : SR G α M Z H) {v : V} (r : Rp G Z z v) : Q v H := k Z H v .refl S r
theorem KD.new (k : KD G α M Z H z Q) (S : SR G α M Z H) {p : Addr} {o : HO} (hp : H p = Option.none) (nt : ∀ ps, o ≠ .tbl ps) (r : Rp G (upd Z p o) z (.ref p)) : Q (.ref p) (upd H p o) :=
  k _ _ _ (S.new hp nt).2 (S.new hp nt).1 r
theorem Rv.mono {Z' : Hp} (S : SR G α M Z H) {x : D} {v : V} (h : Rv G Z H x v) : Rv G Z H x v := h
theorem Rv.lst (S : SR G α M Z H) {ds : List D} {v : V} (h : Rv G Z H (.lst ds) v) : ∃ a vs, v = .ref a ∧ H a = some (.lst vs) ∧ Rps G Z ds vs := by
  cases h with
  | data h => cases h with | lst h1 h2 => exact ⟨_, _, rfl, S.sub _ _ h1, h2⟩
  | cell h1 h2 => exact ⟨_, _, rfl, h1, h2⟩
theorem Rv.tup (S : SR G α M Z H) {ds : List D} {v : V} (h : Rv G Z H (.tup ds) v) : ∃ a vs, v = .ref a ∧ SqT G.K Z a vs ∧ Rps G Z ds vs := by
  cases h with
  | data h => cases h with | tup h1 h2 => exact ⟨_, _, rfl, h1, h2⟩
theorem Rv.int {i : Int} {v : V} (h : Rv G Z H (.int i) v) : v = .int i := by
  cases h with | data h => cases h; rfl
theorem Rv.str {i : Str} {v : V} (h : Rv G Z H (.str i) v) : v = .str i := by
  cases h with | data h => cases h; rfl
theorem Rv.bl {i : Bool} {v : V} (h : Rv G Z H (.bl i) v) : v = .bl i := by
  cases h with | data h => cases h; rfl
theorem Rv.non {v : V} (h : Rv G Z H .non v) : v = .non := by
  cases h with | data h => cases h; rfl
theorem Rv.scr (S : SR G α M Z H) {ns : List Int} {v : V} (h : Rv G Z H (.scr ns) v) : ∃ a, v = .ref a ∧ SqL G.K H a (ns.map V.int) := by
  cases h with | data h => cases h with | scr h => exact ⟨_, rfl, L2.Same.seq S.sub h⟩
theorem Rv.dc (S : SR G α M Z H) {kvs : List (Str × Int)} {v : V} (h : Rv G Z H (.dc kvs) v) : ∃ a, v = .ref a ∧ (H a = some (.dK (mergeK [] (kvK kvs))) ∨ ∀ z i, dcGet kvs z = some i → KDct G.K G.w a z (.int i)) := by
  cases h with | data h => cases h with | dc h => exact ⟨_, rfl, h.imp (fun h => S.sub _ _ h) id⟩
theorem sqT_sub (S : SR G α M Z H) {a : Addr} {xs : List V} (h : SqT G.K Z a xs) : SqT G.K H a xs := Same.sqT S.sub h
theorem sqL_of {K : PySem.W.Frag} {a : Addr} {xs : List V} (h : H a = some (.lst xs)) : SqL K H a xs := SqL.of h
theorem view_rel (S : SR G α M Z H) {w : W} {v : V} {x : D} (r : RpW G α Z w v) (e : view M w = .ok x) : Rv G Z H x v := by
  cases w with
  | d y => cases e; exact .data r
  | c i =>
    obtain ⟨a, h1, rfl⟩ := r
    simp only [view] at e
    cases q : M[i]? with
    | none => simp only [q] at e; cases e
    | some c =>
      simp only [q] at e
      cases c with
      | lst ds =>
        cases e
        obtain ⟨_, vs, ha, hr⟩ := S.cell i _ a q rfl h1
        exact .cell ha hr
      | dic kvs => cases e
      | fro ds =>
        cases e
        obtain ⟨vs, ha, hr⟩ := S.fro i _ a q h1
        exact .data (.lst ha hr)
theorem view_exc {M : Ms} {w : W} (c : Nat) (M' : Ms) : view M w ≠ .exc c M' := by
  cases w with
  | d x => intro h; cases h
  | c i =>
    simp only [view]
    split <;> (intro h; cases h)
end
section
variable {β : Type}
theorem stuckIf_exc {b : Bool} {r : R β} (h : ∀ c M, r ≠ .exc c M) : ∀ c M, stuckIf b r ≠ .exc c M := fun c M => by
  cases b with
  | true => exact h c M
  | false => intro h; cases h
theorem optR_exc {o : Option β} : ∀ c M, optR o ≠ .exc c M := fun c M => by
  cases o <;> (intro h; cases h)
theorem ok_exc {x : β} : ∀ c M, R.ok x ≠ .exc c M := fun c M h => by cases h
end
theorem iop_exc {o : B2} {i j : Int} : ∀ c M, iop o i j ≠ .exc c M := fun c M => by
  cases o <;> first | exact stuckIf_exc ok_exc c M | exact ok_exc c M
theorem iopB_exc {o : B2} {i j : Int} : ∀ c M, iopB o i j ≠ .exc c M := fun c M => by
  cases o <;> first | exact ok_exc c M | (intro h; cases h)
theorem dtru_exc {x : D} : ∀ c M, dtru x ≠ .exc c M := fun c M => by
  cases x <;> first | exact ok_exc c M | (intro h; cases h)
theorem drev_exc {x : D} : ∀ c M, drev x ≠ .exc c M := fun c M => by
  cases x <;> first | exact ok_exc c M | (intro h; cases h)
theorem dop2_exc {o : B2} {x y : D} : ∀ c M, dop2 o x y ≠ .exc c M := fun c M => by
  unfold dop2
  split <;> first | exact iop_exc c M | exact iopB_exc c M | (intro h; cases h) | (split <;> first | exact stuckIf_exc ok_exc c M | (intro h; cases h))
theorem dcmp_exc {o : Cp} {x y : D} : ∀ c M, dcmp o x y ≠ .exc c M := fun c M => by
  unfold dcmp
  cases o <;> (dsimp only; first | exact stuckIf_exc ok_exc c M | (split <;> first | exact stuckIf_exc ok_exc c M | exact ok_exc c M | (intro h; cases h) | (split <;> first | exact stuckIf_exc ok_exc c M | (intro h; cases h))))
theorem dix_exc {x y : D} : ∀ c M, dix x y ≠ .exc c M := fun c M => by
  unfold dix
  split <;> first | exact optR_exc c M | exact stuckIf_exc optR_exc c M | (intro h; cases h)
theorem dsl_exc {x : D} {lo hi : Option Int} : ∀ c M, dsl x lo hi ≠ .exc c M := fun c M => by
  unfold dsl
  split <;> first | exact ok_exc c M | exact stuckIf_exc ok_exc c M | (intro h; cases h)
theorem dbi_exc {b : Bi} {xs : List D} : ∀ c M, dbi b xs ≠ .exc c M := fun c M => by
  unfold dbi
  split <;> first | exact ok_exc c M | exact optR_exc c M | exact stuckIf_exc ok_exc c M | exact stuckIf_exc optR_exc c M | (intro h; cases h)
theorem disi_exc {x : D} {t : Ty} : ∀ c M, disi x t ≠ .exc c M := fun c M => by
  unfold disi
  split <;> first | exact ok_exc c M | (intro h; cases h)
theorem dmt_exc {m : Me} {x : PySem.Str} {ys : List D} : ∀ c M, dmt m x ys ≠ .exc c M := fun c M => by
  unfold dmt
  split <;> first | exact ok_exc c M | exact optR_exc c M | exact stuckIf_exc ok_exc c M | (intro h; cases h)

/-! ### two places -/
/-- the state that a rule by values is asked at -/
def At2 (G : Gl) (op : D → D → R D) : R2 := fun x y H Q => ∃ α M Z a b z, SR G α M Z H ∧ Rv G Z H a x ∧ Rv G Z H b y ∧ op a b = .ok z ∧ KD G α M Z H z Q
section
variable {X : Cx} {G : Gl}
theorem tuple_mul1 (l : Addr) (items : Array Value) (n : Nat) (dd : Option Addr) (sl : Array (Option Value)) (u : Tok) :
    Meets (Builtin.«tuple.__mul__» ⟨[.ref l, .int 1 u], []⟩) (fun _ R s => s.heap.get? l = some { cls := .type "tuple", dict := dd, data := .seq items n, slots := sl } ∧ R (.ok (.ret (Value.ref l))) s) :=
  .of_wp fun prog w A R s h => by
    obtain ⟨hp, g, d, tk, os⟩ := s
    obtain ⟨hl, h⟩ := h
    have f1 := AutoSeq1.idx_int
    have c0 : (decide ((1 : Int) < -(2 ^ 63)) || decide ((1 : Int) ≥ 2 ^ 63)) = false := by decide
    have c1 : (items.isEmpty || (1 : Int) == 1) = true := by cases items.isEmpty <;> rfl
    wp_walk using wpAny_loadPart' hl
    repeat (first
      | (refine wpAny_ite_false (decide_eq_false (by rw [c0]; exact Bool.false_ne_true)) ?_; wp_walk using wpAny_loadPart' hl)
      | (refine wpAny_ite_true (decide_eq_true c1) ?_; wp_walk using wpAny_loadPart' hl))
    first | exact ⟨_, rfl, h⟩ | exact h
def bop : B2 → Operator
  | .add => .Add | .sub => .Sub | .mul => .Mult | .fdiv => .FloorDiv | .mod => .Mod | .pow => .Pow | .shl => .LShift | .shr => .RShift | .band => .BitAnd
def rIop (o : B2) : R2 := fun x y H Q => ∃ i j z, x = .int i ∧ y = .int j ∧ iop o i j = .ok (.int z) ∧ Q (.int z) H
theorem op_int (o : B2) : OpR X (binaryOp (bop o)) (rIop o) := by
  intro pins s σ H x y v u Q I rx ry h
  obtain ⟨i, j, z, rfl, rfl, e, q⟩ := h
  cases o with
  | add => cases e; exact op_add pins s σ H _ _ v u Q I rx ry ⟨i, j, rfl, rfl, q⟩
  | sub => cases e; exact op_sub pins s σ H _ _ v u Q I rx ry ⟨i, j, rfl, rfl, q⟩
  | mul =>
    obtain ⟨b, e⟩ := stuckIf_ok e
    cases e
    refine op_mul pins s σ H _ _ v u Q I rx ry ⟨i, j, rfl, rfl, ?_, q⟩
    rcases Bool.or_eq_true_iff.mp b with b | b
    · exact .inl (of_decide_eq_true b)
    · exact .inr (of_decide_eq_true b)
  | fdiv =>
    obtain ⟨b, e⟩ := stuckIf_ok e
    cases e
    have b := of_decide_eq_true b
    refine op_fdivW pins s σ H _ _ v u Q I rx ry ⟨i, j, rfl, rfl, wide_div (b := 64) b.1 (by omega) (by omega) (by omega), q⟩
  | mod =>
    obtain ⟨b, e⟩ := stuckIf_ok e
    cases e
    exact op_mod pins s σ H _ _ v u Q I rx ry ⟨i, j, rfl, rfl, of_decide_eq_true b, q⟩
  | pow =>
    obtain ⟨b, e⟩ := stuckIf_ok e
    cases e
    have b := of_decide_eq_true b
    exact op_pow pins s σ H _ _ v u Q I rx ry ⟨i, j, rfl, rfl, b, q⟩
  | shl =>
    obtain ⟨b, e⟩ := stuckIf_ok e
    cases e
    have b := of_decide_eq_true b
    exact op_shl pins s σ H _ _ v u Q I rx ry ⟨i, j, rfl, rfl, b, q⟩
  | shr =>
    obtain ⟨b, e⟩ := stuckIf_ok e
    cases e
    exact op_shr pins s σ H _ _ v u Q I rx ry ⟨i, j, rfl, rfl, of_decide_eq_true b, q⟩
  | band => cases e; exact op_and pins s σ H _ _ v u Q I rx ry ⟨i, j, rfl, rfl, q⟩
theorem iop_int {o : B2} {i j : Int} {z : D} (h : iop o i j = .ok z) : ∃ k, z = .int k := by
  cases o <;> first | (cases h; exact ⟨_, rfl⟩) | (obtain ⟨_, h⟩ := stuckIf_ok h; cases h; exact ⟨_, rfl⟩)
def rRepT1 (K : PySem.W.Frag) : R2 := fun x y H Q => ∃ l xs, x = .ref l ∧ y = .int 1 ∧ SqT K H l xs ∧ Q (.ref l) H
theorem op_repT1 : OpR X (binaryOp .Mult) (rRepT1 X.K) := by
  intro pins s σ H x y v u Q I rx ry h
  obtain ⟨l, xs, rfl, rfl, hT, q⟩ := h
  cases rx
  obtain ⟨t, rfl⟩ := ry
  obtain ⟨its, r, ⟨⟨cls, dd, data, sl⟩, ho, hc, n, hd⟩, hs⟩ := I.tuple hT
  simp only at hc hd
  subst hc hd
  refine wpAny_binaryOp_repeat_ref (T := "tuple") (U := "int") (by decide) ⟨_, ho, rfl⟩ (fun s' => typeIs_int s' 1 t) noFill_tuple_mul F.fills_int_mul F.slot_int_rmul repeat_tuple F.slot_int_index.lookup
    (call_meets F.slot_int_rmul (typeIs_int s 1 t) F.entry_int_rmul (F.args_int_rmul_2 _ _) (int_rmul_tuple 1 t l its.toArray n dd sl)
      ⟨ho, rfl, ⟨_, ho, rfl⟩, call_meets F.slot_tuple_mul ⟨_, ho, rfl⟩ F.entry_tuple_mul (F.args_tuple_mul_2 _ _) (tuple_mul1 l its.toArray n dd sl t) ⟨ho, ?_⟩⟩)
  exact ⟨.ref l, H, I, rfl, q⟩
theorem rep_length {α : Type} (l : List α) (k : Nat) : (List.replicate k l).flatten.length = l.length * k := by
  rw [PyProof.Rows.lm_len_rep_flat, Nat.mul_comm]
theorem op2_R (hK : X.K = G.K) (o : B2) : OpR X (binaryOp (bop o)) (At2 G (dop2 o)) := by
  intro pins s σ H x y v u Q I rx ry h
  obtain ⟨α, M, Z, a, b, z, S, ra, rb, e, k⟩ := h
  unfold dop2 at e
  split at e
  · rename_i i j
    have hx := ra.int
    have hy := rb.int
    subst hx hy
    obtain ⟨n, rfl⟩ := iop_int e
    exact op_int o pins s σ H _ _ v u Q I rx ry ⟨i, j, n, rfl, rfl, e, k.here S (.int n)⟩
  · rename_i i j
    have hx := ra.bl
    have hy := rb.int
    subst hx hy
    cases rx
    obtain ⟨t, rfl⟩ := ry
    cases o <;> first | (cases (show (R.stuck : R D) = R.ok z from e); done) | cases e
    · exact PySem.IntBool.add_bool_int ⟨.int (b2 i + j), H, I.tok _, ⟨_, rfl⟩, k.here S (.int _)⟩
    · exact PySem.IntBool.sub_bool_int ⟨.int (b2 i - j), H, I.tok _, ⟨_, rfl⟩, k.here S (.int _)⟩
    · exact PySem.IntBool.mul_bool_int ⟨.int (b2 i * j), H, I.tok _, ⟨_, rfl⟩, k.here S (.int _)⟩
  · rename_i i j
    have hx := ra.int
    have hy := rb.bl
    subst hx hy
    cases ry
    obtain ⟨t, rfl⟩ := rx
    cases o <;> first | (cases (show (R.stuck : R D) = R.ok z from e); done) | cases e
    · exact add_int_bool ⟨.int (i + b2 j), H, I.tok _, ⟨_, rfl⟩, k.here S (.int _)⟩
    · exact PySem.IntBool.sub_int_bool ⟨.int (i - b2 j), H, I.tok _, ⟨_, rfl⟩, k.here S (.int _)⟩
    · exact PySem.IntBool.mul_int_bool ⟨.int (i * b2 j), H, I.tok _, ⟨_, rfl⟩, k.here S (.int _)⟩
  · rename_i i j
    have hx := ra.str
    have hy := rb.str
    subst hx hy
    cases o <;> try (cases (show (R.stuck : R D) = R.ok z from e))
    obtain ⟨b, e⟩ := stuckIf_ok e
    cases e
    exact op_add_str pins s σ H _ _ v u Q I rx ry ⟨i, j, rfl, rfl, of_decide_eq_true b, k.here S (.str _)⟩
  · rename_i i j
    obtain ⟨a, vs, rfl, h1, r1⟩ := ra.tup S
    obtain ⟨b, us, rfl, h2, r2⟩ := rb.tup S
    cases o <;> try (cases (show (R.stuck : R D) = R.ok z from e))
    obtain ⟨bb, e⟩ := stuckIf_ok e
    cases e
    have l1 := r1.length
    have l2 := r2.length
    have bb := of_decide_eq_true bb
    refine op_catA pins s σ H _ _ v u Q I rx ry ⟨a, b, vs, us, rfl, rfl, by rw [hK]; exact sqT_sub S h1, by rw [hK]; exact sqT_sub S h2, by omega, fun e => ?_, fun _ e => ?_, fun _ _ p hp => ?_⟩
    · subst e
      cases r1
      exact k.here S (.tup h2 (by rw [List.nil_append]; exact r2))
    · subst e
      cases r2
      exact k.here S (.tup h1 (by rw [List.append_nil]; exact r1))
    · exact k.new S hp (fun ps z => by cases z) (.tup (SqT.of upd_same) ((r1.append r2).mono (same_upd (S.zfree hp))))
  · rename_i i j
    obtain ⟨a, vs, rfl, h1, r1⟩ := ra.lst S
    obtain ⟨b, us, rfl, h2, r2⟩ := rb.lst S
    cases o <;> try (cases (show (R.stuck : R D) = R.ok z from e))
    obtain ⟨bb, e⟩ := stuckIf_ok e
    cases e
    have l1 := r1.length
    have l2 := r2.length
    have bb := of_decide_eq_true bb
    refine op_cat pins s σ H _ _ v u Q I rx ry ⟨a, b, vs, us, rfl, rfl, h1, h2, by omega, fun p hp => ?_⟩
    exact k.new S hp (fun ps z => by cases z) (.lst upd_same ((r1.append r2).mono (same_upd (S.zfree hp))))
  · rename_i i j
    obtain ⟨a, vs, rfl, h1, r1⟩ := ra.lst S
    have hy := rb.int
    subst hy
    cases o <;> try (cases (show (R.stuck : R D) = R.ok z from e))
    obtain ⟨bb, e⟩ := stuckIf_ok e
    cases e
    have l1 := r1.length
    have bb := of_decide_eq_true bb
    refine op_rep pins s σ H _ _ v u Q I rx ry ⟨a, j, vs, rfl, rfl, h1, bb.1, bb.2.1, by rw [← l1]; exact bb.2.2, fun p hp => ?_⟩
    exact k.new S hp (fun ps z => by cases z) (.lst upd_same ((r1.rep _).mono (same_upd (S.zfree hp))))
  · rename_i i j
    obtain ⟨a, vs, rfl, h1, r1⟩ := ra.tup S
    have hy := rb.int
    subst hy
    cases o <;> try (cases (show (R.stuck : R D) = R.ok z from e))
    obtain ⟨bb, e⟩ := stuckIf_ok e
    cases e
    have l1 := r1.length
    have bb := of_decide_eq_true bb
    have hK2 : SqT X.K H a vs := by rw [hK]; exact sqT_sub S h1
    by_cases h1j : j = 1
    · subst h1j
      refine op_repT1 pins s σ H _ _ v u Q I rx ry ⟨a, vs, rfl, rfl, hK2, k.here S ?_⟩
      have er : repD i 1 = i := by unfold repD; simp
      rw [er]
      exact .tup h1 r1
    · refine op_repT pins s σ H _ _ v u Q I rx ry ⟨a, j, vs, rfl, rfl, hK2, fun q => ?_, by omega, by omega, by omega, fun p hp => ?_⟩
      · subst q
        cases r1
        exact bb.1 rfl
      · exact k.new S hp (fun ps z => by cases z) (.tup (SqT.of upd_same) ((r1.rep _).mono (same_upd (S.zfree hp))))
  · cases e
end
/-! ### comparisons -/
mutual
theorem toDp {G : Gl} {α : List Addr} {M : Ms} {Z H : Hp} (S : SR G α M Z H) : ∀ {d : D} {v : V}, Rp G Z d v → PyData.canLay0 d.toP = true → Dp G.K H v d.toP
  | _, _, .non, _ => .non
  | _, _, .bl b, _ => .bl b
  | _, _, .int i, _ => .int i
  | _, _, .str s, _ => .str s
  | _, _, .tup h hs, c => by
    rw [D.toP, PyData.canLay0] at c
    rw [D.toP]
    exact .tup (sqT_sub S h) (toDps S hs c)
  | _, _, .lst h hs, c => by
    rw [D.toP, PyData.canLay0] at c
    rw [D.toP]
    exact .lst (SqL.of (S.sub _ _ h)) (toDps S hs c)
  | _, _, .fn i, c => by
    rw [D.toP, PyData.canLay0] at c
    cases c
  | _, _, .scr h, c => by
    rw [D.toP, PyData.canLay0] at c
    cases c
  | _, _, .dc h, c => by
    rw [D.toP, PyData.canLay0] at c
    cases c
theorem toDps {G : Gl} {α : List Addr} {M : Ms} {Z H : Hp} (S : SR G α M Z H) : ∀ {ds : List D} {vs : List V}, Rps G Z ds vs → PyData.canLayAll0 (D.toPs ds) = true → DpAll G.K H vs (D.toPs ds)
  | _, _, .nil, _ => .nil
  | _, _, .cons h hs, c => by
    rw [D.toPs, PyData.canLayAll0] at c
    have c := Bool.and_eq_true_iff.mp c
    rw [D.toPs]
    exact .cons (toDp S h c.1) (toDps S hs c.2)
end
theorem Rv.dp {G : Gl} {α : List Addr} {M : Ms} {Z H : Hp} (S : SR G α M Z H) {x : D} {v : V} (h : Rv G Z H x v) (c : x.sh = true) : Dp G.K H v x.toP := by
  have c := SeqAt.canLay_of_shaped c
  cases h with
  | data h => exact toDp S h c
  | cell h hs =>
    rw [D.toP, PyData.canLay0] at c
    rw [D.toP]
    exact .lst (SqL.of h) (toDps S hs c)
def cop : Cp → CmpOp
  | .eq => .Eq | .ne => .NotEq | .lt => .Lt | .le => .LtE | .gt => .Gt | .ge => .GtE | .mem => .In | .nmem => .NotIn
theorem flat_eq {G : Gl} {Z : Hp} {a b : D} {x y : V} (ra : Rp G Z a x) (rb : Rp G Z b y) (fa : a.flat = true) (fb : b.flat = true) : eqV x y = a.eqv b ∧ flatV x = true ∧ flatV y = true := by
  cases ra <;> first | (cases fa; done) | skip
  all_goals (cases rb <;> first | (cases fb; done) | exact ⟨rfl, rfl, rfl⟩)
theorem flat_any {G : Gl} {Z : Hp} {x : D} {v : V} (rx : Rp G Z x v) (fx : x.flat = true) : ∀ {ds : List D} {vs : List V}, Rps G Z ds vs → ds.all D.flat = true → inV v vs = ds.any (fun d => d.eqv x) ∧ vs.all flatV = true
  | _, _, .nil, _ => ⟨rfl, rfl⟩
  | _, _, .cons h hs, f => by
    rw [List.all_cons] at f
    have f := Bool.and_eq_true_iff.mp f
    obtain ⟨e1, e2⟩ := flat_any rx fx hs f.2
    obtain ⟨h1, h2, _⟩ := flat_eq h rx f.1 fx
    refine ⟨?_, by rw [List.all_cons, h2, e2]; rfl⟩
    unfold inV at e1 ⊢
    rw [List.any_cons, List.any_cons, e1, h1]
theorem Rv.flat {G : Gl} {Z H : Hp} {x : D} {v : V} (h : Rv G Z H x v) (f : x.flat = true) : Rp G Z x v := by
  cases h with
  | data h => exact h
  | cell _ _ => cases f
theorem flat_v {G : Gl} {Z : Hp} {x : D} {v : V} (h : Rp G Z x v) (f : x.flat = true) : flatV v = true := by
  cases h <;> first | (cases f; done) | rfl
theorem toPs_any (x : D) : ∀ ds : List D, ((D.toPs ds).any fun z => PyData.eqv z x.toP) = ds.any fun d => d.eqv x
  | [] => rfl
  | d :: ds => by rw [D.toPs, List.any_cons, List.any_cons, toPs_any x ds]; rfl
theorem str_one {c : Str} (h : c.length = 1) : c = ⟨#[c.cps.getD 0 0]⟩ := by
  obtain ⟨⟨l⟩⟩ := c
  match l, h with
  | [a], _ => rfl
theorem cmp_R {X : Cx} {G : Gl} (hK : X.K = G.K) (hu : X.A.units + 65 < cLine) (o : Cp) : OpR X (compareOp (cop o)) (At2 G (dcmp o)) := by
  intro pins s σ H x y v u Q I rx ry h
  obtain ⟨α, M, Z, a, b, z, S, ra, rb, e, k⟩ := h
  have hu64 : X.A.units + 64 < cLine := by omega
  cases o with
  | eq =>
    obtain ⟨c, e⟩ := stuckIf_ok e
    cases e
    have c := Bool.and_eq_true_iff.mp c
    exact op_eqD hu64 pins s σ H x y v u Q I rx ry ⟨_, _, by rw [hK]; exact ra.dp S c.1, by rw [hK]; exact rb.dp S c.2, c.1, c.2, k.here S (.bl _)⟩
  | ne =>
    obtain ⟨c, e⟩ := stuckIf_ok e
    cases e
    have c := Bool.and_eq_true_iff.mp c
    exact op_neD hu64 pins s σ H x y v u Q I rx ry ⟨_, _, by rw [hK]; exact ra.dp S c.1, by rw [hK]; exact rb.dp S c.2, c.1, c.2, k.here S (.bl _)⟩
  | lt =>
    unfold dcmp at e
    dsimp only at e
    split at e
    · cases e; have hx := ra.int; have hy := rb.int; subst hx hy
      exact op_lt pins s σ H _ _ v u Q I rx ry ⟨_, _, rfl, rfl, k.here S (.bl _)⟩
    · cases e
  | le =>
    unfold dcmp at e
    dsimp only at e
    split at e
    · cases e; have hx := ra.int; have hy := rb.int; subst hx hy
      exact op_le pins s σ H _ _ v u Q I rx ry ⟨_, _, rfl, rfl, k.here S (.bl _)⟩
    · cases e
  | gt =>
    unfold dcmp at e
    dsimp only at e
    split at e
    · cases e; have hx := ra.int; have hy := rb.int; subst hx hy
      exact op_gt pins s σ H _ _ v u Q I rx ry ⟨_, _, rfl, rfl, k.here S (.bl _)⟩
    · cases e
  | ge =>
    unfold dcmp at e
    dsimp only at e
    split at e
    · cases e; have hx := ra.int; have hy := rb.int; subst hx hy
      exact op_ge pins s σ H _ _ v u Q I rx ry ⟨_, _, rfl, rfl, k.here S (.bl _)⟩
    · cases e
  | mem =>
    unfold dcmp at e
    dsimp only at e
    split at e
    · rename_i ds
      obtain ⟨c, e⟩ := stuckIf_ok e
      cases e
      have c := Bool.and_eq_true_iff.mp c
      have db := rb.dp S c.2
      rw [D.toP] at db
      have sb : SeqAt.shaped (.list (D.toPs ds)) = true := by have := c.2; unfold D.sh at this; rw [D.toP] at this; exact this
      refine op_inD hu pins s σ H x y v u Q I rx ry ⟨_, D.toPs ds, by rw [hK]; exact ra.dp S c.1, by rw [hK]; exact db, c.1, sb, ?_⟩
      rw [toPs_any]
      exact k.here S (.bl _)
    · rename_i ds
      obtain ⟨c, e⟩ := stuckIf_ok e
      cases e
      have c := Bool.and_eq_true_iff.mp c
      obtain ⟨q, vs, rfl, h1, r1⟩ := rb.tup S
      have rx' := ra.flat c.1
      obtain ⟨e1, e2⟩ := flat_any rx' c.1 r1 c.2
      refine op_in_seq pins s σ H x _ v u Q I rx ry ⟨q, vs, rfl, .inr (by rw [hK]; exact sqT_sub S h1), flat_v rx' c.1, e2, ?_⟩
      rw [if_neg Bool.false_ne_true, e1]
      exact k.here S (.bl _)
    · rename_i z'
      split at e
      · rename_i c
        obtain ⟨b, e⟩ := stuckIf_ok e
        cases e
        have hx := ra.str
        have hy := rb.str
        subst hx hy
        exact op_in_sign pins s σ H _ _ v u Q I rx ry ⟨_, _, congrArg V.str (str_one (of_decide_eq_true b)), rfl, k.here S (.bl _)⟩
      · cases e
    · cases e
  | nmem =>
    unfold dcmp at e
    dsimp only at e
    split at e
    · rename_i ds
      obtain ⟨c, e⟩ := stuckIf_ok e
      cases e
      have c := Bool.and_eq_true_iff.mp c
      have db := rb.dp S c.2
      rw [D.toP] at db
      have sb : SeqAt.shaped (.list (D.toPs ds)) = true := by have := c.2; unfold D.sh at this; rw [D.toP] at this; exact this
      refine op_notInD hu pins s σ H x y v u Q I rx ry ⟨_, D.toPs ds, by rw [hK]; exact ra.dp S c.1, by rw [hK]; exact db, c.1, sb, ?_⟩
      rw [toPs_any]
      exact k.here S (.bl _)
    · rename_i ds
      obtain ⟨c, e⟩ := stuckIf_ok e
      cases e
      have c := Bool.and_eq_true_iff.mp c
      obtain ⟨q, vs, rfl, h1, r1⟩ := rb.tup S
      have rx' := ra.flat c.1
      obtain ⟨e1, e2⟩ := flat_any rx' c.1 r1 c.2
      refine op_notIn_seq pins s σ H x _ v u Q I rx ry ⟨q, vs, rfl, .inr (by rw [hK]; exact sqT_sub S h1), flat_v rx' c.1, e2, ?_⟩
      rw [if_pos rfl, e1]
      exact k.here S (.bl _)
    · rename_i z'
      split at e
      · rename_i c
        obtain ⟨b, e⟩ := stuckIf_ok e
        cases e
        have hx := ra.str
        have hy := rb.str
        subst hx hy
        exact op_notIn_sign pins s σ H _ _ v u Q I rx ry ⟨_, _, congrArg V.str (str_one (of_decide_eq_true b)), rfl, k.here S (.bl _)⟩
      · cases e
    · cases e
end PyD

set_option Elab.async false
set_option linter.all false
set_option maxRecDepth 100000
set_option maxHeartbeats 4000000
/-! PyD4: subscripts, slices, built-ins, methods, by values. -/
namespace PyD
open PySem PySem.Spec PyProof.Rows L2
section
variable {G : Gl} {α : List Addr} {M : Ms} {Z H : Hp}
theorem Rps.atI {ds : List D} {vs : List V} {i : Int} {d : D} (r : Rps G Z ds vs) (h : L2.atI ds i = some d) : ∃ v, L2.atI vs i = some v ∧ Rp G Z d v := by
  unfold L2.atI at h ⊢
  rw [← r.length]
  cases e : ixN ds.length i with
  | none => rw [e] at h; cases h
  | some j =>
    rw [e] at h
    obtain ⟨v, h1, h2⟩ := r.get (show ds[j]? = some d from h)
    exact ⟨v, h1, h2⟩
theorem cut_rel {ds : List D} {vs : List V} {lo hi : Option Int} (r : Rps G Z ds vs) : Rps G Z (cutD ds lo hi) (cutV vs lo hi) := by
  unfold cutD cutV
  rw [r.length]
  exact (r.drop _).take _
theorem ints_rel : ∀ {ds : List D} {vs : List V} {ns : List Int}, Rps G Z ds vs → intsOf ds = some ns → vs = ns.map V.int
  | [], _, ns, h, e => by cases h; cases e; rfl
  | d :: ds, _, ns, h, e => by
    cases h with
    | cons h hs =>
      cases d with
      | int i =>
        simp only [intsOf, Option.map_eq_some_iff] at e
        obtain ⟨ms, e1, e2⟩ := e
        subst e2
        cases h
        rw [ints_rel hs e1, List.map_cons]
      | _ => cases e
theorem strs_rel : ∀ {ds : List D} {vs : List V} {ns : List Str}, Rps G Z ds vs → strsOf ds = some ns → vs = ns.map V.str
  | [], _, ns, h, e => by cases h; cases e; rfl
  | d :: ds, _, ns, h, e => by
    cases h with
    | cons h hs =>
      cases d with
      | str i =>
        simp only [strsOf, Option.map_eq_some_iff] at e
        obtain ⟨ms, e1, e2⟩ := e
        subst e2
        cases h
        rw [strs_rel hs e1, List.map_cons]
      | _ => cases e
end
theorem cr_sumT {X : Cx} (hc : X.calm = true) : CallR X (.builtin "sum") (fun vs H Q => ∃ (a : Addr) (ns : List Int), vs = [V.ref a] ∧ SqT X.K H a (ns.map V.int) ∧ Q (.int ns.sum) H) := by
  intro pins s σ H vs us Q I r h
  obtain ⟨a, ns, rfl, hs, q⟩ := h
  obtain ⟨its, rv, hl, _⟩ := I.tuple hs
  rw [Vals.ref1 r]
  obtain ⟨xs, e⟩ := rv.ints.allInts.items
  have hn : numsOf (intItems xs).toList = ns := by rw [← e]; exact rv.ints.numsOf
  rw [nums_intItems] at hn
  rw [e] at hl
  refine PySem.W.ktm_sumG (I.ok.hd hc) hl fun h' tk t' hk => ?_
  have z : preSum (numAt xs) xs.size = ns.sum := by rw [preSum_eq, List.take_of_length_le (by simp), hn]
  rw [z]
  exact ⟨.int _, H, I.kept hk, ⟨_, rfl⟩, q⟩
theorem ix_R {X : Cx} {G : Gl} (hK : X.K = G.K) (hw : X.w = G.w) (hu : X.A.units + 1 < cLine) : IxR X (At2 G dix) := by
  intro value slice pins s σ H x y v u Q I rx ry h hs
  obtain ⟨α, M, Z, a, b, z, S, ra, rb, e, k⟩ := h
  unfold dix at e
  split at e
  · rename_i ds i
    obtain ⟨p, vs, rfl, h1, r1⟩ := ra.lst S
    have hy := rb.int
    subst hy
    obtain ⟨v', e1, r'⟩ := r1.atI (optR_ok e)
    exact ix_list value slice pins s σ H _ _ v u Q I rx ry ⟨p, vs, i, v', rfl, rfl, SqL.of h1, e1, k.here S r'⟩ hs
  · rename_i ds i
    obtain ⟨p, vs, rfl, h1, r1⟩ := ra.tup S
    have hy := rb.int
    subst hy
    obtain ⟨v', e1, r'⟩ := r1.atI (optR_ok e)
    exact ix_tup value slice pins s σ H _ _ v u Q I rx ry ⟨p, vs, i, v', rfl, rfl, by rw [hK]; exact sqT_sub S h1, e1, k.here S r'⟩ hs
  · rename_i st i
    have hx := ra.str
    have hy := rb.int
    subst hx hy
    obtain ⟨b, e⟩ := stuckIf_ok e
    have e := optR_ok e
    simp only [Option.map_eq_some_iff] at e
    obtain ⟨c, e1, e2⟩ := e
    subst e2
    exact ix_str value slice pins s σ H _ _ v u Q I rx ry ⟨st, i, c, rfl, rfl, of_decide_eq_true b, e1, k.here S (.str _)⟩ hs
  · rename_i ns i
    obtain ⟨p, rfl, h1⟩ := ra.scr S
    have hy := rb.int
    subst hy
    have e := optR_ok e
    simp only [Option.map_eq_some_iff] at e
    obtain ⟨c, e1, e2⟩ := e
    subst e2
    refine ix_list value slice pins s σ H _ _ v u Q I rx ry ⟨p, ns.map V.int, i, V.int c, rfl, rfl, by rw [hK]; exact h1, ?_, k.here S (.int _)⟩ hs
    unfold L2.atI at e1 ⊢
    rw [List.length_map]
    cases q : ixN ns.length i with
    | none => rw [q] at e1; cases e1
    | some j =>
      rw [q] at e1
      have e1 : ns[j]? = some c := e1
      show (ns.map V.int)[j]? = some (V.int c)
      rw [List.getElem?_map, e1]
      rfl
  · rename_i kvs z
    have hy := rb.str
    subst hy
    have e := optR_ok e
    simp only [Option.map_eq_some_iff] at e
    obtain ⟨c, e1, e2⟩ := e
    subst e2
    obtain ⟨p, rfl, h1⟩ := ra.dc S
    rcases h1 with h1 | h1
    · have g : DGet H p (.str z) (some (.int c)) := by
        refine .inl ⟨_, Sum.inr z, .inl h1, rfl, ?_⟩
        unfold dcGet at e1
        split at e1
        · rename_i i hq
          cases e1
          exact hq.symm
        · cases e1
      obtain rfl : v = Value.ref p := rx
      exact tail_any (dict_typeIs I g) slot_dict_getitem.lookup (d_getItem hu I g ry fun w' s' I' rw' => ⟨_, H, I', rw', k.here S (.int _)⟩) hs
    · refine ix_kdict value slice pins s σ H _ _ v u Q I rx ry ⟨p, z, .int c, rfl, rfl, ?_, k.here S (.int _)⟩ hs
      rw [hK, hw]
      exact h1 z c e1
  · cases e
def AtS (G : Gl) : V → Option Int → Option Int → Hp → VK → Prop := fun x lo hi H Q => ∃ α M Z a z, SR G α M Z H ∧ Rv G Z H a x ∧ dsl a lo hi = .ok z ∧ KD G α M Z H z Q
theorem sl_R {X : Cx} {G : Gl} (hK : X.K = G.K) : SlR X (AtS G) := by
  intro pins s σ H x v vl vu lo hi sl Q I rx hs pl pu h
  obtain ⟨α, M, Z, a, z, S, ra, e, k⟩ := h
  unfold dsl at e
  split at e
  · rename_i ds
    cases e
    obtain ⟨p, vs, rfl, h1, r1⟩ := ra.lst S
    exact sl_list pins s σ H _ v vl vu lo hi sl Q I rx hs pl pu ⟨p, vs, rfl, SqL.of h1, fun q hq => k.new S hq (fun ps z => by cases z) (.lst upd_same ((cut_rel r1).mono (same_upd (S.zfree hq))))⟩
  · rename_i ds
    cases e
    obtain ⟨p, vs, rfl, h1, r1⟩ := ra.tup S
    refine sl_tupA pins s σ H _ v vl vu lo hi sl Q I rx hs pl pu ⟨p, vs, rfl, by rw [hK]; exact sqT_sub S h1, fun q => ?_, fun _ q hq => k.new S hq (fun ps z => by cases z) (.tup (SqT.of upd_same) ((cut_rel r1).mono (same_upd (S.zfree hq))))⟩
    have e2 : cutD ds lo hi = ds := by
      unfold cutD
      rw [r1.length, q.1, q.2, List.drop_zero, Nat.sub_zero, ← r1.length, List.take_length]
    refine k.here S ?_
    rw [e2]
    exact .tup h1 r1
  · rename_i st
    have hx := ra.str
    subst hx
    obtain ⟨b, e⟩ := stuckIf_ok e
    cases e
    exact sl_str pins s σ H _ v vl vu lo hi sl Q I rx hs pl pu ⟨st, rfl, of_decide_eq_true b, k.here S (.str _)⟩
  · cases e
/-! ### built-ins -/
inductive RvL (G : Gl) (Z H : Hp) : List D → List V → Prop
  | nil : RvL G Z H [] []
  | cons {d : D} {v : V} {ds : List D} {vs : List V} : Rv G Z H d v → RvL G Z H ds vs → RvL G Z H (d :: ds) (v :: vs)
def AtN (G : Gl) (op : List D → R D) : List V → Hp → VK → Prop := fun xs H Q => ∃ α M Z ds z, SR G α M Z H ∧ RvL G Z H ds xs ∧ op ds = .ok z ∧ KD G α M Z H z Q
def bval : Bi → Value
  | .len => .builtin "len" | .int => .type "int" | .abs => .builtin "abs" | .max => .builtin "max" | .min => .builtin "min" | .sum => .builtin "sum"
  | .tuple => .type "tuple" | .str => .type "str" | .bool => .type "bool"
theorem bi_R {X : Cx} {G : Gl} (hK : X.K = G.K) (hc : X.calm = true) (b : Bi) : CallR X (bval b) (AtN G (dbi b)) := by
  intro pins s σ H xs us Q I rx h
  obtain ⟨α, M, Z, ds, z, S, ra, e, k⟩ := h
  unfold dbi at e
  split at e
  · rename_i ds
    cases e
    cases ra with
    | cons ra r0 =>
      cases r0
      obtain ⟨p, vs, rfl, h1, r1⟩ := ra.lst S
      exact call_len pins s σ H _ us Q I rx ⟨_, ds.length, rfl, .inl ⟨vs, SqL.of h1, r1.length⟩, k.here S (.int _)⟩
  · rename_i ds
    cases e
    cases ra with
    | cons ra r0 =>
      cases r0
      obtain ⟨p, vs, rfl, h1, r1⟩ := ra.tup S
      exact call_len pins s σ H _ us Q I rx ⟨_, ds.length, rfl, .inr ⟨vs, by rw [hK]; exact sqT_sub S h1, r1.length⟩, k.here S (.int _)⟩
  · rename_i ns
    cases e
    cases ra with
    | cons ra r0 =>
      cases r0
      obtain ⟨p, rfl, h1⟩ := ra.scr S
      exact call_len pins s σ H _ us Q I rx ⟨_, ns.length, rfl, .inl ⟨_, by rw [hK]; exact h1, by rw [List.length_map]⟩, k.here S (.int _)⟩
  · rename_i st
    cases ra with
    | cons ra r0 =>
      cases r0
      have hx := ra.str
      subst hx
      obtain ⟨bb, e⟩ := stuckIf_ok e
      cases e
      exact call_len pins s σ H _ us Q I rx ⟨_, st.length, rfl, ⟨of_decide_eq_true bb, rfl⟩, k.here S (.int _)⟩
  · rename_i i
    cases e
    cases ra with
    | cons ra r0 =>
      cases r0
      have hx := ra.int
      subst hx
      exact call_int1 pins s σ H _ us Q I rx (.inl ⟨i, rfl, k.here S (.int _)⟩)
  · rename_i i
    cases e
    cases ra with
    | cons ra r0 =>
      cases r0
      have hx := ra.bl
      subst hx
      exact call_int1 pins s σ H _ us Q I rx (.inr ⟨i, rfl, k.here S (.int _)⟩)
  · rename_i st
    cases ra with
    | cons ra r0 =>
      cases r0
      have hx := ra.str
      subst hx
      obtain ⟨bb, e⟩ := stuckIf_ok e
      have e := optR_ok e
      simp only [Option.map_eq_some_iff] at e
      obtain ⟨n, e1, e2⟩ := e
      subst e2
      exact call_int_str pins s σ H _ us Q I rx ⟨st, n, rfl, e1, of_decide_eq_true bb, k.here S (.int _)⟩
  · rename_i i
    cases e
    cases ra with
    | cons ra r0 =>
      cases r0
      have hx := ra.int
      subst hx
      exact call_abs pins s σ H _ us Q I rx ⟨i, rfl, k.here S (.int _)⟩
  · rename_i i j
    cases e
    cases ra with
    | cons ra r0 =>
      cases r0 with
      | cons rb r0 =>
        cases r0
        have hx := ra.int
        have hy := rb.int
        subst hx hy
        exact call_max2 hc pins s σ H _ us Q I rx ⟨i, j, rfl, k.here S (.int _)⟩
  · rename_i i j
    cases e
    cases ra with
    | cons ra r0 =>
      cases r0 with
      | cons rb r0 =>
        cases r0
        have hx := ra.int
        have hy := rb.int
        subst hx hy
        exact call_min2 hc pins s σ H _ us Q I rx ⟨i, j, rfl, k.here S (.int _)⟩
  · rename_i ds
    cases ra with
    | cons ra r0 =>
      cases r0
      obtain ⟨p, vs, rfl, h1, r1⟩ := ra.lst S
      have e := optR_ok e
      simp only [Option.map_eq_some_iff] at e
      obtain ⟨n, e1, e2⟩ := e
      subst e2
      have ev := ints_rel r1 e1
      subst ev
      exact cr_sum hc pins s σ H _ us Q I rx ⟨p, n, rfl, SqL.of h1, k.here S (.int _)⟩
  · rename_i ds
    cases ra with
    | cons ra r0 =>
      cases r0
      obtain ⟨p, vs, rfl, h1, r1⟩ := ra.tup S
      have e := optR_ok e
      simp only [Option.map_eq_some_iff] at e
      obtain ⟨n, e1, e2⟩ := e
      subst e2
      have ev := ints_rel r1 e1
      subst ev
      exact cr_sumT hc pins s σ H _ us Q I rx ⟨p, n, rfl, by rw [hK]; exact sqT_sub S h1, k.here S (.int _)⟩
  · rename_i ds
    cases e
    cases ra with
    | cons ra r0 =>
      cases r0
      obtain ⟨p, vs, rfl, h1, r1⟩ := ra.lst S
      exact call_tuple_of pins s σ H _ us Q I rx ⟨p, vs, rfl, .inl ⟨SqL.of h1, fun q hq => k.new S hq (fun ps z => by cases z) (.tup (SqT.of upd_same) (r1.mono (same_upd (S.zfree hq))))⟩⟩
  · rename_i ds
    cases e
    cases ra with
    | cons ra r0 =>
      cases r0
      obtain ⟨p, vs, rfl, h1, r1⟩ := ra.tup S
      exact call_tuple_of pins s σ H _ us Q I rx ⟨p, vs, rfl, .inr ⟨by rw [hK]; exact sqT_sub S h1, k.here S (.tup h1 r1)⟩⟩
  · rename_i i
    cases ra with
    | cons ra r0 =>
      cases r0
      have hx := ra.int
      subst hx
      obtain ⟨bb, e⟩ := stuckIf_ok e
      cases e
      exact call_str_int pins s σ H _ us Q I rx ⟨i, rfl, of_decide_eq_true bb, k.here S (.str _)⟩
  · rename_i i
    cases e
    cases ra with
    | cons ra r0 =>
      cases r0
      have hx := ra.bl
      subst hx
      obtain ⟨u, rfl, t⟩ := vals1 rx
      cases t
      exact PySem.P.str_of_bool ⟨.str _, H, I.tok _, ⟨_, by cases i <;> rfl⟩, k.here S (.str _)⟩
  · rename_i i
    cases e
    cases ra with
    | cons ra r0 =>
      cases r0
      have hx := ra.bl
      subst hx
      exact call_bool1 pins s σ H _ us Q I rx (.inr ⟨i, rfl, k.here S (.bl _)⟩)
  · rename_i i
    cases e
    cases ra with
    | cons ra r0 =>
      cases r0
      have hx := ra.int
      subst hx
      exact call_bool1 pins s σ H _ us Q I rx (.inl ⟨i, rfl, k.here S (.bl _)⟩)
  · cases e
def tval : Ty → String
  | .int => "int" | .bool => "bool" | .str => "str" | .tuple => "tuple"
theorem sqT_ty {K : PySem.W.Frag} {H : Hp} {a : Addr} {xs : List V} (h : SqT K H a xs) : TyX K H (.ref a) (.type "tuple") := by
  rcases h with (h | ⟨o, h⟩) | ⟨o, its, n, h1, h2, _⟩
  · exact .base (.tup h)
  · exact .fTuple h
  · exact .kTuple h1 h2
theorem isi_R {X : Cx} {G : Gl} (hK : X.K = G.K) {x : D} {t : Ty} {z : D} {α : List Addr} {M : Ms} {Z H : Hp} {v : V} {Q : VK} (S : SR G α M Z H) (r : Rv G Z H x v) (e : disi x t = .ok z) (k : KD G α M Z H z Q) : rIsi X.K [v, .ty (tval t)] H Q := by
  have go : ∀ (a : String) (b : Bool), TyX X.K H v (.type a) → kitB a (tval t) = some b → z = .bl b → rIsi X.K [v, .ty (tval t)] H Q := fun a b h1 h2 h3 =>
    ⟨v, _, _, _, b, rfl, .ty _, h1, kit_ty h2, by subst h3; exact k.here S (.bl b)⟩
  cases x with
  | non =>
    have hx := r.non
    subst hx
    cases t <;> (cases e; exact go "NoneType" false (.base .non) (by decide +kernel) rfl)
  | bl b =>
    have hx := r.bl
    subst hx
    cases t <;> (cases e; first | exact go "bool" true (.base (.bl b)) (by decide +kernel) rfl | exact go "bool" false (.base (.bl b)) (by decide +kernel) rfl)
  | int b =>
    have hx := r.int
    subst hx
    cases t <;> (cases e; first | exact go "int" true (.base (.int b)) (by decide +kernel) rfl | exact go "int" false (.base (.int b)) (by decide +kernel) rfl)
  | str b =>
    have hx := r.str
    subst hx
    cases t <;> (cases e; first | exact go "str" true (.base (.str b)) (by decide +kernel) rfl | exact go "str" false (.base (.str b)) (by decide +kernel) rfl)
  | tup ds =>
    obtain ⟨p, vs, rfl, h1, r1⟩ := r.tup S
    have ty : TyX X.K H (.ref p) (.type "tuple") := by rw [hK]; exact sqT_ty (sqT_sub S h1)
    cases t <;> (cases e; first | exact go "tuple" true ty (by decide +kernel) rfl | exact go "tuple" false ty (by decide +kernel) rfl)
  | lst ds =>
    obtain ⟨p, vs, rfl, h1, r1⟩ := r.lst S
    have ty : TyX X.K H (.ref p) (.type "list") := .base (.lst h1)
    cases t <;> (cases e; first | exact go "list" true ty (by decide +kernel) rfl | exact go "list" false ty (by decide +kernel) rfl)
  | fn i => cases t <;> cases e
  | scr ns => cases t <;> cases e
  | dc ns => cases t <;> cases e
end PyD

set_option Elab.async false
set_option linter.all false
set_option maxRecDepth 100000
set_option maxHeartbeats 4000000
/-! PyD5: enumerate and zip over lists, tuples, texts, in any mix; what is walked, as data. -/
namespace PyD
open PySem PySem.Spec PyProof.Rows L2
/-- what an iterator draws from -/
inductive Src where
  | l (a : Addr) | t (a : Addr) | s (z : Str) (tk : Tok)
def Src.itP : Src → Addr → Nat → Heap → Prop
  | .l a, it, i, h => h.IsListIter it a i
  | .t a, it, i, h => h.IsTupleIter it a i
  | .s z tk, it, i, h => h.IsStrIter it (strIterType z) z tk i
def Src.body : Src → Array Value → Heap → Prop
  | .l a, its, h => h.IsList a its
  | .t a, its, h => h.IsTuple a its
  | .s _ _, _, _ => True
def Src.P : Src → Array Value → Nat → Value → Prop
  | .l _, its, i, v => its[i]? = some v
  | .t _, its, i, v => its[i]? = some v
  | .s z _, _, i, v => ∃ c u, z.cps[i]? = some c ∧ v = .str ⟨#[c]⟩ u
def Src.n : Src → Array Value → Nat
  | .l _, its => its.size
  | .t _, its => its.size
  | .s z _, _ => z.cps.size
def Src.fp : Src → Addr → List Addr
  | .l a, it => [it, a]
  | .t a, it => [it, a]
  | .s _ _, it => [it]
def Src.ad : Src → List Addr
  | .l a => [a]
  | .t a => [a]
  | .s _ _ => []
theorem Src.fp_eq (x : Src) (it : Addr) : x.fp it = it :: x.ad := by cases x <;> rfl
theorem Src.draws {prog : Program} {w : World} {A : Around} (hh : A.handled = none) (x : Src) (it : Addr) (hne : ∀ a ∈ x.ad, a ≠ it) (its : Array Value) :
    Draws prog w A it (x.fp it) (x.n its) (x.P its) (fun i h => x.itP it i h ∧ x.body its h) := by
  cases x with
  | l a => exact Draws.list hh it a (hne a (List.mem_singleton.mpr rfl)) its
  | t a => exact Draws.tuple hh it a (hne a (List.mem_singleton.mpr rfl)) its
  | s z tk =>
    have D := Draws.text (prog := prog) (w := w) hh it z tk
    exact ⟨fun i h st => D.live i h st.1, fun i h h' st k => ⟨D.frame i h h' st.1 k, trivial⟩, fun i s Q E hi st hQ => D.item i s Q E hi st.1 fun x h' tk hp st' sb => hQ x h' tk hp ⟨st', trivial⟩ sb, fun s Q E st hE => D.done s Q E st.1 hE⟩
/-- the items that a source bears -/
def Src.at_ (K : PySem.W.Frag) (H : Hp) : Src → List V → Prop
  | .l a, xs => SqL K H a xs
  | .t a, xs => SqT K H a xs
  | .s z _, xs => xs = z.cps.toList.map fun c => V.str ⟨#[c]⟩
section
variable {X : Cx} {pins : List (Addr × Obj)} {σ : L2.St} {H : Hp} {s : Shared}
theorem Src.inj (I : Inv X pins σ H s) {x : Src} {xs ys : List V} (h : x.at_ X.K H xs) (h' : x.at_ X.K H ys) : xs = ys := by
  cases x with
  | l a => exact I.list_inj h h'
  | t a => exact I.tuple_inj h h'
  | s z tk => exact h.trans h'.symm
theorem Src.get (I : Inv X pins σ H s) {x : Src} {xs : List V} (h : x.at_ X.K H xs) : ∃ its : Array Value, x.body its s.heap ∧ x.n its = xs.length ∧ ∀ i v u, xs[i]? = some v → x.P its i u → RelV v u := by
  cases x with
  | l a =>
    obtain ⟨its, r, p, _⟩ := I.list h
    refine ⟨its.toArray, p.isList, by show its.toArray.size = _; rw [List.size_toArray, r.length], fun i v u e q => ?_⟩
    obtain ⟨u', h1, h2⟩ := r.get e
    have q : its.toArray[i]? = some u := q
    rw [List.getElem?_toArray, h1] at q
    cases q
    exact h2
  | t a =>
    obtain ⟨its, r, p, _⟩ := I.tuple h
    refine ⟨its.toArray, (show s.heap.IsTuple a its.toArray from p), by show its.toArray.size = _; rw [List.size_toArray, r.length], fun i v u e q => ?_⟩
    obtain ⟨u', h1, h2⟩ := r.get e
    have q : its.toArray[i]? = some u := q
    rw [List.getElem?_toArray, h1] at q
    cases q
    exact h2
  | s z tk =>
    have h : xs = z.cps.toList.map fun c => V.str ⟨#[c]⟩ := h
    subst h
    refine ⟨#[], trivial, by show z.cps.size = _; simp, fun i v u e q => ?_⟩
    obtain ⟨c, t, hc, rfl⟩ := q
    rw [List.getElem?_map, Array.getElem?_toList, hc] at e
    cases e
    exact ⟨t, rfl⟩
theorem Src.lt (I : Inv X pins σ H s) {x : Src} {xs : List V} (h : x.at_ X.K H xs) : ∀ a ∈ x.ad, a < s.heap.objs.size := by
  intro a ha
  cases x with
  | l b =>
    obtain ⟨its, r, p, _⟩ := I.list h
    rw [List.mem_singleton.mp ha]
    exact p.lt
  | t b =>
    obtain ⟨its, r, p, _⟩ := I.tuple h
    rw [List.mem_singleton.mp ha]
    exact p.lt
  | s z tk => cases ha
theorem Src.keep {x : Src} {it : Addr} {i : Nat} {h h' : Heap} (st : x.itP it i h) (k : ∀ o, h.get? it = some o → h'.get? it = some o) : x.itP it i h' := by
  cases x with
  | l a => exact Heap.IsListIter.at st k
  | t a => exact Heap.IsTupleIter.at st k
  | s z tk => obtain ⟨o, e, r⟩ := st; exact ⟨o, k o e, r⟩
theorem Src.obj {x : Src} {it : Addr} {i : Nat} {h : Heap} (st : x.itP it i h) : ∃ o, h.get? it = some o ∧ ∀ v, o.data ≠ .cell v := by
  cases x with
  | l a => obtain ⟨o, e, _, d⟩ := st; exact ⟨o, e, fun v z => by rw [d] at z; cases z⟩
  | t a => obtain ⟨o, e, _, d⟩ := st; exact ⟨o, e, fun v z => by rw [d] at z; cases z⟩
  | s z tk => obtain ⟨o, e, _, d⟩ := st; exact ⟨o, e, fun v z => by rw [d] at z; cases z⟩
end
theorem Src.apart {X : Cx} {pins : List (Addr × Obj)} {σ : L2.St} {H : Hp} {s : Shared} (I : Inv X pins σ H s) {x : Src} {xs : List V} (h : x.at_ X.K H xs) {b : Addr} (hb : FpOk X pins H b) (nb : X.base.get? b = none) : ∀ a ∈ x.ad, a ≠ b := by
  intro a ha e
  subst e
  have go : H a ≠ none ∨ ∃ o, X.K.lookup a = some o := by
    cases x with
    | l c =>
      rw [List.mem_singleton.mp ha]
      rcases h with (h | ⟨o, h⟩) | ⟨o, _, _, h, _⟩
      · exact .inl (by rw [h]; simp)
      · exact .inl (by rw [h]; simp)
      · exact .inr ⟨o, h⟩
    | t c =>
      rw [List.mem_singleton.mp ha]
      rcases h with (h | ⟨o, h⟩) | ⟨o, _, _, h, _⟩
      · exact .inl (by rw [h]; simp)
      · exact .inl (by rw [h]; simp)
      · exact .inr ⟨o, h⟩
    | s z tk => cases ha
  rcases go with q | ⟨o, q⟩
  · exact q hb.1
  · rw [I.ok.mod.kin a o q] at nb; cases nb
/-- the iterator's own objects are no part of the base -/
theorem fp_base {X : Cx} {pins : List (Addr × Obj)} {σ : L2.St} {H : Hp} {s : Shared} (I : Inv X pins σ H s) {b : Addr} (hb : FpOk X pins H b) : X.base.get? b = none := by
  cases e : X.base.get? b with
  | none => rfl
  | some o =>
    exfalso
    rcases hb.2.2.2.1 with q | q
    · exact I.ok.noex b o e q
    · exact Nat.lt_irrefl _ (Nat.lt_of_lt_of_le (Heap.lt_size (I.ok.bs b o e).1) q)
/-- enumerate -/
def ItE (K : PySem.W.Frag) (x : Src) : L2.It :=
  ⟨fun i H => ∃ (xs : List V) (y : V), x.at_ K H xs ∧ xs[i]? = some y, fun i H v H' => ∃ T y, v = .ref T ∧ H T = Option.none ∧ H' = upd H T (.tup [.int (i : Nat), y]) ∧ ∀ xs, x.at_ K H xs → xs[i]? = some y, fun i H => ∃ xs : List V, x.at_ K H xs ∧ xs.length = i⟩
theorem turn_enumS {P : Program} {w : World} {K : PySem.W.Frag} {elts : List Expr} {kk : Nat} {tpos : Pos} (x : Src) (e it : Addr) :
    Turn P w K (.Tuple elts kk tpos) (ItE K x) [e, it] e (fun i h => (∃ old, IsEnum h e it (0 + ((i : Nat) : Int)) old) ∧ x.itP it i h ∧ e ≠ it) where
  mem := by simp
  obj := fun i h st b hb => by
    obtain ⟨⟨old, he⟩, hi, _⟩ := st
    have e' : b = e ∨ b = it := by simpa using hb
    rcases e' with z | z
    · rw [z]; exact ⟨_, he, fun v q => nomatch q⟩
    · rw [z]; exact Src.obj hi
  keep := fun i h h' st k => by
    obtain ⟨⟨old, he⟩, hi, hne⟩ := st
    exact ⟨⟨old, k e (by simp) _ he⟩, Src.keep hi fun o q => k it (by simp) o q, hne⟩
  item := by
    intro X hP hw hK hc i pins s σ H E I hf st hg
    subst hP hw hK
    obtain ⟨⟨old, he⟩, hit, hne⟩ := st
    obtain ⟨xs, y, hq, hx⟩ := hg
    obtain ⟨its, hb, hn, hr⟩ := Src.get I hq
    have hi : i < x.n its := by rw [hn]; exact (List.getElem?_eq_some_iff.mp hx).1
    have nI : ∀ a ∈ x.ad, a ≠ it := Src.apart I hq (hf it (by simp)) (fp_base I (hf it (by simp)))
    have nE : ∀ a ∈ x.ad, a ≠ e := Src.apart I hq (hf e (by simp)) (fp_base I (hf e (by simp)))
    have D := Src.draws (prog := X.prog) (w := X.w) (A := X.A.in1) (I.ok.hd hc) x it nI its
    have hef : e ∉ x.fp it := by
      rw [Src.fp_eq]
      intro z
      rcases List.mem_cons.mp z with z | z
      · exact hne z
      · exact nE e z rfl
    have WT := WalksT.enumFrom 0 D e hne hef (by rw [Src.fp_eq]; exact List.mem_cons_self)
    refine WT.item i s _ _ hi ⟨⟨old, he⟩, hit, hb⟩ fun T vals h' tk hP hT htup hm hk => ?_
    refine ⟨.ref T, rfl, WT.go elts kk tpos i T { s with heap := h', toks := tk } _ _ hm fun h2 st2 hk2 => ?_⟩
    obtain ⟨t, u, hu, rfl⟩ := hP
    have ru := hr i y u hx hu
    have Tne : T ∉ [e, it] := WT.apart i T h' hm
    have hT2 : h2.IsTuple T #[.int (0 + (i : Int)) t, u] := htup.at fun o q => hk2 T o Tne q
    have new : ObjOk X.prog X.w (upd H T (.tup [.int (i : Nat), y])) h2 T (.tup [.int (i : Nat), y]) :=
      ⟨by show 2 ≤ sizeLine; decide, [.int (0 + (i : Int)) t, u], .cons ⟨t, by rw [Int.zero_add]⟩ (.cons ru .nil), hT2⟩
    have I1 : Inv X pins σ (upd H T (.tup [.int (i : Nat), y])) { s with heap := h2, toks := tk } :=
      I.turnedNew (ch := [e, it]) (fun b ob nb q => hk2 b ob nb (hk b ob nb q)) hf hT new
    refine ⟨.ref T, _, I1, rfl, ⟨T, y, rfl, I.hok.fresh hT, rfl, fun ys hy => by rw [Src.inj I hy hq]; exact hx⟩, ⟨st2.1, st2.2.1, hne⟩, fun b hb2 => ?_⟩
    rw [upd_ne (fun z => Tne (by rw [← z]; exact hb2))]
    exact (hf b hb2).1
  done := by
    intro X hP hw hK hc i pins s σ H E I hf st hg
    subst hP hw hK
    obtain ⟨⟨old, he⟩, hit, hne⟩ := st
    obtain ⟨xs, hq, hx⟩ := hg
    obtain ⟨its, hb, hn, hr⟩ := Src.get I hq
    have nI : ∀ a ∈ x.ad, a ≠ it := Src.apart I hq (hf it (by simp)) (fp_base I (hf it (by simp)))
    have nE : ∀ a ∈ x.ad, a ≠ e := Src.apart I hq (hf e (by simp)) (fp_base I (hf e (by simp)))
    have D := Src.draws (prog := X.prog) (w := X.w) (A := X.A.in1) (I.ok.hd hc) x it nI its
    have hef : e ∉ x.fp it := by
      rw [Src.fp_eq]
      intro z
      rcases List.mem_cons.mp z with z | z
      · exact hne z
      · exact nE e z rfl
    have WT := WalksT.enumFrom 0 D e hne hef (by rw [Src.fp_eq]; exact List.mem_cons_self)
    have en : x.n its = i := by rw [hn, hx]
    refine WT.done s _ _ (by rw [en]; exact ⟨⟨old, he⟩, hit, hb⟩) fun h' tk hk => ⟨rfl, ?_⟩
    exact I.turnedL (ch := [e, it]) (fun b ob nb q => hk b ob nb q) hf
  self := fun A i s Q E st h => by
    obtain ⟨⟨_, he⟩, _⟩ := st
    exact wpAny_pyIter_enum he h
/-- zip -/
def ItZ (K : PySem.W.Frag) (x y : Src) : L2.It :=
  ⟨fun i H => ∃ (xs ys : List V) (a b : V), x.at_ K H xs ∧ y.at_ K H ys ∧ xs[i]? = some a ∧ ys[i]? = some b,
    fun i H v H' => ∃ T a b, v = .ref T ∧ H T = Option.none ∧ H' = upd H T (.tup [a, b]) ∧ (∀ xs, x.at_ K H xs → xs[i]? = some a) ∧ ∀ ys, y.at_ K H ys → ys[i]? = some b,
    fun i H => ∃ xs ys : List V, x.at_ K H xs ∧ y.at_ K H ys ∧ min xs.length ys.length = i⟩
theorem turn_zipS {P : Program} {w : World} {K : PySem.W.Frag} {elts : List Expr} {kk : Nat} {tpos : Pos} (x y : Src) (z TI TO i1 i2 : Addr) (ne : z ≠ TI ∧ z ≠ TO ∧ z ≠ i1 ∧ z ≠ i2 ∧ TI ≠ TO ∧ TI ≠ i1 ∧ TI ≠ i2 ∧ TO ≠ i1 ∧ TO ≠ i2 ∧ i1 ≠ i2) :
    Turn P w K (.Tuple elts kk tpos) (ItZ K x y) [z, TI, TO, i1, i2] z (fun i h => IsZip h z TI TO .none ∧ IsTupOf2 h TI (.ref i1) (.ref i2) ∧ (∃ a1 a2, IsTupOf2 h TO a1 a2) ∧ x.itP i1 i h ∧ y.itP i2 i h) := by
  have sep : ∀ (X : Cx) (pins : List (Addr × Obj)) (s : Shared) (σ : L2.St) (H : Hp), Inv X pins σ H s → (∀ b ∈ [z, TI, TO, i1, i2], FpOk X pins H b) → ∀ xs ys, x.at_ X.K H xs → y.at_ X.K H ys →
      ZipSep2 z TI TO i1 i2 (x.fp i1) (y.fp i2) ∧ (∀ a ∈ x.ad, a ≠ i1) ∧ (∀ a ∈ y.ad, a ≠ i2) := by
    intro X pins s σ H I hf xs ys hx hy
    have ax : ∀ b ∈ [z, TI, TO, i1, i2], ∀ a ∈ x.ad, a ≠ b := fun b hb => Src.apart I hx (hf b hb) (fp_base I (hf b hb))
    have ay : ∀ b ∈ [z, TI, TO, i1, i2], ∀ a ∈ y.ad, a ≠ b := fun b hb => Src.apart I hy (hf b hb) (fp_base I (hf b hb))
    obtain ⟨n1, n2, n3, n4, n5, n6, n7, n8, n9, n10⟩ := ne
    have out : ∀ (l : List Addr) (b it : Addr), b ≠ it → (∀ a ∈ l, a ≠ b) → b ∉ it :: l := fun l b it h1 h2 q => by
      rcases List.mem_cons.mp q with q | q
      · exact h1 q
      · exact h2 b q rfl
    refine ⟨?_, ax i1 (by simp), ay i2 (by simp)⟩
    rw [Src.fp_eq, Src.fp_eq]
    exact ⟨n1.symm, n2.symm, n5, n6, List.mem_cons_self, out _ _ _ n3 (ax z (by simp)), out _ _ _ n8 (ax TO (by simp)), n7, List.mem_cons_self, out _ _ _ n4 (ay z (by simp)), out _ _ _ n9 (ay TO (by simp)),
      out _ _ _ n10 (ay i1 (by simp)), out _ _ _ n10.symm (ax i2 (by simp))⟩
  refine { mem := by simp, obj := fun i h st b hb => ?_, keep := fun i h h' st k => ?_, item := ?_, done := ?_, self := fun A i s Q E st h => wpAny_pyIter_zip st.1 h }
  · obtain ⟨hz, hTI, ⟨a1, a2, hTO⟩, h1, h2⟩ := st
    have e' : b = z ∨ b = TI ∨ b = TO ∨ b = i1 ∨ b = i2 := by simpa using hb
    rcases e' with q | q | q | q | q
    · rw [q]; exact ⟨_, hz, fun v q => nomatch q⟩
    · rw [q]
      exact ⟨_, hTI, fun v q => nomatch q⟩
    · rw [q]
      exact ⟨_, hTO, fun v q => nomatch q⟩
    · rw [q]; exact Src.obj h1
    · rw [q]; exact Src.obj h2
  · obtain ⟨hz, hTI, ⟨a1, a2, hTO⟩, h1, h2⟩ := st
    exact ⟨k z (by simp) _ hz, k TI (by simp) _ hTI, ⟨a1, a2, k TO (by simp) _ hTO⟩, Src.keep h1 fun o q => k i1 (by simp) o q, Src.keep h2 fun o q => k i2 (by simp) o q⟩
  · intro X hP hw hK hc i pins s σ H E I hf st hg
    subst hP hw hK
    obtain ⟨xs, ys, a, b, hqx, hqy, hx, hy⟩ := hg
    obtain ⟨S2, nx, ny⟩ := sep X pins s σ H I hf xs ys hqx hqy
    obtain ⟨its, hb, hn, hr⟩ := Src.get I hqx
    obtain ⟨its2, hb2, hn2, hr2⟩ := Src.get I hqy
    obtain ⟨hz, hTI, hTO, h1, h2⟩ := st
    have D1 := Src.draws (prog := X.prog) (w := X.w) (A := X.A.in1) (I.ok.hd hc) x i1 nx its
    have D2 := Src.draws (prog := X.prog) (w := X.w) (A := X.A.in1) (I.ok.hd hc) y i2 ny its2
    have WT := WalksT.zipD2 S2 D1 D2
    have hi : i < min (x.n its) (y.n its2) := by
      rw [hn, hn2]
      have q1 := (List.getElem?_eq_some_iff.mp hx).1
      have q2 := (List.getElem?_eq_some_iff.mp hy).1
      omega
    refine WT.item i s _ _ hi ⟨hz, hTI, hTO, ⟨h1, hb⟩, ⟨h2, hb2⟩⟩ fun T vals h' tk hP hT htup hm hk => ?_
    refine ⟨.ref T, rfl, WT.go elts kk tpos i T { s with heap := h', toks := tk } _ _ hm fun h3 st2 hk2 => ?_⟩
    obtain ⟨u1, u2, hu1, hu2, rfl⟩ := hP
    have ru1 := hr i a u1 hx hu1
    have ru2 := hr2 i b u2 hy hu2
    have Tne : T ∉ [z, TO, i1, i2] := WT.apart i T h' hm
    have hT2 : h3.IsTuple T #[u1, u2] := htup.at fun o q => hk2 T o Tne q
    have sub : ∀ c, c ∈ [z, TO, i1, i2] → c ∈ [z, TI, TO, i1, i2] := fun c hc => by
      have e' : c = z ∨ c = TO ∨ c = i1 ∨ c = i2 := by simpa using hc
      rcases e' with q | q | q | q <;> (rw [q]; simp)
    have new : ObjOk X.prog X.w (upd H T (.tup [a, b])) h3 T (.tup [a, b]) := ⟨by show 2 ≤ sizeLine; decide, [u1, u2], .cons ru1 (.cons ru2 .nil), hT2⟩
    have I1 : Inv X pins σ (upd H T (.tup [a, b])) { s with heap := h3, toks := tk } :=
      I.turnedNew (ch := [z, TO, i1, i2]) (fun c ob nb q => hk2 c ob nb (hk c ob nb q)) (fun c hc => hf c (sub c hc)) hT new
    refine ⟨.ref T, _, I1, rfl, ⟨T, a, b, rfl, I.hok.fresh hT, rfl, fun l hl => by rw [Src.inj I hl hqx]; exact hx, fun l hl => by rw [Src.inj I hl hqy]; exact hy⟩, ⟨st2.1, st2.2.1, st2.2.2.1, st2.2.2.2.1.1, st2.2.2.2.2.1⟩, fun c hcm => ?_⟩
    have lt : c < s.heap.objs.size := by
      have q := hf c hcm
      have e' : c = z ∨ c = TI ∨ c = TO ∨ c = i1 ∨ c = i2 := by simpa using hcm
      rcases e' with q | q | q | q | q
      · rw [q]; exact Heap.lt_size hz
      · rw [q]; exact Heap.lt_size hTI
      · rw [q]; obtain ⟨_, _, hTO⟩ := hTO; exact Heap.lt_size hTO
      · rw [q]; obtain ⟨o, ho, _⟩ := Src.obj h1; exact Heap.lt_size ho
      · rw [q]; obtain ⟨o, ho, _⟩ := Src.obj h2; exact Heap.lt_size ho
    rw [upd_ne (Nat.ne_of_lt (Nat.lt_of_lt_of_le lt hT))]
    exact (hf c hcm).1
  · intro X hP hw hK hc i pins s σ H E I hf st hg
    subst hP hw hK
    obtain ⟨xs, ys, hqx, hqy, he⟩ := hg
    obtain ⟨S2, nx, ny⟩ := sep X pins s σ H I hf xs ys hqx hqy
    obtain ⟨its, hb, hn, hr⟩ := Src.get I hqx
    obtain ⟨its2, hb2, hn2, hr2⟩ := Src.get I hqy
    obtain ⟨hz, hTI, hTO, h1, h2⟩ := st
    have D1 := Src.draws (prog := X.prog) (w := X.w) (A := X.A.in1) (I.ok.hd hc) x i1 nx its
    have D2 := Src.draws (prog := X.prog) (w := X.w) (A := X.A.in1) (I.ok.hd hc) y i2 ny its2
    have WT := WalksT.zipD2 S2 D1 D2
    have en : min (x.n its) (y.n its2) = i := by rw [hn, hn2]; exact he
    have sub : ∀ c, c ∈ [z, TO, i1, i2] → c ∈ [z, TI, TO, i1, i2] := fun c hc => by
      have e' : c = z ∨ c = TO ∨ c = i1 ∨ c = i2 := by simpa using hc
      rcases e' with q | q | q | q <;> (rw [q]; simp)
    refine WT.done s _ _ (by rw [en]; exact ⟨hz, hTI, hTO, ⟨h1, hb⟩, ⟨h2, hb2⟩⟩) fun h' tk hk => ⟨rfl, ?_⟩
    exact I.turnedL (ch := [z, TO, i1, i2]) (fun c ob nb q => hk c ob nb q) fun c hc => hf c (sub c hc)
end PyD

set_option Elab.async false
set_option linter.all false
set_option maxRecDepth 100000
set_option maxHeartbeats 4000000
/-! PyD6: expressions of the text against the small language: readings by what an evaluation comes to. -/
namespace L2
open PySem PySem.Spec PyProof.Rows
theorem PE.imp {X : Cx} {e : Expr} {t t' : TE} (h : PE X e t) (f : ∀ σ H Q, t' σ H Q → t σ H Q) : PE X e t' := ⟨fun pins s σ H Q I q => h.run pins s σ H Q I (f σ H Q q)⟩
theorem PT.imp {X : Cx} {e : Expr} {t t' : TT} (h : PT X e t) (f : ∀ σ H Q, t' σ H Q → t σ H Q) : PT X e t' := ⟨fun pins s σ H Q I q => h.run pins s σ H Q I (f σ H Q q)⟩
theorem PW.imp {X : Cx} {e : Expr} {t t' : TT} (h : PW X e t) (f : ∀ σ H Q, t' σ H Q → t σ H Q) : PW X e t' := ⟨fun wh pins s σ H Q I q => h.run wh pins s σ H Q I (f σ H Q q)⟩
theorem PA.imp {X : Cx} {e : List Expr} {t t' : TA} (h : PA X e t) (f : ∀ σ H Q, t' σ H Q → t σ H Q) : PA X e t' := ⟨fun p pins s σ H Q I q => h.run p pins s σ H Q I (f σ H Q q)⟩
theorem PO.imp {X : Cx} {e : Option Expr} {t t' : TO} (h : PO X e t) (f : ∀ σ H Q, t' σ H Q → t σ H Q) : PO X e t' := ⟨fun pins s σ H Q I q => h.run pins s σ H Q I (f σ H Q q)⟩
theorem PS.imp {X : Cx} {e : Stmt} {t t' : TS} (h : PS X e t) (f : ∀ D σ H, t' D σ H → t D σ H) : PS X e t' := ⟨fun pins s σ H D I q => h.run pins s σ H D I (f D σ H q)⟩
theorem PSs.imp {X : Cx} {e : List Stmt} {t t' : TS} (h : PSs X e t) (f : ∀ D σ H, t' D σ H → t D σ H) : PSs X e t' := ⟨fun pins s σ H D I q => h.run pins s σ H D I (f D σ H q)⟩
theorem PI.imp {X : Cx} {tg e : Expr} {t t' : TI} (h : PI X tg e t) (f : ∀ σ H R, t' σ H R → t σ H R) : PI X tg e t' := ⟨fun pins s σ H R I q => h.run pins s σ H R I (f σ H R q)⟩

end L2
namespace PyD
open PySem PySem.Spec PyProof.Rows L2
theorem ob {α β : Type} {o : Option α} {f : α → Option β} {b : β} (h : o.bind f = some b) : ∃ a, o = some a ∧ f a = some b := Option.bind_eq_some_iff.mp h
theorem om {α β : Type} {o : Option α} {f : α → β} {b : β} (h : o.map f = some b) : ∃ a, o = some a ∧ f a = b := Option.map_eq_some_iff.mp h
theorem oi {α : Type} {c : Bool} {a : Option α} {b : α} (h : (if c = true then a else none) = some b) : c = true ∧ a = some b := by
  cases c with
  | true => exact ⟨rfl, h⟩
  | false => cases h
theorem an {a b : Bool} (h : (a && b) = true) : a = true ∧ b = true := Bool.and_eq_true_iff.mp h
theorem seqe {x y : PySem.Str} (h : (x == y) = true) : x = y := beq_iff_eq.mp h
section
variable (G : Gl) (cl : Nat → List W → Ms → R (W × Ms)) (Ex : XK)
/-- an evaluation of an expression (ev: what it comes to, by names and cells), whose value is told by Rel -/
def tG {β γ : Type} (ev : Env → Ms → R (β × Ms)) (Rel : β → List Addr → Ms → Hp → Hp → γ → Prop) : L2.St → Hp → (γ → Hp → Prop) → Prop := fun σ H Q =>
  ∃ ρ α M Z, SR G α M Z H ∧ ER G α Z ρ σ ∧ Post G Ex α M Z H (ev ρ M) fun b α' M' Z' H' => ∀ v, Rel b α' M' Z' H' v → Q v H'
abbrev tE (e : E) : TE := tG G Ex (evE cl e) fun w α' _ Z' _ v => RpW G α' Z' w v
abbrev tEs (es : Es) : TA := tG G Ex (evWs cl es) fun ws α' _ Z' _ vs => RpWs G α' Z' ws vs
abbrev tDs (es : Es) : TA := tG G Ex (evDs cl es) fun ds _ _ Z' _ vs => Rps G Z' ds vs
abbrev tVs (es : Es) : TA := tG G Ex (evVs cl es) fun ds _ _ Z' H' vs => RvL G Z' H' ds vs
def evT (e : E) (ρ : Env) (M : Ms) : R (Bool × Ms) := (evE cl e ρ M).bind fun p => (view p.2 p.1).bind fun x => asB x fun i => .ok (i, p.2)
abbrev tT (e : E) : TT := tG G Ex (evT cl e) fun b _ _ _ _ c => c = b
abbrev tO (e : Eo) : TO := tG G Ex (evO cl e) fun b _ _ _ _ c => c = b
abbrev tC' (e : Eo) : TT := tG G Ex (evC cl e) fun b _ _ _ _ c => c = b
/-- a fresh list at v: neither data nor a cell -/
structure NewL (α : List Addr) (M : Ms) (Z H : Hp) (ds : List D) (p : Addr) (vs : List V) : Prop where
  hp : H p = some (.lst vs)
  nz : Z p = Option.none
  nl : ¬ Live α M p
  rel : Rps G Z ds vs
/-- a fresh list; it was not there at the start H0 -/
def tF (f : F) : TE := fun σ H Q => ∃ ρ α M Z, SR G α M Z H ∧ ER G α Z ρ σ ∧ Post G Ex α M Z H (evF cl f ρ M) fun ds α' M' Z' H' => ∀ p vs, Abs H p → NewL G α' M' Z' H' ds p vs → Q (.ref p) H'
end
section
variable {X : Cx} {G : Gl} {cl : Nat → List W → Ms → R (W × Ms)} {Ex : XK}
theorem Post.val {w : D} {α : List Addr} {M : Ms} {Z H : Hp} {Q : VK} (h : Post G Ex α M Z H (.ok (W.d w, M)) fun b α' M' Z' H' => ∀ v, RpW G α' Z' b v → Q v H') : KD G α M Z H w Q := fun Z' H' v x S r => h α Z' H' x S v r
/-- the shape of a proof about two parts -/
theorem two {α : List Addr} {M : Ms} {Z H : Hp} {ρ : Env} {σ : L2.St} {a b : E} {β : Type} {f : W → W × Ms → R (β × Ms)} {K : β → List Addr → Ms → Hp → Hp → Prop} {Q : V → V → Hp → Prop}
    (S : SR G α M Z H) (er : ER G α Z ρ σ) (P : Post G Ex α M Z H ((evE cl a ρ M).bind fun p => (evE cl b ρ p.2).bind (f p.1)) K)
    (h : ∀ w1 w2 α2 M2 Z2 H2 v1 v2, SR G α2 M2 Z2 H2 → Ext α M Z H α2 M2 Z2 H2 → RpW G α2 Z2 w1 v1 → RpW G α2 Z2 w2 v2 → Post G Ex α2 M2 Z2 H2 (f w1 (w2, M2)) K → Q v1 v2 H2) :
    tE G cl Ex a σ H fun x H1 => tE G cl Ex b σ H1 fun y H2 => Q x y H2 :=
  ⟨ρ, α, M, Z, S, er, P.bind.imp fun w1 α1 M1 Z1 H1 x1 S1 P1 v1 r1 => ⟨ρ, α1, M1, Z1, S1, er.mono x1.same x1.pre, P1.bind.imp fun w2 α2 M2 Z2 H2 x2 S2 P2 v2 r2 =>
    h w1 w2 α2 M2 Z2 H2 v1 v2 S2 (x1.trans x2) (r1.mono x2.same x2.pre) r2 P2⟩⟩
theorem one {α : List Addr} {M : Ms} {Z H : Hp} {ρ : Env} {σ : L2.St} {a : E} {β : Type} {f : W × Ms → R (β × Ms)} {K : β → List Addr → Ms → Hp → Hp → Prop} {Q : V → Hp → Prop}
    (S : SR G α M Z H) (er : ER G α Z ρ σ) (P : Post G Ex α M Z H ((evE cl a ρ M).bind f) K)
    (h : ∀ w1 α1 M1 Z1 H1 v1, SR G α1 M1 Z1 H1 → Ext α M Z H α1 M1 Z1 H1 → RpW G α1 Z1 w1 v1 → Post G Ex α1 M1 Z1 H1 (f (w1, M1)) K → Q v1 H1) :
    tE G cl Ex a σ H Q :=
  ⟨ρ, α, M, Z, S, er, P.bind.imp fun w1 α1 M1 Z1 H1 x1 S1 P1 v1 r1 => h w1 α1 M1 Z1 H1 v1 S1 x1 r1 P1⟩
/-! ### names and constants -/
theorem d_var {i : Nat} {x : Str} {pos : Pos} (h : PE X (.Name x pos) (tVar i)) : PE X (.Name x pos) (tE G cl Ex (.var i)) := h.imp fun σ H Q q => by
  obtain ⟨ρ, α, M, Z, S, er, P⟩ := q
  unfold evE at P
  cases e : ρ[i]? with
  | none => rw [e] at P; exact P.elim
  | some o =>
    cases o with
    | none => rw [e] at P; exact P.elim
    | some w =>
      rw [e] at P
      obtain ⟨v, h1, h2⟩ := er.at_ i w e
      exact ⟨v, h1, P.ok S v h2⟩
theorem d_con {e : Expr} {d : D} {v : V} (h : PE X e (tC v)) (r : ∀ Z, Rp G Z d v) : PE X e (tE G cl Ex (.con d)) := h.imp fun σ H Q q => by
  obtain ⟨ρ, α, M, Z, S, er, P⟩ := q
  unfold evE at P
  exact P.ok S v (r Z)
/-! ### two places -/
theorem d_op2 (hK : X.K = G.K) {o : B2} {a b : Expr} {ea eb : E} {pos : Pos} (ha : PE X a (tE G cl Ex ea)) (hb : PE X b (tE G cl Ex eb)) : PE X (.BinOp a (bop o) b pos) (tE G cl Ex (.op2 o ea eb)) :=
  (pe_op (op2_R hK o) ha hb).imp fun σ H Q q => by
    obtain ⟨ρ, α, M, Z, S, er, P⟩ := q
    unfold evE at P
    refine two (f := fun p1 q => (view q.2 p1).bind fun x => (view q.2 q.1).bind fun y => (dop2 o x y).bind fun z => .ok (W.d z, q.2)) S er P fun w1 w2 α2 M2 Z2 H2 v1 v2 S2 x2 r1 r2 P2 => ?_
    obtain ⟨x, e1, P2⟩ := Post.look view_exc P2
    obtain ⟨y, e2, P2⟩ := Post.look view_exc P2
    obtain ⟨z, e3, P2⟩ := Post.look dop2_exc P2
    exact ⟨α2, M2, Z2, x, y, z, S2, view_rel S2 r1 e1, view_rel S2 r2 e2, e3, P2.val⟩
theorem cmp_reads {o : Cp} {ea eb : E} {σ : L2.St} {H : Hp} {Q : VK} (q : tE G cl Ex (.cmp o ea eb) σ H Q) : tOp (At2 G (dcmp o)) (tE G cl Ex ea) (tE G cl Ex eb) σ H Q := by
  obtain ⟨ρ, α, M, Z, S, er, P⟩ := q
  unfold evE at P
  refine two (f := fun p1 q => (view q.2 p1).bind fun x => (view q.2 q.1).bind fun y => (dcmp o x y).bind fun z => .ok (W.d z, q.2)) S er P fun w1 w2 α2 M2 Z2 H2 v1 v2 S2 x2 r1 r2 P2 => ?_
  obtain ⟨x, e1, P2⟩ := Post.look view_exc P2
  obtain ⟨y, e2, P2⟩ := Post.look view_exc P2
  obtain ⟨z, e3, P2⟩ := Post.look dcmp_exc P2
  exact ⟨α2, M2, Z2, x, y, z, S2, view_rel S2 r1 e1, view_rel S2 r2 e2, e3, P2.val⟩
theorem d_cmp (hK : X.K = G.K) (hu : X.A.units + 65 < cLine) {o : Cp} {a b : Expr} {ea eb : E} {pos : Pos} (hm : behindInMarks (cop o) b = false) (ha : PE X a (tE G cl Ex ea)) (hb : PE X b (tE G cl Ex eb)) : PE X (.Compare a [cop o] [b] pos) (tE G cl Ex (.cmp o ea eb)) :=
  (pe_cmpR (cmp_R hK hu o) ha hb hm).imp fun σ H Q q => cmp_reads q
theorem d_ix (hK : X.K = G.K) (hw : X.w = G.w) (hu : X.A.units + 1 < cLine) {a b : Expr} {ea eb : E} {pos : Pos} (hs : L2.PlainIx b) (ha : PE X a (tE G cl Ex ea)) (hb : PE X b (tE G cl Ex eb)) : PE X (.Subscript a b pos) (tE G cl Ex (.ix ea eb)) :=
  (pe_ix (ix_R hK hw hu) ha hb hs).imp fun σ H Q q => by
    obtain ⟨ρ, α, M, Z, S, er, P⟩ := q
    unfold evE at P
    refine two (f := fun p1 q => (view q.2 p1).bind fun x => (view q.2 q.1).bind fun y => (dix x y).bind fun z => .ok (W.d z, q.2)) S er P fun w1 w2 α2 M2 Z2 H2 v1 v2 S2 x2 r1 r2 P2 => ?_
    obtain ⟨x, e1, P2⟩ := Post.look view_exc P2
    obtain ⟨y, e2, P2⟩ := Post.look view_exc P2
    obtain ⟨z, e3, P2⟩ := Post.look dix_exc P2
    exact ⟨α2, M2, Z2, x, y, z, S2, view_rel S2 r1 e1, view_rel S2 r2 e2, e3, P2.val⟩
/-- a < b < c -/
theorem chn_reads {o o' : Cp} {ea eb ec : E} {σ : L2.St} {H : Hp} {Q : VK} (q : tE G cl Ex (.chn o o' ea eb ec) σ H Q) : tChain (At2 G (dcmp o)) (At2 G (dcmp o')) (tE G cl Ex ea) (tE G cl Ex eb) (tE G cl Ex ec) σ H Q := by
  obtain ⟨ρ, α, M, Z, S, er, P⟩ := q
  unfold evE at P
  refine two (f := fun p1 q => (view q.2 p1).bind fun x => (view q.2 q.1).bind fun y => (dcmp o x y).bind fun z => asB z fun k =>
    if k = true then (evE cl ec ρ q.2).bind fun r => (view r.2 q.1).bind fun y' => (view r.2 r.1).bind fun z' => (dcmp o' y' z').bind fun u => .ok (W.d u, r.2) else .ok (W.d (.bl false), q.2)) S er P fun w1 w2 α2 M2 Z2 H2 v1 v2 S2 x2 r1 r2 P2 => ?_
  obtain ⟨x, e1, P2⟩ := Post.look view_exc P2
  obtain ⟨y, e2, P2⟩ := Post.look view_exc P2
  obtain ⟨z, e3, P2⟩ := Post.look dcmp_exc P2
  obtain ⟨k, rfl, P9⟩ := Post.asB P2
  refine ⟨α2, M2, Z2, x, y, .bl k, S2, view_rel S2 r1 e1, view_rel S2 r2 e2, e3, fun Z' H' v xx SS rr => ?_⟩
  cases rr
  refine ⟨k, rfl, ?_⟩
  have P3 := P9.later xx
  cases k with
  | false =>
    rw [if_neg Bool.false_ne_true] at P3 ⊢
    exact P3.ok SS _ (.bl false)
  | true =>
    rw [if_pos rfl] at P3 ⊢
    refine one SS (er.mono (x2.trans xx).same (x2.trans xx).pre) P3 fun w3 α3 M3 Z3 H3 v3 S3 x3 r3 P4 => ?_
    obtain ⟨y', f1, P4⟩ := Post.look view_exc P4
    obtain ⟨z', f2, P4⟩ := Post.look view_exc P4
    obtain ⟨u, f3, P4⟩ := Post.look dcmp_exc P4
    exact ⟨α3, M3, Z3, y', z', u, S3, view_rel S3 (r2.mono (xx.trans x3).same (xx.trans x3).pre) f1, view_rel S3 r3 f2, f3, P4.val⟩
theorem d_chn (hK : X.K = G.K) (hu : X.A.units + 65 < cLine) {o o' : Cp} {a b c : Expr} {ea eb ec : E} {pos : Pos} (hm : lastMarks [cop o, cop o'] [b, c] = false)
    (ha : PE X a (tE G cl Ex ea)) (hb : PE X b (tE G cl Ex eb)) (hc : PE X c (tE G cl Ex ec)) : PE X (.Compare a [cop o, cop o'] [b, c] pos) (tE G cl Ex (.chn o o' ea eb ec)) :=
  (pe_chain (cmp_R hK hu o) (cmp_R hK hu o') ha hb hc hm).imp fun σ H Q q => chn_reads q
/-! ### one place -/
theorem d_neg {a : Expr} {ea : E} {pos : Pos} (ha : PE X a (tE G cl Ex ea)) : PE X (.UnaryOp .USub a pos) (tE G cl Ex (.neg ea)) :=
  (pe_un un_neg ha).imp fun σ H Q q => by
    obtain ⟨ρ, α, M, Z, S, er, P⟩ := q
    unfold evE at P
    refine one S er P fun w1 α1 M1 Z1 H1 v1 S1 x1 r1 P1 => ?_
    obtain ⟨x, e1, P1⟩ := Post.look view_exc P1
    obtain ⟨i, rfl, P2⟩ := Post.asI P1
    have hv := (view_rel S1 r1 e1).int
    exact ⟨i, hv, P2.ok S1 _ (.int _)⟩
theorem d_not {a : Expr} {ea : E} {pos : Pos} (ha : PE X a (tE G cl Ex ea)) : PE X (.UnaryOp .Not a pos) (tE G cl Ex (.not ea)) :=
  (pe_not ha).imp fun σ H Q q => by
    obtain ⟨ρ, α, M, Z, S, er, P⟩ := q
    unfold evE at P
    refine one S er P fun w1 α1 M1 Z1 H1 v1 S1 x1 r1 P1 => ?_
    obtain ⟨x, e1, P1⟩ := Post.look view_exc P1
    obtain ⟨i, rfl, P2⟩ := Post.asB P1
    have hv := (view_rel S1 r1 e1).bl
    exact ⟨i, hv, P2.ok S1 _ (.bl _)⟩
theorem d_and {a b : Expr} {rest : List Expr} {ea eb : E} {pos : Pos} (ha : PE X a (tE G cl Ex ea)) (hb : PE X (.BoolOp .And (b :: rest) pos) (tE G cl Ex eb)) : PE X (.BoolOp .And (a :: b :: rest) pos) (tE G cl Ex (.and ea eb)) :=
  (pe_and ha hb).imp fun σ H Q q => by
    obtain ⟨ρ, α, M, Z, S, er, P⟩ := q
    unfold evE at P
    refine one S er P fun w1 α1 M1 Z1 H1 v1 S1 x1 r1 P1 => ?_
    obtain ⟨x, e1, P1⟩ := Post.look view_exc P1
    obtain ⟨i, rfl, P2⟩ := Post.asB P1
    refine ⟨i, (view_rel S1 r1 e1).bl, ?_⟩
    cases i with
    | false => rw [if_neg Bool.false_ne_true] at P2 ⊢; exact P2.ok S1 _ (.bl _)
    | true => rw [if_pos rfl] at P2 ⊢; exact ⟨ρ, α1, M1, Z1, S1, er.mono x1.same x1.pre, P2⟩
theorem d_or {a b : Expr} {rest : List Expr} {ea eb : E} {pos : Pos} (ha : PE X a (tE G cl Ex ea)) (hb : PE X (.BoolOp .Or (b :: rest) pos) (tE G cl Ex eb)) : PE X (.BoolOp .Or (a :: b :: rest) pos) (tE G cl Ex (.or ea eb)) :=
  (pe_or ha hb).imp fun σ H Q q => by
    obtain ⟨ρ, α, M, Z, S, er, P⟩ := q
    unfold evE at P
    refine one S er P fun w1 α1 M1 Z1 H1 v1 S1 x1 r1 P1 => ?_
    obtain ⟨x, e1, P1⟩ := Post.look view_exc P1
    obtain ⟨i, rfl, P2⟩ := Post.asB P1
    refine ⟨i, (view_rel S1 r1 e1).bl, ?_⟩
    cases i with
    | true => rw [if_pos rfl] at P2 ⊢; exact P2.ok S1 _ (.bl _)
    | false => rw [if_neg Bool.false_ne_true] at P2 ⊢; exact ⟨ρ, α1, M1, Z1, S1, er.mono x1.same x1.pre, P2⟩
theorem rv_isN {α : List Addr} {M : Ms} {Z H : Hp} {x : D} {v : V} (S : SR G α M Z H) (r : Rv G Z H x v) : decide (v = .non) = isNon x := by
  cases x with
  | non => have := r.non; subst this; rfl
  | bl b => have := r.bl; subst this; rfl
  | int b => have := r.int; subst this; rfl
  | str b => have := r.str; subst this; rfl
  | tup ds => obtain ⟨a, vs, rfl, _⟩ := r.tup S; rfl
  | lst ds => obtain ⟨a, vs, rfl, _⟩ := r.lst S; rfl
  | fn i => cases r with | data r => cases r; rfl
  | scr ns => obtain ⟨a, rfl, _⟩ := r.scr S; rfl
  | dc ns => obtain ⟨a, rfl, _⟩ := r.dc S; rfl
theorem d_isn {a : Expr} {ea : E} {pos p' : Pos} {j : Nat} (ha : PE X a (tE G cl Ex ea)) : PE X (.Compare a [.Is] [.Constant .none j p'] pos) (tE G cl Ex (.isn ea)) :=
  (pe_cmp (pc_isN ha) rfl).imp fun σ H Q q => by
    obtain ⟨ρ, α, M, Z, S, er, P⟩ := q
    unfold evE at P
    refine one S er P fun w1 α1 M1 Z1 H1 v1 S1 x1 r1 P1 => ?_
    obtain ⟨x, e1, P1⟩ := Post.look view_exc P1
    rw [rv_isN S1 (view_rel S1 r1 e1)]
    exact P1.ok S1 _ (.bl _)
theorem d_isnn {a : Expr} {ea : E} {pos p' : Pos} {j : Nat} (ha : PE X a (tE G cl Ex ea)) : PE X (.Compare a [.IsNot] [.Constant .none j p'] pos) (tE G cl Ex (.isnn ea)) :=
  (pe_cmp (pc_notN ha) rfl).imp fun σ H Q q => by
    obtain ⟨ρ, α, M, Z, S, er, P⟩ := q
    unfold evE at P
    refine one S er P fun w1 α1 M1 Z1 H1 v1 S1 x1 r1 P1 => ?_
    obtain ⟨x, e1, P1⟩ := Post.look view_exc P1
    rw [rv_isN S1 (view_rel S1 r1 e1)]
    exact P1.ok S1 _ (.bl _)
/-! ### tests -/
theorem tT_tE {ee : E} {σ : L2.St} {H : Hp} {Q : Bool → Hp → Prop} (q : tT G cl Ex ee σ H Q) : tE G cl Ex ee σ H fun v H' => ∃ k, v = .bl k ∧ Q k H' := by
  obtain ⟨ρ, α, M, Z, S, er, P⟩ := q
  unfold evT at P
  refine one S er P fun w1 α1 M1 Z1 H1 v1 S1 x1 r1 P1 => ?_
  obtain ⟨x, e1, P1⟩ := Post.look view_exc P1
  obtain ⟨i, rfl, P2⟩ := Post.asB P1
  exact ⟨i, (view_rel S1 r1 e1).bl, P2.ok S1 _ rfl⟩
/-- what isTrue asks of an expression that it has no own way for -/
def plainT : Expr → Bool
  | .UnaryOp .. => false
  | .BoolOp .. => false
  | .IfExp .. => false
  | .Compare .. => false
  | _ => true
theorem d_tval {e : Expr} {ee : E} (h : PE X e (tE G cl Ex ee)) (he : plainT e = true) : PT X e (tT G cl Ex ee) :=
  (pt_val h (fun whole => by cases e <;> first | rfl | cases he)).imp fun σ H Q q => tT_tE q
/-- a test's evaluation goes on with its Bool -/
theorem tT_then {α : List Addr} {M : Ms} {Z H : Hp} {ρ : Env} {σ : L2.St} {c : E} {β : Type} {f : Bool → W × Ms → R (β × Ms)} {K : β → List Addr → Ms → Hp → Hp → Prop} {Q : Bool → Hp → Prop}
    (S : SR G α M Z H) (er : ER G α Z ρ σ) (P : Post G Ex α M Z H ((evE cl c ρ M).bind fun p => (view p.2 p.1).bind fun x => asB x fun i => f i p) K)
    (h : ∀ i w α1 M1 Z1 H1, SR G α1 M1 Z1 H1 → Ext α M Z H α1 M1 Z1 H1 → Post G Ex α1 M1 Z1 H1 (f i (w, M1)) K → Q i H1) : tT G cl Ex c σ H Q := by
  refine ⟨ρ, α, M, Z, S, er, ?_⟩
  unfold evT
  match e : evE cl c ρ M, P with
  | .ok (w, M1), P =>
    have P : Post G Ex α M Z H ((view M1 w).bind fun x => asB x fun i => f i (w, M1)) K := P
    obtain ⟨x, e1, P⟩ := Post.look view_exc P
    obtain ⟨k0, e2, P'⟩ := Post.asB P
    subst e2
    show Post G Ex α M Z H ((view M1 w).bind fun x => asB x fun i => .ok (i, M1)) _
    rw [e1]
    intro α' Z' H' x S' v ev
    have ev : v = k0 := ev
    rw [ev]
    exact h k0 w α' M1 Z' H' S' x (P'.later x)
  | .exc c M1, P => exact P
  | .stuck, P => exact P.elim
theorem d_tcmp (hK : X.K = G.K) (hu : X.A.units + 65 < cLine) {o : Cp} {a b : Expr} {ea eb : E} {pos : Pos} (hm : behindInMarks (cop o) b = false) (ha : PE X a (tE G cl Ex ea)) (hb : PE X b (tE G cl Ex eb)) : PT X (.Compare a [cop o] [b] pos) (tT G cl Ex (.cmp o ea eb)) :=
  (pt_cmpR (cmp_R hK hu o) ha hb hm).imp fun σ H Q q => cmp_reads (tT_tE q)
theorem d_tchn (hK : X.K = G.K) (hu : X.A.units + 65 < cLine) {o o' : Cp} {a b c : Expr} {ea eb ec : E} {pos : Pos} (hm : lastMarks [cop o, cop o'] [b, c] = false)
    (ha : PE X a (tE G cl Ex ea)) (hb : PE X b (tE G cl Ex eb)) (hc : PE X c (tE G cl Ex ec)) : PT X (.Compare a [cop o, cop o'] [b, c] pos) (tT G cl Ex (.chn o o' ea eb ec)) :=
  (pt_chain (cmp_R hK hu o) (cmp_R hK hu o') ha hb hc hm).imp fun σ H Q q => chn_reads (tT_tE q)
theorem d_tisn {a : Expr} {ea : E} {pos p' : Pos} {j : Nat} (ha : PE X a (tE G cl Ex ea)) : PT X (.Compare a [.Is] [.Constant .none j p'] pos) (tT G cl Ex (.isn ea)) :=
  (pt_cmp (pc_isN ha) rfl).imp fun σ H Q q => by
    obtain ⟨ρ, α, M, Z, S, er, P⟩ := q
    unfold evT evE at P
    refine one (f := fun p => ((view p.2 p.1).bind fun x => .ok (W.d (.bl (isNon x)), p.2)).bind fun p => (view p.2 p.1).bind fun x => asB x fun i => .ok (i, p.2)) S er (by rw [← R.bind_bind]; exact P) fun w1 α1 M1 Z1 H1 v1 S1 x1 r1 P1 => ?_
    rw [R.bind_bind] at P1
    obtain ⟨x, e1, P1⟩ := Post.look view_exc P1
    rw [rv_isN S1 (view_rel S1 r1 e1)]
    exact ⟨_, rfl, P1.ok S1 _ rfl⟩
theorem d_tisnn {a : Expr} {ea : E} {pos p' : Pos} {j : Nat} (ha : PE X a (tE G cl Ex ea)) : PT X (.Compare a [.IsNot] [.Constant .none j p'] pos) (tT G cl Ex (.isnn ea)) :=
  (pt_cmp (pc_notN ha) rfl).imp fun σ H Q q => by
    obtain ⟨ρ, α, M, Z, S, er, P⟩ := q
    unfold evT evE at P
    refine one (f := fun p => ((view p.2 p.1).bind fun x => .ok (W.d (.bl (!isNon x)), p.2)).bind fun p => (view p.2 p.1).bind fun x => asB x fun i => .ok (i, p.2)) S er (by rw [← R.bind_bind]; exact P) fun w1 α1 M1 Z1 H1 v1 S1 x1 r1 P1 => ?_
    rw [R.bind_bind] at P1
    obtain ⟨x, e1, P1⟩ := Post.look view_exc P1
    rw [rv_isN S1 (view_rel S1 r1 e1)]
    exact ⟨_, rfl, P1.ok S1 _ rfl⟩
theorem d_tnot {a : Expr} {ea : E} {pos : Pos} (ha : PT X a (tT G cl Ex ea)) : PT X (.UnaryOp .Not a pos) (tT G cl Ex (.not ea)) :=
  (pt_not ha).imp fun σ H Q q => by
    obtain ⟨ρ, α, M, Z, S, er, P⟩ := q
    unfold evT evE at P
    rw [R.bind_bind] at P
    refine tT_then (f := fun i p => (R.ok (W.d (.bl (!i)), p.2)).bind fun p => (view p.2 p.1).bind fun x => asB x fun i => .ok (i, p.2)) S er (by simpa only [R.bind_bind, asB_bind] using P) fun i w α1 M1 Z1 H1 S1 x1 P1 => ?_
    exact P1.ok S1 _ rfl
/-- one of and's, or's chain -/
theorem d_wone {a : Expr} {ea : E} {op : BoolOp} {pos : Pos} (ha : PT X a (tT G cl Ex ea)) : PW X (.BoolOp op [a] pos) (tT G cl Ex ea) := by
  cases op
  · exact pw_and1 ha
  · exact pw_or1 ha
theorem d_wand {a b : Expr} {rest : List Expr} {ea eb : E} {pos : Pos} (ha : PT X a (tT G cl Ex ea)) (hb : PW X (.BoolOp .And (b :: rest) pos) (tT G cl Ex eb)) : PW X (.BoolOp .And (a :: b :: rest) pos) (tT G cl Ex (.and ea eb)) :=
  (pw_and ha hb).imp fun σ H Q q => by
    obtain ⟨ρ, α, M, Z, S, er, P⟩ := q
    unfold evT evE at P
    rw [R.bind_bind] at P
    refine tT_then (f := fun i p => (if i = true then evE cl eb ρ p.2 else .ok (.d (.bl false), p.2)).bind fun p => (view p.2 p.1).bind fun x => asB x fun i => .ok (i, p.2)) S er (by simpa only [R.bind_bind, asB_bind] using P) fun i w α1 M1 Z1 H1 S1 x1 P1 => ?_
    cases i with
    | false => exact P1.ok S1 _ rfl
    | true => exact ⟨ρ, α1, M1, Z1, S1, er.mono x1.same x1.pre, P1⟩
theorem d_wor {a b : Expr} {rest : List Expr} {ea eb : E} {pos : Pos} (ha : PT X a (tT G cl Ex ea)) (hb : PW X (.BoolOp .Or (b :: rest) pos) (tT G cl Ex eb)) : PW X (.BoolOp .Or (a :: b :: rest) pos) (tT G cl Ex (.or ea eb)) :=
  (pw_or ha hb).imp fun σ H Q q => by
    obtain ⟨ρ, α, M, Z, S, er, P⟩ := q
    unfold evT evE at P
    rw [R.bind_bind] at P
    refine tT_then (f := fun i p => (if i = true then .ok (.d (.bl true), p.2) else evE cl eb ρ p.2).bind fun p => (view p.2 p.1).bind fun x => asB x fun i => .ok (i, p.2)) S er (by simpa only [R.bind_bind, asB_bind] using P) fun i w α1 M1 Z1 H1 S1 x1 P1 => ?_
    cases i with
    | true => exact P1.ok S1 _ rfl
    | false => exact ⟨ρ, α1, M1, Z1, S1, er.mono x1.same x1.pre, P1⟩
/-- a if c else b -/
theorem d_ife {c a b : Expr} {ec ea eb : E} {pos : Pos} (hc : PT X c (tT G cl Ex ec)) (ha : PE X a (tE G cl Ex ea)) (hb : PE X b (tE G cl Ex eb)) : PE X (.IfExp c a b pos) (tE G cl Ex (.ife ec ea eb)) :=
  (pe_ifExp hc ha hb).imp fun σ H Q q => by
    obtain ⟨ρ, α, M, Z, S, er, P⟩ := q
    unfold evE at P
    refine tT_then (f := fun i p => if i = true then evE cl ea ρ p.2 else evE cl eb ρ p.2) S er P fun i w α1 M1 Z1 H1 S1 x1 P1 => ?_
    cases i with
    | true => exact ⟨ρ, α1, M1, Z1, S1, er.mono x1.same x1.pre, P1⟩
    | false => exact ⟨ρ, α1, M1, Z1, S1, er.mono x1.same x1.pre, P1⟩
end
end PyD

set_option Elab.async false
set_option linter.all false
set_option maxRecDepth 100000
set_option maxHeartbeats 4000000
/-! PyD7: slices, displays, fresh lists, arguments, calls. -/
namespace PyD
open PySem PySem.Spec PyProof.Rows L2
section
variable {G : Gl} {α : List Addr} {M : Ms} {Z H : Hp}
theorem lop_exc {o : B2} {x y : D} : ∀ c M, lop o x y ≠ .exc c M := fun c M => by
  unfold lop
  split <;> first | exact stuckIf_exc ok_exc c M | (intro h; cases h)
theorem itemsOf_exc {x : D} : ∀ c M, itemsOf x ≠ .exc c M := fun c M => by
  cases x <;> (intro h; cases h)
/-- a value as data -/
theorem frz_rel (S : SR G α M Z H) {w : W} {v : V} {x : D} {M' : Ms} (r : RpW G α Z w v) (e : frz M w = .ok (x, M')) : ∃ Z', SR G α M' Z' H ∧ Ext α M Z H α M' Z' H ∧ Rp G Z' x v := by
  cases w with
  | d y => cases e; exact ⟨Z, S, .refl, r⟩
  | c i =>
    obtain ⟨a, h1, rfl⟩ := r
    simp only [frz] at e
    cases q : M[i]? with
    | none => simp only [q] at e; cases e
    | some c =>
      simp only [q] at e
      cases c with
      | lst ds =>
        cases e
        obtain ⟨vs, _, r1, S1, x1⟩ := S.freeze q h1
        exact ⟨_, S1, x1, r1⟩
      | dic kvs => cases e
      | fro ds =>
        cases e
        obtain ⟨vs, ha, hr⟩ := S.fro i _ a q h1
        exact ⟨Z, S, .refl, .lst ha hr⟩
theorem frz_exc {M : Ms} {w : W} (c : Nat) (M' : Ms) : frz M w ≠ .exc c M' := by
  cases w with
  | d x => intro h; cases h
  | c i =>
    simp only [frz]
    split <;> (intro h; cases h)
theorem post_frz {E : XK} {β : Type} {w : W} {v : V} {f : D × Ms → R (β × Ms)} {K : β → List Addr → Ms → Hp → Hp → Prop} (S : SR G α M Z H) (r : RpW G α Z w v) (P : Post G E α M Z H ((frz M w).bind f) K) :
    ∃ x M' Z', SR G α M' Z' H ∧ Ext α M Z H α M' Z' H ∧ Rp G Z' x v ∧ Post G E α M' Z' H (f (x, M')) K := by
  match e : frz M w, P with
  | .ok (x, M'), P =>
    obtain ⟨Z', S', x', r'⟩ := frz_rel S r e
    exact ⟨x, M', Z', S', x', r', Post.later (show Post G E α M Z H (f (x, M')) K from P) x'⟩
  | .exc c M', P => exact absurd e (frz_exc c M')
  | .stuck, P => exact P.elim
theorem newL_mk (S : SR G α M Z H) {p : Addr} (hp : H p = Option.none) {ds : List D} {vs : List V} (r : Rps G Z ds vs) :
    NewL G α M Z (upd H p (.lst vs)) ds p vs ∧ SR G α M Z (upd H p (.lst vs)) ∧ Ext α M Z H α M Z (upd H p (.lst vs)) :=
  ⟨⟨upd_same, S.zfree hp, fun l => Live.tracked S l hp, r⟩, (S.extra hp).1, (S.extra hp).2⟩
/-- a fresh list as data -/
theorem NewL.data {α0 : List Addr} {M0 : Ms} {Z0 H0 : Hp} (S : SR G α M Z H) {ds : List D} {p : Addr} {vs : List V} (n : NewL G α M Z H ds p vs) (h0 : Abs H0 p) (e0 : Ext α0 M0 Z0 H0 α M Z H) :
    Rp G (upd Z p (.lst vs)) (.lst ds) (.ref p) ∧ SR G α M (upd Z p (.lst vs)) H ∧ Ext α0 M0 Z0 H0 α M (upd Z p (.lst vs)) H :=
  ⟨.lst upd_same (n.rel.mono (same_upd n.nz)), (S.adopt n.hp n.nz n.nl (fun ps h => by cases h) h0 e0).1, (S.adopt n.hp n.nz n.nl (fun ps h => by cases h) h0 e0).2⟩
theorem Post.start {E : XK} {β : Type} {r : R (β × Ms)} {K : β → List Addr → Ms → Hp → Hp → Prop} {b : β} {M' : Ms} (e : r = .ok (b, M')) (P : Post G E α M Z H r K) {α' : List Addr} {Z' H' : Hp} (x : Ext α M Z H α' M' Z' H') (S : SR G α' M' Z' H') : K b α' M' Z' H' := by
  subst e
  exact P α' Z' H' x S
/-- a part's value, by what the whole comes to -/
theorem Post.part {E : XK} {β γ : Type} {r : R (β × Ms)} {f : β × Ms → R (γ × Ms)} {K : γ → List Addr → Ms → Hp → Hp → Prop} {K' : β → List Addr → Ms → Hp → Hp → Prop} (P : Post G E α M Z H (r.bind f) K)
    (h : ∀ b M', r = .ok (b, M') → Post G E α M Z H (f (b, M')) K → ∀ α' Z' H', Ext α M Z H α' M' Z' H' → SR G α' M' Z' H' → K' b α' M' Z' H') : Post G E α M Z H r K' := by
  match r, P, h with
  | .ok (b, M'), P, h => exact fun α' Z' H' x S => h b M' rfl P α' Z' H' x S
  | .exc c M', P, _ => exact P
  | .stuck, P, _ => exact P
end
section
variable {X : Cx} {G : Gl} {cl : Nat → List W → Ms → R (W × Ms)} {Ex : XK}
/-- no star -/
def nst : Expr → Bool
  | .Starred .. => false
  | _ => true
theorem star_cons {e : Expr} {es : List Expr} {env : PySem.Env} (h : nst e = true) : starEach (e :: es) env = (false, eval e env) :: starEach es env := by
  cases e <;> first | rfl | cases h
theorem star_any {pos : Pos} {env : PySem.Env} : ∀ {es : List Expr}, es.all nst = true → (backTo pos (starEach es env)).any (·.1) = false
  | [], _ => rfl
  | e :: es, h => by
    rw [List.all_cons] at h
    have h := Bool.and_eq_true_iff.mp h
    rw [star_cons h.1]
    show (false || (backTo pos (starEach es env)).any (·.1)) = false
    rw [star_any h.2]
    rfl
/-! ### lists of expressions -/
theorem d_ws0 : PA X [] (tEs G cl Ex .nil) := pa_nil.imp fun σ H Q q => by
  obtain ⟨ρ, α, M, Z, S, er, P⟩ := q
  unfold evWs at P
  exact P.ok S [] .nil
theorem d_ws {e : Expr} {es : List Expr} {ee : E} {ees : Es} (hn : nst e = true) (he : PE X e (tE G cl Ex ee)) (hs : PA X es (tEs G cl Ex ees)) : PA X (e :: es) (tEs G cl Ex (.cons ee ees)) :=
  (pa_cons he hs (star_cons hn)).imp fun σ H Q q => by
    obtain ⟨ρ, α, M, Z, S, er, P⟩ := q
    unfold evWs at P
    refine one S er P fun w1 α1 M1 Z1 H1 v1 S1 x1 r1 P1 => ?_
    refine ⟨ρ, α1, M1, Z1, S1, er.mono x1.same x1.pre, P1.bind.imp fun ws α2 M2 Z2 H2 x2 S2 P2 vs rs => ?_⟩
    exact P2.ok S2 _ (.cons (r1.mono x2.same x2.pre) rs)
theorem d_ds0 : PA X [] (tDs G cl Ex .nil) := pa_nil.imp fun σ H Q q => by
  obtain ⟨ρ, α, M, Z, S, er, P⟩ := q
  unfold evDs at P
  exact P.ok S [] .nil
theorem d_ds {e : Expr} {es : List Expr} {ee : E} {ees : Es} (hn : nst e = true) (he : PE X e (tE G cl Ex ee)) (hs : PA X es (tDs G cl Ex ees)) : PA X (e :: es) (tDs G cl Ex (.cons ee ees)) :=
  (pa_cons he hs (star_cons hn)).imp fun σ H Q q => by
    obtain ⟨ρ, α, M, Z, S, er, P⟩ := q
    unfold evDs at P
    refine one S er P fun w1 α1 M1 Z1 H1 v1 S1 x1 r1 P1 => ?_
    obtain ⟨x, M', Z', S', x', r', P'⟩ := post_frz S1 r1 P1
    refine ⟨ρ, α1, M', Z', S', er.mono (x1.trans x').same (x1.trans x').pre, P'.bind.imp fun ws α2 M2 Z2 H2 x2 S2 P2 vs rs => ?_⟩
    exact P2.ok S2 _ (.cons (r'.mono x2.same) rs)
theorem RvL.ofRps {Z H : Hp} : ∀ {ds : List D} {vs : List V}, Rps G Z ds vs → RvL G Z H ds vs
  | _, _, .nil => .nil
  | _, _, .cons h hs => .cons (.data h) (RvL.ofRps hs)
theorem d_vs0 : PA X [] (tVs G cl Ex .nil) := pa_nil.imp fun σ H Q q => by
  obtain ⟨ρ, α, M, Z, S, er, P⟩ := q
  unfold evVs at P
  exact P.ok S [] .nil
theorem d_vs1 {e : Expr} {ee : E} (hn : nst e = true) (he : PE X e (tE G cl Ex ee)) : PA X [e] (tVs G cl Ex (.cons ee .nil)) :=
  (pa_cons he pa_nil (star_cons hn)).imp fun σ H Q q => by
    obtain ⟨ρ, α, M, Z, S, er, P⟩ := q
    unfold evVs at P
    refine one S er P fun w1 α1 M1 Z1 H1 v1 S1 x1 r1 P1 => ?_
    obtain ⟨x, e1, P1⟩ := Post.look view_exc P1
    exact P1.ok S1 _ (.cons (view_rel S1 r1 e1) .nil)
theorem d_vs2 {e e2 : Expr} {es : List Expr} {ee ee2 : E} {ees : Es} (hn : nst e = true) (he : PE X e (tE G cl Ex ee)) (hs : PA X (e2 :: es) (tDs G cl Ex (.cons ee2 ees))) : PA X (e :: e2 :: es) (tVs G cl Ex (.cons ee (.cons ee2 ees))) :=
  (pa_cons he hs (star_cons hn)).imp fun σ H Q q => by
    obtain ⟨ρ, α, M, Z, S, er, P⟩ := q
    unfold evVs at P
    refine one S er P fun w1 α1 M1 Z1 H1 v1 S1 x1 r1 P1 => ?_
    obtain ⟨x, M', Z', S', x', r', P'⟩ := post_frz S1 r1 P1
    refine ⟨ρ, α1, M', Z', S', er.mono (x1.trans x').same (x1.trans x').pre, P'.bind.imp fun ws α2 M2 Z2 H2 x2 S2 P2 vs rs => ?_⟩
    exact P2.ok S2 _ (RvL.ofRps (.cons (r'.mono x2.same) rs))
/-! ### displays -/
theorem d_tup {es : List Expr} {ees : Es} {k : Nat} {pos : Pos} (hs : PA X es (tDs G cl Ex ees)) : PE X (.Tuple es k pos) (tE G cl Ex (.tup ees)) :=
  (pe_tup hs).imp fun σ H Q q => by
    obtain ⟨ρ, α, M, Z, S, er, P⟩ := q
    unfold evE at P
    refine ⟨ρ, α, M, Z, S, er, P.bind.imp fun ds α1 M1 Z1 H1 x1 S1 P1 vs rs => ?_⟩
    obtain ⟨c, P1⟩ := Post.stuckIf P1
    have c := of_decide_eq_true c
    exact ⟨by rw [← rs.length]; exact c, fun p hp => P1.val.new S1 hp (fun ps z => by cases z) (.tup (SqT.of upd_same) (rs.mono (same_upd (S1.zfree hp))))⟩
theorem d_lst {es : List Expr} {ees : Es} {pos : Pos} (hs : PA X es (tDs G cl Ex ees)) : PE X (.List es pos) (tF G cl Ex (.lst ees)) :=
  (pe_lst hs).imp fun σ H Q q => by
    obtain ⟨ρ, α, M, Z, S, er, P⟩ := q
    unfold evF at P
    refine ⟨ρ, α, M, Z, S, er, P.bind.imp fun ds α1 M1 Z1 H1 x1 S1 P1 vs rs => ?_⟩
    obtain ⟨c, P1⟩ := Post.stuckIf P1
    have c := of_decide_eq_true c
    refine ⟨by rw [← rs.length]; exact c, fun p hp => ?_⟩
    obtain ⟨n, S2, x2⟩ := newL_mk S1 hp rs
    exact (P1.later x2).ok S2 p vs (Classical.byContradiction fun q => x1.dom p q (Abs.of hp)) n
/-- a fresh list as a value -/
theorem d_fr {e : Expr} {f : F} (h : PE X e (tF G cl Ex f)) : PE X e (tE G cl Ex (.fr f)) := h.imp fun σ H Q q => by
  obtain ⟨ρ, α, M, Z, S, er, P⟩ := q
  unfold evE at P
  refine ⟨ρ, α, M, Z, S, er, P.part fun ds M1 e P1 α1 Z1 H1 x1 S1 p vs hp n => ?_⟩
  obtain ⟨r, S2, x2⟩ := n.data S1 hp x1
  exact P1 α1 _ H1 x2 S2 _ r
/-- a fresh list as a cell -/
theorem d_nw {e : Expr} {f : F} (h : PE X e (tF G cl Ex f)) : PE X e (tE G cl Ex (.nw f)) := h.imp fun σ H Q q => by
  obtain ⟨ρ, α, M, Z, S, er, P⟩ := q
  unfold evE at P
  refine ⟨ρ, α, M, Z, S, er, P.part fun ds M1 e P1 α1 Z1 H1 x1 S1 p vs hp n => ?_⟩
  obtain ⟨S2, x2⟩ := S1.push n.hp n.nz n.nl n.rel hp x1
  refine P1 (α1 ++ [p]) Z1 H1 x2 S2 (.ref p) ⟨p, ?_, rfl⟩
  rw [← S1.len]
  simp
theorem dom_none {α α1 : List Addr} {M M1 : Ms} {Z Z1 H H1 : Hp} (x : Ext α M Z H α1 M1 Z1 H1) {p : Addr} (hp : H1 p = Option.none) : Abs H p := Classical.byContradiction fun q => x.dom p q (Abs.of hp)
/-- list(e) -/
theorem d_of {e : Expr} {ee : E} {p pos : Pos} (hg : L2.Gl X "list") (hm : X.mg "list" = Option.none) (hK : X.K = G.K) (hn : nst e = true) (he : PE X e (tE G cl Ex ee)) : PE X (.Call (.Name "list" p) [e] [] pos) (tF G cl Ex (.of ee)) :=
  (pe_callTy call_list_of hg hm boot_list (pa_cons he pa_nil (star_cons hn)) (he := star_cons hn)).imp fun σ H Q q => by
    obtain ⟨ρ, α, M, Z, S, er, P⟩ := q
    unfold evF at P
    refine one S er P fun w1 α1 M1 Z1 H1 v1 S1 x1 r1 P1 => ?_
    obtain ⟨x, e1, P2⟩ := Post.look view_exc P1
    have rv := view_rel S1 r1 e1
    cases x with
    | lst ds =>
      obtain ⟨a, vs, rfl, h1, rr⟩ := rv.lst S1
      refine ⟨a, vs, rfl, .inl (SqL.of h1), fun l hl => ?_⟩
      obtain ⟨n, S2, x2⟩ := newL_mk S1 hl rr
      exact (Post.later (show Post G Ex α1 M1 Z1 H1 (.ok (ds, M1)) _ from P2) x2).ok S2 l vs (dom_none x1 hl) n
    | tup ds =>
      obtain ⟨a, vs, rfl, h1, rr⟩ := rv.tup S1
      refine ⟨a, vs, rfl, .inr (by rw [hK]; exact sqT_sub S1 h1), fun l hl => ?_⟩
      obtain ⟨n, S2, x2⟩ := newL_mk S1 hl rr
      exact (Post.later (show Post G Ex α1 M1 Z1 H1 (.ok (ds, M1)) _ from P2) x2).ok S2 l vs (dom_none x1 hl) n
    | _ => exact (show False from P2).elim
theorem rg_rps {Z : Hp} (a b : Int) : Rps G Z (rgD a b) (rgV a b) := by
  unfold rgD rgV
  generalize List.range (b - a).toNat = l
  induction l with
  | nil => exact .nil
  | cons x xs ih => exact .cons (.int _) ih
theorem rgOk_of {a b : Int} (h : rgOk a b = true) : RgOk a b := by
  have h := of_decide_eq_true h
  exact h
theorem d_rg {e : Expr} {ee : E} {p p2 pos pos2 : Pos} (hc : X.calm = true) (hg : L2.Gl X "list") (hm : X.mg "list" = Option.none) (hg2 : L2.Gl X "range") (hm2 : X.mg "range" = Option.none) (hn : nst e = true) (he : PE X e (tE G cl Ex ee)) :
    PE X (.Call (.Name "list" p) [.Call (.Name "range" p2) [e] [] pos2] [] pos) (tF G cl Ex (.rg ee)) :=
  (pe_listRg hc hg hm (prg_1 hg2 hm2 he (star_cons hn))).imp fun σ H Q q => by
    obtain ⟨ρ, α, M, Z, S, er, P⟩ := q
    unfold evF at P
    refine one S er P fun w1 α1 M1 Z1 H1 v1 S1 x1 r1 P1 => ?_
    obtain ⟨x, e1, P2⟩ := Post.look view_exc P1
    obtain ⟨n, rfl, P3⟩ := Post.asI P2
    obtain ⟨c, P4⟩ := Post.stuckIf P3
    refine ⟨n, (view_rel S1 r1 e1).int, rgOk_of c, fun l hl => ?_⟩
    obtain ⟨nl, S2, x2⟩ := newL_mk S1 hl (rg_rps 0 n)
    exact (P4.later x2).ok S2 l _ (dom_none x1 hl) nl
theorem d_rg2 {e e2 : Expr} {ee ee2 : E} {p p2 pos pos2 : Pos} (hc : X.calm = true) (hg : L2.Gl X "list") (hm : X.mg "list" = Option.none) (hg2 : L2.Gl X "range") (hm2 : X.mg "range" = Option.none) (hn : nst e = true) (hn2 : nst e2 = true)
    (he : PE X e (tE G cl Ex ee)) (he2 : PE X e2 (tE G cl Ex ee2)) : PE X (.Call (.Name "list" p) [.Call (.Name "range" p2) [e, e2] [] pos2] [] pos) (tF G cl Ex (.rg2 ee ee2)) :=
  (pe_listRg hc hg hm (prg_2 hg2 hm2 he he2 (star_cons hn) (star_cons hn2) (star_any (by simp [hn2])))).imp fun σ H Q q => by
    obtain ⟨ρ, α, M, Z, S, er, P⟩ := q
    unfold evF at P
    refine two (f := fun p1 q => (view q.2 p1).bind fun x => (view q.2 q.1).bind fun y => asI x fun m => asI y fun n => stuckIf (rgOk m n) (.ok (rgD m n, q.2))) S er P fun w1 w2 α2 M2 Z2 H2 v1 v2 S2 x2 r1 r2 P2 => ?_
    obtain ⟨x, e1, P3⟩ := Post.look view_exc P2
    obtain ⟨y, e2, P4⟩ := Post.look view_exc P3
    obtain ⟨m, rfl, P5⟩ := Post.asI P4
    obtain ⟨n, rfl, P6⟩ := Post.asI P5
    obtain ⟨c, P7⟩ := Post.stuckIf P6
    refine ⟨m, n, (view_rel S2 r1 e1).int, (view_rel S2 r2 e2).int, rgOk_of c, fun l hl => ?_⟩
    obtain ⟨nl, S3, x3⟩ := newL_mk S2 hl (rg_rps m n)
    exact (P7.later x3).ok S3 l _ (dom_none x2 hl) nl
/-- tuple(range(n)) -/
theorem d_trg {e : Expr} {ee : E} {p p2 pos pos2 : Pos} (hc : X.calm = true) (hg : L2.Gl X "tuple") (hm : X.mg "tuple" = Option.none) (hg2 : L2.Gl X "range") (hm2 : X.mg "range" = Option.none) (hn : nst e = true) (he : PE X e (tE G cl Ex ee)) :
    PE X (.Call (.Name "tuple" p) [.Call (.Name "range" p2) [e] [] pos2] [] pos) (tE G cl Ex (.trg ee)) :=
  (pe_tupRg hc hg hm (prg_1 hg2 hm2 he (star_cons hn))).imp fun σ H Q q => by
    obtain ⟨ρ, α, M, Z, S, er, P⟩ := q
    unfold evE at P
    refine one S er P fun w1 α1 M1 Z1 H1 v1 S1 x1 r1 P1 => ?_
    obtain ⟨x, e1, P2⟩ := Post.look view_exc P1
    obtain ⟨n, rfl, P3⟩ := Post.asI P2
    obtain ⟨c, P4⟩ := Post.stuckIf P3
    exact ⟨n, (view_rel S1 r1 e1).int, rgOk_of c, fun l hl => P4.val.new S1 hl (fun ps z => by cases z) (.tup (SqT.of upd_same) (rg_rps 0 n))⟩
/-- a new list by + or * -/
theorem d_lop {o : B2} {a b : Expr} {ea eb : E} {pos : Pos} (ho : o = .add ∨ o = .mul) (ha : PE X a (tE G cl Ex ea)) (hb : PE X b (tE G cl Ex eb)) : PE X (.BinOp a (bop o) b pos) (tF G cl Ex (.op o ea eb)) := by
  rcases ho with rfl | rfl
  · refine (pe_op op_cat ha hb).imp fun σ H Q q => ?_
    obtain ⟨ρ, α, M, Z, S, er, P⟩ := q
    unfold evF at P
    refine two (f := fun p1 q => (view q.2 p1).bind fun x => (view q.2 q.1).bind fun y => (lop .add x y).bind fun z => .ok (z, q.2)) S er P fun w1 w2 α2 M2 Z2 H2 v1 v2 S2 x2 r1 r2 P2 => ?_
    obtain ⟨x, e1, P3⟩ := Post.look view_exc P2
    obtain ⟨y, e2, P4⟩ := Post.look view_exc P3
    obtain ⟨z, e3, P5⟩ := Post.look lop_exc P4
    have rx := view_rel S2 r1 e1
    have ry := view_rel S2 r2 e2
    unfold lop at e3
    split at e3 <;> try (rename_i e9; cases e9)
    · rename_i i j _
      obtain ⟨a, vs, rfl, h1, r1⟩ := rx.lst S2
      obtain ⟨b, us, rfl, h2, r2⟩ := ry.lst S2
      obtain ⟨bb, e3⟩ := stuckIf_ok e3
      cases e3
      have l1 := r1.length
      have l2 := r2.length
      have bb := of_decide_eq_true bb
      refine ⟨a, b, vs, us, rfl, rfl, h1, h2, by omega, fun p hp => ?_⟩
      obtain ⟨nl, S3, x3⟩ := newL_mk S2 hp (r1.append r2)
      exact (P5.later x3).ok S3 p _ (dom_none x2 hp) nl
    · cases e3
  · refine (pe_op op_rep ha hb).imp fun σ H Q q => ?_
    obtain ⟨ρ, α, M, Z, S, er, P⟩ := q
    unfold evF at P
    refine two (f := fun p1 q => (view q.2 p1).bind fun x => (view q.2 q.1).bind fun y => (lop .mul x y).bind fun z => .ok (z, q.2)) S er P fun w1 w2 α2 M2 Z2 H2 v1 v2 S2 x2 r1 r2 P2 => ?_
    obtain ⟨x, e1, P3⟩ := Post.look view_exc P2
    obtain ⟨y, e2, P4⟩ := Post.look view_exc P3
    obtain ⟨z, e3, P5⟩ := Post.look lop_exc P4
    have rx := view_rel S2 r1 e1
    have ry := view_rel S2 r2 e2
    unfold lop at e3
    split at e3 <;> try (rename_i e9; cases e9)
    · rename_i i j
      obtain ⟨a, vs, rfl, h1, r1⟩ := rx.lst S2
      have hy := ry.int
      subst hy
      obtain ⟨bb, e3⟩ := stuckIf_ok e3
      cases e3
      have l1 := r1.length
      have bb := of_decide_eq_true bb
      refine ⟨a, j, vs, rfl, rfl, h1, bb.1, bb.2.1, by rw [← l1]; exact bb.2.2, fun p hp => ?_⟩
      obtain ⟨nl, S3, x3⟩ := newL_mk S2 hp (r1.rep j.toNat)
      exact (P5.later x3).ok S3 p _ (dom_none x2 hp) nl
    · cases e3
/-! ### slices -/
theorem d_o0 : PO X Option.none (tO G cl Ex .none) := po_none.imp fun σ H Q q => by
  obtain ⟨ρ, α, M, Z, S, er, P⟩ := q
  unfold evO at P
  exact P.ok S _ rfl
theorem d_o1 {e : Expr} {ee : E} (h : PE X e (tE G cl Ex ee)) : PO X (some e) (tO G cl Ex (.some ee)) := (po_some h).imp fun σ H Q q => by
  obtain ⟨ρ, α, M, Z, S, er, P⟩ := q
  unfold evO at P
  refine one S er P fun w1 α1 M1 Z1 H1 v1 S1 x1 r1 P1 => ?_
  obtain ⟨x, e1, P2⟩ := Post.look view_exc P1
  obtain ⟨i, rfl, P3⟩ := Post.asI P2
  exact ⟨i, (view_rel S1 r1 e1).int, P3.ok S1 _ rfl⟩
theorem d_sl (hK : X.K = G.K) {a : Expr} {lo hi : Option Expr} {ea : E} {el eh : Eo} {p2 pos : Pos} (ha : PE X a (tE G cl Ex ea)) (hl : PO X lo (tO G cl Ex el)) (hh : PO X hi (tO G cl Ex eh)) : PE X (.Subscript a (.Slice lo hi Option.none p2) pos) (tE G cl Ex (.sl ea el eh)) :=
  (pe_slice (sl_R hK) ha hl hh).imp fun σ H Q q => by
    obtain ⟨ρ, α, M, Z, S, er, P⟩ := q
    unfold evE at P
    refine one S er P fun w1 α1 M1 Z1 H1 v1 S1 x1 r1 P1 => ?_
    refine ⟨ρ, α1, M1, Z1, S1, er.mono x1.same x1.pre, P1.bind.imp fun l α2 M2 Z2 H2 x2 S2 P2 l' el' => ?_⟩
    have el' : l' = l := el'
    subst el'
    refine ⟨ρ, α2, M2, Z2, S2, er.mono (x1.trans x2).same (x1.trans x2).pre, P2.bind.imp fun u α3 M3 Z3 H3 x3 S3 P3 u' eu' => ?_⟩
    have eu' : u' = u := eu'
    subst eu'
    obtain ⟨x, e1, P4⟩ := Post.look view_exc P3
    obtain ⟨z, e2, P5⟩ := Post.look dsl_exc P4
    exact ⟨α3, M3, Z3, x, z, S3, view_rel S3 (r1.mono (x2.trans x3).same (x2.trans x3).pre) e1, e2, P5.val⟩
theorem d_fsl {a : Expr} {lo hi : Option Expr} {ea : E} {el eh : Eo} {p2 pos : Pos} (ha : PE X a (tE G cl Ex ea)) (hl : PO X lo (tO G cl Ex el)) (hh : PO X hi (tO G cl Ex eh)) : PE X (.Subscript a (.Slice lo hi Option.none p2) pos) (tF G cl Ex (.sl ea el eh)) :=
  (pe_slice sl_list ha hl hh).imp fun σ H Q q => by
    obtain ⟨ρ, α, M, Z, S, er, P⟩ := q
    unfold evF at P
    refine one S er P fun w1 α1 M1 Z1 H1 v1 S1 x1 r1 P1 => ?_
    refine ⟨ρ, α1, M1, Z1, S1, er.mono x1.same x1.pre, P1.bind.imp fun l α2 M2 Z2 H2 x2 S2 P2 l' el' => ?_⟩
    have el' : l' = l := el'
    subst el'
    refine ⟨ρ, α2, M2, Z2, S2, er.mono (x1.trans x2).same (x1.trans x2).pre, P2.bind.imp fun u α3 M3 Z3 H3 x3 S3 P3 u' eu' => ?_⟩
    have eu' : u' = u := eu'
    subst eu'
    obtain ⟨x, e1, P4⟩ := Post.look view_exc P3
    have rv := view_rel S3 (r1.mono (x2.trans x3).same (x2.trans x3).pre) e1
    cases x with
    | lst ds =>
      obtain ⟨p, vs, rfl, h1, rr⟩ := rv.lst S3
      refine ⟨p, vs, rfl, SqL.of h1, fun q hq => ?_⟩
      obtain ⟨n, S4, x4⟩ := newL_mk S3 hq (cut_rel rr (lo := l') (hi := u'))
      exact (Post.later (show Post G Ex α3 M3 Z3 H3 (.ok (cutD ds l' u', M3)) _ from P4) x4).ok S4 q _ (dom_none (x1.trans (x2.trans x3)) hq) n
    | _ => exact (show False from P4).elim
/-! ### calls -/
def spD (G : Gl) (cl : List W → Ms → R (W × Ms)) : Sp := fun vs H Q E => ∃ ws α M Z, SR G α M Z H ∧ RpWs G α Z ws vs ∧ Post G E α M Z H (cl ws M) fun w α' M' Z' H' => ∀ v, RpW G α' Z' w v → Q v H'
theorem d_call {P : Program} {w : World} {fd : FuncData} {ps : List PySem.Str} {k : Nat} {f : Nat} {x : PySem.Str} {p pos : Pos} {e : Expr} {es : List Expr} {ees : Es} {CX : CXT}
    (F : FnOk X.prog X.w X.K X.mg X.base CX k (G.fa f) fd ps (spD G (cl f))) (hr : Room k X.A) (hg : L2.Gl X x) (hm : X.mg x = some (.ref (G.fa f))) (hk : PySem.W.keepIn X.K (.ref (G.fa f)) = true) (hb : Binds X.K fd ps [])
    (hx : Passes CX X Ex) (hd : (x == ("__debug__" : PySem.Str)) = false) (hn : (e :: es).all nst = true) (ha : PA X (e :: es) (tEs G cl Ex ees)) : PE X (.Call (.Name x p) (e :: es) [] pos) (tE G cl Ex (.call f ees)) := by
  have hn := Bool.and_eq_true_iff.mp (show (nst e && es.all nst) = true from hn)
  refine (pe_call F hr hg hm hk hb (dvs := []) .nil hx ha hd (star_cons hn.1) (star_any hn.2)).imp fun σ H Q q => ?_
  obtain ⟨ρ, α, M, Z, S, er, P⟩ := q
  unfold evE at P
  refine ⟨ρ, α, M, Z, S, er, P.bind.imp fun ws α1 M1 Z1 H1 x1 S1 P1 vs rs => ?_⟩
  exact ⟨ws, α1, M1, Z1, S1, by rw [List.append_nil]; exact rs, P1⟩
theorem d_call0 {P : Program} {w : World} {fd : FuncData} {ps : List PySem.Str} {k : Nat} {f : Nat} {x : PySem.Str} {p pos : Pos} {CX : CXT}
    (F : FnOk X.prog X.w X.K X.mg X.base CX k (G.fa f) fd ps (spD G (cl f))) (hr : Room k X.A) (hg : L2.Gl X x) (hm : X.mg x = some (.ref (G.fa f))) (hk : PySem.W.keepIn X.K (.ref (G.fa f)) = true) (hb : Binds X.K fd ps [])
    (hx : Passes CX X Ex) (hd : (x == ("__debug__" : PySem.Str)) = false) : PE X (.Call (.Name x p) [] [] pos) (tE G cl Ex (.call f .nil)) := by
  refine (pe_call0 F hr hg hm hk hb (dvs := []) .nil hx hd).imp fun σ H Q q => ?_
  obtain ⟨ρ, α, M, Z, S, er, P⟩ := q
  unfold evE evWs at P
  exact ⟨[], α, M, Z, S, .nil, P⟩
/-! ### built-ins -/
theorem d_biB (hK : X.K = G.K) (hc : X.calm = true) {b : Bi} {id : String} (hid : bval b = .builtin id) {x : PySem.Str} {p pos : Pos} {e : Expr} {es : List Expr} {ees : Es} (hg : L2.Gl X x) (hm : X.mg x = Option.none) (hv : bootBuiltins x = some (.builtin id))
    (hne : x ≠ "__name__") (hd : (x == ("__debug__" : PySem.Str)) = false) (hn : (e :: es).all nst = true) (ha : PA X (e :: es) (tVs G cl Ex ees)) : PE X (.Call (.Name x p) (e :: es) [] pos) (tE G cl Ex (.bi b ees)) := by
  have hn := Bool.and_eq_true_iff.mp (show (nst e && es.all nst) = true from hn)
  have R := bi_R (X := X) hK hc b
  rw [hid] at R
  refine (pe_callB R hg hm hv ha hne hd (star_cons hn.1) (star_any hn.2)).imp fun σ H Q q => ?_
  obtain ⟨ρ, α, M, Z, S, er, P⟩ := q
  unfold evE at P
  refine ⟨ρ, α, M, Z, S, er, P.bind.imp fun ds α1 M1 Z1 H1 x1 S1 P1 vs rs => ?_⟩
  obtain ⟨z, e3, P2⟩ := Post.look dbi_exc P1
  exact ⟨α1, M1, Z1, ds, z, S1, rs, e3, P2.val⟩
theorem d_biT (hK : X.K = G.K) (hc : X.calm = true) {b : Bi} {id : String} (hid : bval b = .type id) {x : PySem.Str} {p pos : Pos} {e : Expr} {es : List Expr} {ees : Es} (hg : L2.Gl X x) (hm : X.mg x = Option.none) (hv : bootBuiltins x = some (.type id))
    (hne : x ≠ "__name__") (hd : (x == ("__debug__" : PySem.Str)) = false) (hn : (e :: es).all nst = true) (ha : PA X (e :: es) (tVs G cl Ex ees)) : PE X (.Call (.Name x p) (e :: es) [] pos) (tE G cl Ex (.bi b ees)) := by
  have hn := Bool.and_eq_true_iff.mp (show (nst e && es.all nst) = true from hn)
  have R := bi_R (X := X) hK hc b
  rw [hid] at R
  refine (pe_callTy R hg hm hv ha hne hd (star_cons hn.1) (star_any hn.2)).imp fun σ H Q q => ?_
  obtain ⟨ρ, α, M, Z, S, er, P⟩ := q
  unfold evE at P
  refine ⟨ρ, α, M, Z, S, er, P.bind.imp fun ds α1 M1 Z1 H1 x1 S1 P1 vs rs => ?_⟩
  obtain ⟨z, e3, P2⟩ := Post.look dbi_exc P1
  exact ⟨α1, M1, Z1, ds, z, S1, rs, e3, P2.val⟩
/-- isinstance(a, type) -/
theorem d_isi (hK : X.K = G.K) {a : Expr} {ea : E} {t : Ty} {y : PySem.Str} {p p2 pos : Pos} (hg : L2.Gl X "isinstance") (hm : X.mg "isinstance" = Option.none) (hg2 : L2.Gl X y) (hm2 : X.mg y = Option.none) (hv2 : bootBuiltins y = some (.type (tval t)))
    (hne : y ≠ "__name__") (hd : (y == ("__debug__" : PySem.Str)) = false) (hn : nst a = true) (ha : PE X a (tE G cl Ex ea)) : PE X (.Call (.Name "isinstance" p) [a, .Name y p2] [] pos) (tE G cl Ex (.isi ea t)) :=
  (pe_callB call_isi hg hm (by decide +kernel) (pa_cons ha (pa_cons (pe_bltn (v := .ty (tval t)) hg2 hm2 hv2 rfl hne hd) pa_nil) (star_cons hn)) (he := star_cons hn)).imp fun σ H Q q => by
    obtain ⟨ρ, α, M, Z, S, er, P⟩ := q
    unfold evE at P
    refine one S er P fun w1 α1 M1 Z1 H1 v1 S1 x1 r1 P1 => ?_
    obtain ⟨x, e1, P2⟩ := Post.look view_exc P1
    obtain ⟨z, e2, P3⟩ := Post.look disi_exc P2
    exact isi_R hK S1 (view_rel S1 r1 e1) e2 P3.val
end
end PyD

set_option Elab.async false
set_option linter.all false
set_option maxRecDepth 100000
set_option maxHeartbeats 4000000
/-! PyD8: what is walked: lists, tuples, texts, ranges, enumerate, zip; as data. -/
namespace PySem
open AutoSeq1 (wpAny_loadPart')
/-- enumerate(v), v told by how its iterator begins -/
theorem meets_enumerate_newB1 {v : Value} {o : Obj} {H : Heap → Prop} (B : Begins v o H) :
    Meets (Builtin.«enumerate.__new__» ⟨[.type "enumerate", v], []⟩) (fun _ R s => H s.heap ∧
      R (.ok (.ret (.ref (s.heap.push o).objs.size))) { s with heap := (s.heap.push o).push { cls := .type "enumerate", data := .fields #[.none, .bool false, .ref s.heap.objs.size, rawInt 0, .none, .none] } }) :=
  .of_wp fun prog w A R s h => by
    obtain ⟨hp, g, d, tk, os⟩ := s; obtain ⟨h1, h⟩ := h
    have hsub := sub_enumerate
    have q1 : ∀ {A' : Around} {E : Value → Shared → Prop} {Q : Value → Shared → Prop}, Q (.ref hp.objs.size) ⟨hp.push o, g, d, tk, os⟩ → wpAny (model prog w) A' (pyIter v) Q E ⟨hp, g, d, tk, os⟩ :=
      fun q => B.iter prog w _ _ ⟨hp, g, d, tk, os⟩ _ h1 q
    wp_walk using q1
    refine wpAny_stack_any fun st => wpAny_pure ?_
    split
    · rename_i c _ _ _ _ _
      cases (c == Value.type "enumerate")
      · wp_walk using q1
        exact ⟨_, rfl, h⟩
      · wp_walk using q1
        exact ⟨_, rfl, h⟩
    · wp_walk using q1
      exact ⟨_, rfl, h⟩
section
variable {prog : Program} {w : World} {A : Around} {E : Value → Shared → Prop} {s : Shared}
theorem enum_begins1 {v : Value} {o : Obj} {H : Heap → Prop} {Q : Value → Shared → Prop} (B : Begins v o H) (h1 : H s.heap)
    (h : ∀ h', IsEnum h' (s.heap.objs.size + 1) s.heap.objs.size 0 .none → h'.get? s.heap.objs.size = some o → h'.objs.size = s.heap.objs.size + 2 →
      (∀ b o, s.heap.get? b = some o → h'.get? b = some o) → Q (.ref (s.heap.objs.size + 1)) { s with heap := h' }) :
    wpAny (model prog w) A (call (.type "enumerate") [v]) Q E s := by
  refine callType_new F.called_enumerate (by decide) (F.typeCall_enumerate_1 _) (F.newCall_enumerate_1 _) (fun obj => F.args_object_init_2 obj _) F.entry_enumerate_new
    (meets_enumerate_newB1 B) ⟨h1, ?_⟩
  have hz : (s.heap.push o).objs.size = s.heap.objs.size + 1 := Heap.size_push ..
  show _ ∧ _
  rw [hz]
  have he : IsEnum ((s.heap.push o).push { cls := .type "enumerate", data := .fields #[.none, .bool false, .ref s.heap.objs.size, rawInt 0, .none, .none] }) (s.heap.objs.size + 1) s.heap.objs.size 0 .none := by
    have := Heap.get?_push_size (s.heap.push o) (o := { cls := .type "enumerate", data := .fields #[.none, .bool false, .ref s.heap.objs.size, rawInt 0, .none, .none] }) rfl
    rw [hz] at this; exact this
  exact ⟨⟨_, he, rfl⟩, h _ he (Heap.get?_push_of_some _ (Heap.get?_push_size _ B.free)) (by rw [Heap.size_push, hz]) fun b o x => Heap.get?_push_of_some _ (Heap.get?_push_of_some _ x)⟩
end
end PySem
namespace PyD
open PySem PySem.Spec PyProof.Rows L2
/-- what is walked -/
inductive SK where
  | l (a : Addr) | t (a : Addr) | s (z : PySem.Str)
def SK.at_ (k : SK) (tk : Tok) : Src := match k with
  | .l a => .l a
  | .t a => .t a
  | .s z => .s z tk
def SrcK (K : PySem.W.Frag) (H : Hp) (x : V) : SK → Prop
  | .l a => x = .ref a ∧ ∃ xs, SqL K H a xs
  | .t a => x = .ref a ∧ ∃ xs, SqT K H a xs
  | .s z => x = .str z
def ItS (K : PySem.W.Frag) : Src → L2.It
  | Src.l a => Itl K a
  | Src.t a => Itt K a
  | Src.s z _ => Its z
theorem turn_src {P : Program} {w : World} {K : PySem.W.Frag} {tg : Expr} (it : Addr) (x : Src) : Turn P w K tg (ItS K x) [it] it (fun i h => x.itP it i h) := by
  cases x with
  | l a => exact turn_list a it
  | t a => exact turn_tuple a it
  | s z tk =>
    refine turn_str it z tk (strIterType z) ?_
    unfold strIterType
    split
    · exact .inl rfl
    · exact .inr rfl
section
variable {X : Cx} {pins : List (Addr × Obj)} {σ : L2.St} {H : Hp} {s : Shared}
theorem sk_begins (I : Inv X pins σ H s) {x : V} {u : Value} {k : SK} (h : SrcK X.K H x k) (r : RelV x u) : ∃ tk o Hc, Begins u o Hc ∧ Hc s.heap ∧ ∀ (h' : Heap) (it : Addr), h'.get? it = some o → (k.at_ tk).itP it 0 h' := by
  cases k with
  | l a =>
    obtain ⟨rfl, xs, h⟩ := h
    cases r
    obtain ⟨its, rv, p, hz⟩ := I.list h
    exact ⟨0, _, _, begins_list a its.toArray, p.isList, fun h' it e => (show h'.IsListIter it a 0 from ⟨_, e, rfl, rfl⟩)⟩
  | t a =>
    obtain ⟨rfl, xs, h⟩ := h
    cases r
    obtain ⟨its, rv, p, hz⟩ := I.tuple h
    exact ⟨0, _, _, begins_tuple a its.toArray, (show s.heap.IsTuple a its.toArray from p), fun h' it e => (show h'.IsTupleIter it a 0 from ⟨_, e, rfl, rfl⟩)⟩
  | s z =>
    have h : x = .str z := h
    subst h
    obtain ⟨t, rfl⟩ := r
    exact ⟨t, _, _, begins_text z t, trivial, fun h' it e => (show h'.IsStrIter it (strIterType z) z t 0 from ⟨_, e, rfl, rfl⟩)⟩
end
section
variable {X : Cx} {tg : Expr}
def iSrc (K : PySem.W.Frag) (te : TE) : TI := fun σ H R => te σ H fun x H1 => ∃ k, SrcK K H1 x k ∧ ∀ t, R (ItS K (k.at_ t)) H1
theorem pi_src {e : Expr} {te : TE} (he : PE X e te) : PI X tg e (iSrc X.K te) := by
  refine ⟨fun pins s σ H R I h => ?_⟩
  refine thn (he.run pins s σ H _ I h) fun v s1 ⟨x, H1, I1, r1, k, hk, q⟩ => ?_
  obtain ⟨tk, o, Hc, B, h1, hi⟩ := sk_begins I1 hk r1
  exact B.iter X.prog X.w _ _ s1 _ h1 (pi_one (tk := s1.toks) I1 o (turn_src _ (k.at_ tk)) (hi _ _ (Heap.get?_push_size _ B.free)) (q tk))
def iEnS (K : PySem.W.Frag) (te : TE) : TI := fun σ H R => te σ H fun x H1 => ∃ k, SrcK K H1 x k ∧ ∀ t, R (ItE K (k.at_ t)) H1
theorem pi_enS {e : Expr} {te : TE} {p pos tpos : Pos} {elts : List Expr} {kk : Nat} (hg : L2.Gl X "enumerate") (hm : X.mg "enumerate" = none) (hn : nst e = true) (he : PE X e te) :
    PI X (.Tuple elts kk tpos) (.Call (.Name "enumerate" p) [e] [] pos) (iEnS X.K te) := by
  refine ⟨fun pins s σ H R I h => ?_⟩
  refine Call_ (ld_blt I hg hm boot_enumerate (PyProof.Rows.callWith_type1 (args_cons (thn (he.run pins s σ H _ I h) fun u s1 ⟨x, H1, I1, r1, k, hk, q⟩ => args_nil ?_) (star_cons hn)) (star_cons hn)))
  obtain ⟨tk, o, Hc, B, h1, hi⟩ := sk_begins I1 hk r1
  refine enum_begins1 B h1 fun h' hE ho hsz hkp => wpAny_pyIter_enum hE ?_
  have I2 : Inv X pins σ H1 { s1 with heap := h' } := I1.kept (t' := s1.toks) hkp
  refine ⟨s1.heap.objs.size + 1, [s1.heap.objs.size + 1, s1.heap.objs.size], _, _, H1, rfl, I2, turn_enumS (k.at_ tk) (s1.heap.objs.size + 1) s1.heap.objs.size, ⟨⟨.none, hE⟩, hi _ _ ho, Nat.succ_ne_self _⟩, fun b hb => ?_, q tk⟩
  have e' : b = s1.heap.objs.size + 1 ∨ b = s1.heap.objs.size := by simpa using hb
  have hle : s1.heap.objs.size ≤ b := by
    rcases e' with z | z
    · rw [z]; exact Nat.le_add_right _ _
    · rw [z]; exact Nat.le_refl _
  exact I1.fpOk hle (I1.hok.fresh hle)
theorem zip_ne (n : Nat) : n + 4 ≠ n + 2 ∧ n + 4 ≠ n + 3 ∧ n + 4 ≠ n ∧ n + 4 ≠ n + 1 ∧ n + 2 ≠ n + 3 ∧ n + 2 ≠ n ∧ n + 2 ≠ n + 1 ∧ n + 3 ≠ n ∧ n + 3 ≠ n + 1 ∧ n ≠ n + 1 := by omega
theorem zip_le {n c : Nat} (h : c = n + 4 ∨ c = n + 2 ∨ c = n + 3 ∨ c = n ∨ c = n + 1) : n ≤ c := by omega
def iZpS (K : PySem.W.Frag) (ta tb : TE) : TI := fun σ H R => ta σ H fun x H1 => tb σ H1 fun y H2 => ∃ k k2, SrcK K H2 x k ∧ SrcK K H2 y k2 ∧ ∀ t t2, R (ItZ K (k.at_ t) (k2.at_ t2)) H2
theorem pi_zpS {e e2 : Expr} {ta tb : TE} {p pos tpos : Pos} {elts : List Expr} {kk : Nat} (hg : L2.Gl X "zip") (hm : X.mg "zip" = none) (hn : nst e = true) (hn2 : nst e2 = true) (he : PE X e ta) (he2 : PE X e2 tb) :
    PI X (.Tuple elts kk tpos) (.Call (.Name "zip" p) [e, e2] [] pos) (iZpS X.K ta tb) := by
  refine ⟨fun pins s σ H R I h => ?_⟩
  refine Call_ (ld_blt I hg hm PyProof.Rows.boot_zip (PyProof.Rows.callWith_type1 (args_cons (thn (he.run pins s σ H _ I h) fun u s1 ⟨x, H1, I1, r1, q1⟩ => args_cons (thn (he2.run pins s1 σ H1 _ I1 q1) fun u2 s2 ⟨y, H2, I2, r2, k, k2, hk, hk2, q⟩ => args_nil ?_) (star_cons hn2)) (star_cons hn)) (star_cons hn) (star_any (es := [e2]) (by simp [hn2]))))
  obtain ⟨tk, o, Hc, B, h1, hi⟩ := sk_begins I2 hk r1
  obtain ⟨tk2, o2, Hc2, B2, h2, hi2⟩ := sk_begins I2 hk2 r2
  refine zip_begins2 B B2 h1 h2 fun h' hz hTI hTO ho1 ho2 hsz hkp => wpAny_pyIter_zip hz ?_
  have I3 : Inv X pins σ H2 { s2 with heap := h' } := I2.kept (t' := s2.toks) hkp
  refine ⟨s2.heap.objs.size + 4, [s2.heap.objs.size + 4, s2.heap.objs.size + 2, s2.heap.objs.size + 3, s2.heap.objs.size, s2.heap.objs.size + 1], _, _, H2, rfl, I3,
    turn_zipS (k.at_ tk) (k2.at_ tk2) _ _ _ _ _ (zip_ne s2.heap.objs.size), ⟨hz, hTI, ⟨_, _, hTO⟩, hi _ _ ho1, hi2 _ _ ho2⟩, fun c hcm => ?_, q tk tk2⟩
  have e' : c = s2.heap.objs.size + 4 ∨ c = s2.heap.objs.size + 2 ∨ c = s2.heap.objs.size + 3 ∨ c = s2.heap.objs.size ∨ c = s2.heap.objs.size + 1 := by simpa using hcm
  have hle : s2.heap.objs.size ≤ c := zip_le e'
  exact I2.fpOk hle (I2.hok.fresh hle)
end
/-! ### as data -/
structure WkD (G : Gl) (J : L2.It) (ds : List D) (Z0 : Hp) : Prop where
  goes : ∀ i α M Z H, i < ds.length → Same Z0 Z → SR G α M Z H → J.go i H
  stops : ∀ α M Z H, Same Z0 Z → SR G α M Z H → J.stop ds.length H
  yld : ∀ i x α M Z H H', i < ds.length → Same Z0 Z → SR G α M Z H → J.yld i H x H' → ∃ d Z', ds[i]? = some d ∧ Rp G Z' d x ∧ SR G α M Z' H' ∧ Ext α M Z H α M Z' H'
section
variable {G : Gl} {Z : Hp}
theorem Src.sub {K : PySem.W.Frag} {H H' : Hp} (e : Same H H') {x : Src} {vs : List V} (h : x.at_ K H vs) : x.at_ K H' vs := by
  cases x with
  | l a => exact L2.Same.seq e h
  | t a => exact Same.sqT e h
  | s z t => exact h
theorem Same.of_sub {α : List Addr} {M : Ms} {Z H : Hp} (S : SR G α M Z H) : Same Z H := S.sub
/-- a thing that is walked, by its items -/
theorem items_src {x : D} {v : V} {ds : List D} (r : Rp G Z x v) (e : itemsOf x = .ok ds) : ∃ k vs, Rps G Z ds vs ∧ (∀ t, (k.at_ t : Src).at_ G.K Z vs) ∧ ∀ H, Same Z H → SrcK G.K H v k := by
  cases r with
  | tup h hs => cases e; exact ⟨.t _, _, hs, fun _ => h, fun H s => ⟨rfl, _, Same.sqT s h⟩⟩
  | lst h hs => cases e; exact ⟨.l _, _, hs, fun _ => SqL.of h, fun H s => ⟨rfl, _, SqL.of (s _ _ h)⟩⟩
  | str z =>
    cases e
    refine ⟨.s z, z.cps.toList.map fun c => V.str ⟨#[c]⟩, ?_, fun _ => rfl, fun H s => rfl⟩
    generalize z.cps.toList = l
    induction l with
    | nil => exact .nil
    | cons c r ih => exact .cons (.str _) ih
  | _ => cases e
theorem wkd_src {x : Src} {ds : List D} {vs : List V} (r : Rps G Z ds vs) (h : x.at_ G.K Z vs) : WkD G (ItS G.K x) ds Z := by
  have hl := r.length
  have len : ∀ z : PySem.Str, (Src.s z 0).at_ G.K Z vs → z.cps.size = vs.length := fun z e => by
    have e : vs = z.cps.toList.map fun c => V.str ⟨#[c]⟩ := e
    rw [e]; simp
  refine ⟨fun i α M Z1 H hi s S => ?_, fun α M Z1 H s S => ?_, fun i y α M Z1 H H' hi s S y' => ?_⟩
  · have hv : i < vs.length := by omega
    have q := Src.sub (s.trans S.sub) h
    cases x with
    | l a => exact ⟨vs, vs[i], q, by simp [hv]⟩
    | t a => exact ⟨vs, vs[i], q, by simp [hv]⟩
    | s z t => exact (show i < z.cps.size by rw [len z h]; exact hv)
  · have q := Src.sub (s.trans S.sub) h
    cases x with
    | l a => exact ⟨vs, q, by omega⟩
    | t a => exact ⟨vs, q, by omega⟩
    | s z t => exact (show z.cps.size ≤ ds.length by rw [len z h]; omega)
  · have hv : i < vs.length := by omega
    have q := Src.sub (s.trans S.sub) h
    have fin : H' = H → vs[i]? = some y → ∃ d Z', ds[i]? = some d ∧ Rp G Z' d y ∧ SR G α M Z' H' ∧ Ext α M Z1 H α M Z' H' := fun e1 e2 => by
      subst e1
      obtain ⟨d, e3, rr⟩ := r.get' e2
      exact ⟨d, Z1, e3, rr.mono s, S, .refl⟩
    cases x with
    | l a => exact fin y'.1 (y'.2 vs q)
    | t a => exact fin y'.1 (y'.2 vs q)
    | s z t =>
      obtain ⟨e1, c, e2, e3⟩ := y'
      refine fin e1 ?_
      have h : vs = z.cps.toList.map fun c => V.str ⟨#[c]⟩ := h
      rw [h, List.getElem?_map, Array.getElem?_toList, e2, e3]
      rfl
theorem enumD_length : ∀ (ds : List D) (i : Nat), (enumD i ds).length = ds.length
  | [], _ => rfl
  | _ :: ds, i => by rw [enumD, List.length_cons, List.length_cons, enumD_length ds]
theorem enumD_get : ∀ {ds : List D} {k i : Nat} {d : D}, ds[i]? = some d → (enumD k ds)[i]? = some (.tup [.int ((k + i : Nat) : Int), d])
  | _ :: _, k, 0, d, e => by simp at e; subst e; rfl
  | _ :: ds, k, i + 1, d, e => by
    rw [enumD, List.getElem?_cons_succ, enumD_get (ds := ds) (k := k + 1) (i := i) (by simpa using e)]
    have : k + 1 + i = k + (i + 1) := by omega
    rw [this]
theorem wkd_enum {x : Src} {ds : List D} {vs : List V} (r : Rps G Z ds vs) (h : x.at_ G.K Z vs) : WkD G (ItE G.K x) (enumD 0 ds) Z := by
  have hl := r.length
  refine ⟨fun i α M Z1 H hi s S => ?_, fun α M Z1 H s S => ?_, fun i y α M Z1 H H' hi s S y' => ?_⟩
  · rw [enumD_length] at hi
    have hv : i < vs.length := by omega
    exact ⟨vs, vs[i], Src.sub (s.trans S.sub) h, by simp [hv]⟩
  · rw [enumD_length]
    exact ⟨vs, Src.sub (s.trans S.sub) h, hl.symm⟩
  · rw [enumD_length] at hi
    have hv : i < vs.length := by omega
    obtain ⟨T, v, rfl, hT, rfl, hy⟩ := y'
    have e2 := hy vs (Src.sub (s.trans S.sub) h)
    obtain ⟨d, e3, rr⟩ := r.get' e2
    have q := enumD_get (k := 0) e3
    rw [Nat.zero_add] at q
    exact ⟨_, _, q, .tup (SqT.of upd_same) (.cons (.int _) (.cons ((rr.mono s).mono (same_upd (S.zfree hT))) .nil)), (S.new hT fun ps z => by cases z).1, (S.new hT fun ps z => by cases z).2⟩
theorem zipD_length : ∀ (as bs : List D), (zipD as bs).length = min as.length bs.length
  | [], _ => by simp [zipD]
  | _ :: _, [] => by simp [zipD]
  | _ :: as, _ :: bs => by rw [zipD, List.length_cons, zipD_length as bs, List.length_cons, List.length_cons]; omega
theorem zipD_get : ∀ {as bs : List D} {i : Nat} {a b : D}, as[i]? = some a → bs[i]? = some b → (zipD as bs)[i]? = some (.tup [a, b])
  | _ :: _, _ :: _, 0, a, b, h1, h2 => by simp at h1 h2; subst h1 h2; rfl
  | _ :: as, _ :: bs, i + 1, a, b, h1, h2 => by
    rw [zipD, List.getElem?_cons_succ]
    exact zipD_get (as := as) (bs := bs) (i := i) (by simpa using h1) (by simpa using h2)
theorem wkd_zip {x y : Src} {as bs : List D} {vs us : List V} (r : Rps G Z as vs) (h : x.at_ G.K Z vs) (r2 : Rps G Z bs us) (h2 : y.at_ G.K Z us) : WkD G (ItZ G.K x y) (zipD as bs) Z := by
  have hl := r.length
  have hl2 := r2.length
  refine ⟨fun i α M Z1 H hi s S => ?_, fun α M Z1 H s S => ?_, fun i z α M Z1 H H' hi s S y' => ?_⟩
  · rw [zipD_length] at hi
    have hv : i < vs.length := by omega
    have hv2 : i < us.length := by omega
    exact ⟨vs, us, vs[i], us[i], Src.sub (s.trans S.sub) h, Src.sub (s.trans S.sub) h2, by simp [hv], by simp [hv2]⟩
  · rw [zipD_length]
    exact ⟨vs, us, Src.sub (s.trans S.sub) h, Src.sub (s.trans S.sub) h2, by omega⟩
  · obtain ⟨T, v, u, rfl, hT, rfl, hy, hy2⟩ := y'
    have e2 := hy vs (Src.sub (s.trans S.sub) h)
    have e3 := hy2 us (Src.sub (s.trans S.sub) h2)
    obtain ⟨d, e4, rr⟩ := r.get' e2
    obtain ⟨d2, e5, rr2⟩ := r2.get' e3
    have sm := same_upd (o := HO.tup [v, u]) (S.zfree hT)
    exact ⟨_, _, zipD_get e4 e5, .tup (SqT.of upd_same) (.cons ((rr.mono s).mono sm) (.cons ((rr2.mono s).mono sm) .nil)), (S.new hT fun ps z => by cases z).1, (S.new hT fun ps z => by cases z).2⟩
theorem rgD_get {a b : Int} {i : Nat} (h : i < (b - a).toNat) : (rgD a b)[i]? = some (.int (a + (i : Nat))) := by
  unfold rgD
  rw [List.getElem?_map, List.getElem?_range h]
  rfl
theorem rgD_length (a b : Int) : (rgD a b).length = (b - a).toNat := by
  unfold rgD; simp
theorem wkd_rg (a b : Int) : WkD G (Itr a (b - a).toNat) (rgD a b) Z := by
  refine ⟨fun i α M Z1 H hi s S => ?_, fun α M Z1 H s S => ?_, fun i z α M Z1 H H' hi s S y' => ?_⟩
  · rw [rgD_length] at hi; exact hi
  · rw [rgD_length]; exact Nat.le_refl _
  · rw [rgD_length] at hi
    obtain ⟨rfl, rfl⟩ := y'
    exact ⟨_, Z1, rgD_get hi, .int _, S, .refl⟩
end
section
variable (G : Gl) (cl : Nat → List W → Ms → R (W × Ms)) (Ex : XK)
def tI (ir : Ir) : TI := fun σ H R => ∃ ρ α M Z, SR G α M Z H ∧ ER G α Z ρ σ ∧ Post G Ex α M Z H (evI cl ir ρ M) fun ds _ _ Z' H' => ∀ J, WkD G J ds Z' → R J H'
end
section
variable {X : Cx} {G : Gl} {cl : Nat → List W → Ms → R (W × Ms)} {Ex : XK} {tg : Expr}
theorem d_seq (hK : X.K = G.K) {e : Expr} {ee : E} (he : PE X e (tE G cl Ex ee)) : PI X tg e (tI G cl Ex (.seq ee)) :=
  (pi_src he).imp fun σ H R q => by
    obtain ⟨ρ, α, M, Z, S, er, P⟩ := q
    unfold evI at P
    refine one S er P fun w1 α1 M1 Z1 H1 v1 S1 x1 r1 P1 => ?_
    obtain ⟨x, M', Z', S', x', r', P'⟩ := post_frz S1 r1 P1
    obtain ⟨ds, e2, P2⟩ := Post.look itemsOf_exc P'
    obtain ⟨k, vs, rr, ha, hs⟩ := items_src r' e2
    rw [hK]
    exact ⟨k, hs _ S'.sub, fun t => P2.ok S' _ (wkd_src rr (ha t))⟩
theorem d_enum (hK : X.K = G.K) {e : Expr} {ee : E} {p pos tpos : Pos} {elts : List Expr} {kk : Nat} (hg : L2.Gl X "enumerate") (hm : X.mg "enumerate" = none) (hn : nst e = true) (he : PE X e (tE G cl Ex ee)) :
    PI X (.Tuple elts kk tpos) (.Call (.Name "enumerate" p) [e] [] pos) (tI G cl Ex (.enum ee)) :=
  (pi_enS hg hm hn he).imp fun σ H R q => by
    obtain ⟨ρ, α, M, Z, S, er, P⟩ := q
    unfold evI at P
    refine one S er P fun w1 α1 M1 Z1 H1 v1 S1 x1 r1 P1 => ?_
    obtain ⟨x, M', Z', S', x', r', P'⟩ := post_frz S1 r1 P1
    obtain ⟨ds, e2, P2⟩ := Post.look itemsOf_exc P'
    obtain ⟨k, vs, rr, ha, hs⟩ := items_src r' e2
    rw [hK]
    exact ⟨k, hs _ S'.sub, fun t => P2.ok S' _ (wkd_enum rr (ha t))⟩
theorem d_zip (hK : X.K = G.K) {e e2 : Expr} {ee ee2 : E} {p pos tpos : Pos} {elts : List Expr} {kk : Nat} (hg : L2.Gl X "zip") (hm : X.mg "zip" = none) (hn : nst e = true) (hn2 : nst e2 = true) (he : PE X e (tE G cl Ex ee)) (he2 : PE X e2 (tE G cl Ex ee2)) :
    PI X (.Tuple elts kk tpos) (.Call (.Name "zip" p) [e, e2] [] pos) (tI G cl Ex (.zip ee ee2)) :=
  (pi_zpS hg hm hn hn2 he he2).imp fun σ H R q => by
    obtain ⟨ρ, α, M, Z, S, er, P⟩ := q
    unfold evI at P
    refine one S er P fun w1 α1 M1 Z1 H1 v1 S1 x1 r1 P1 => ?_
    obtain ⟨x, M', Z', S', x', r', P'⟩ := post_frz S1 r1 P1
    refine one S' (er.mono (x1.trans x').same (x1.trans x').pre) P' fun w2 α2 M2 Z2 H2 v2 S2 x2 r2 P2 => ?_
    obtain ⟨y, M3, Z3, S3, x3, r3, P3⟩ := post_frz S2 r2 P2
    obtain ⟨ds, e2, P4⟩ := Post.look itemsOf_exc P3
    obtain ⟨es, e3, P5⟩ := Post.look itemsOf_exc P4
    have r'' := r'.mono (x2.trans x3).same
    obtain ⟨k, vs, rr, ha, hs⟩ := items_src r'' e2
    obtain ⟨k2, us, rr2, ha2, hs2⟩ := items_src r3 e3
    rw [hK]
    exact ⟨k, k2, hs _ S3.sub, hs2 _ S3.sub, fun t t2 => P5.ok S3 _ (wkd_zip rr (ha t) rr2 (ha2 t2))⟩
theorem d_rg1 {e : Expr} {ee : E} {p pos : Pos} (hg : L2.Gl X "range") (hm : X.mg "range" = none) (hn : nst e = true) (he : PE X e (tE G cl Ex ee)) : PI X tg (.Call (.Name "range" p) [e] [] pos) (tI G cl Ex (.rg1 ee)) :=
  (pi_range1 hg hm (pa_cons he pa_nil (star_cons hn)) (star_cons hn)).imp fun σ H R q => by
    obtain ⟨ρ, α, M, Z, S, er, P⟩ := q
    unfold evI at P
    refine one S er P fun w1 α1 M1 Z1 H1 v1 S1 x1 r1 P1 => ?_
    obtain ⟨x, e1, P2⟩ := Post.look view_exc P1
    obtain ⟨n, rfl, P3⟩ := Post.asI P2
    obtain ⟨c, P4⟩ := Post.stuckIf P3
    have c := of_decide_eq_true c
    have hv := (view_rel S1 r1 e1).int
    subst hv
    have q := wkd_rg (G := G) (Z := Z1) 0 n
    rw [Int.sub_zero] at q
    exact ⟨n, rfl, c.1, c.2, P4.ok S1 _ q⟩
theorem d_rgi2 {e e2 : Expr} {ee ee2 : E} {p pos : Pos} (hg : L2.Gl X "range") (hm : X.mg "range" = none) (hn : nst e = true) (hn2 : nst e2 = true) (he : PE X e (tE G cl Ex ee)) (he2 : PE X e2 (tE G cl Ex ee2)) : PI X tg (.Call (.Name "range" p) [e, e2] [] pos) (tI G cl Ex (.rg2 ee ee2)) :=
  (pi_range2 hg hm (pa_cons he (pa_cons he2 pa_nil (star_cons hn2)) (star_cons hn)) (by rw [star_cons hn, star_cons hn2]; rfl) (star_cons hn2)).imp fun σ H R q => by
    obtain ⟨ρ, α, M, Z, S, er, P⟩ := q
    unfold evI at P
    refine one S er P fun w1 α1 M1 Z1 H1 v1 S1 x1 r1 P1 => ?_
    obtain ⟨x, e1, P2⟩ := Post.look view_exc P1
    refine one S1 (er.mono x1.same x1.pre) P2 fun w2 α2 M2 Z2 H2 v2 S2 x2 r2 P3 => ?_
    obtain ⟨y, e2, P4⟩ := Post.look view_exc P3
    obtain ⟨m, rfl, P5⟩ := Post.asI P4
    obtain ⟨n, rfl, P6⟩ := Post.asI P5
    obtain ⟨c, P7⟩ := Post.stuckIf P6
    have c := of_decide_eq_true c
    have hv := (view_rel S1 r1 e1).int
    have hv2 := (view_rel S2 r2 e2).int
    subst hv hv2
    exact ⟨m, n, rfl, c, P7.ok S2 _ (wkd_rg m n)⟩
end
end PyD

set_option Elab.async false
set_option linter.all false
set_option maxRecDepth 100000
set_option maxHeartbeats 4000000
/-! PyR1: t[::-1] of a tuple; of a list or a tuple. -/
namespace PyD
open PySem PySem.Spec PyProof.Rows L2
section
variable {prog : Program} {w : World} {A : Around} {E : Value → Shared → Prop} {s : Shared}
theorem adj_rev (n : Nat) : Builtin.Slice.sliceAdjust none none (-1) (n : Int) = ((n : Int) - 1, -1) := by
  unfold Builtin.Slice.sliceAdjust
  first
  | rfl
  | simp
theorem plc_rev (n : Nat) : Builtin.Slice.slicePlaces ((n : Int) - 1) (-1) (-1) = n := by
  unfold Builtin.Slice.slicePlaces
  have h1 : ¬ ((-1 : Int) > 0) := by decide
  simp only [h1, if_false]
  simp only [Int.neg_neg, Int.ediv_one]
  split <;> omega
theorem sa_rev {sl : Addr} {vl vu vs : Value} {n : Nat} {Q : Int × Int × Nat → Shared → Prop} (hs : s.heap.IsSliceOf sl vl vu vs) (pl : IsPart vl none) (pu : IsPart vu none) (ps : IsPart vs (some (-1)))
    (h : Q ((n : Int) - 1, -1, n) s) : wpAny (model prog w) A (Builtin.Slice.sliceApplied (.ref sl) (pure (n : Int))) Q E s := by
  obtain ⟨os, hos, hcs, hds⟩ := id hs
  unfold Builtin.Slice.sliceApplied Builtin.Slice.sliceFields
  refine wpAny_bind (wpAny_bind (wpAny_field hos hds (x := vl) rfl (wpAny_bind (wpAny_field hos hds (x := vu) rfl (wpAny_bind (wpAny_field hos hds (x := vs) rfl (wpAny_pure ?_)))))))
  refine wpAny_bind (HT.slicePart_ ps ?_)
  show wpAny _ _ (if ((-1 : Int) == 0) = true then _ else _) _ _ s
  rw [if_neg (by decide)]
  refine wpAny_bind (HT.slicePart_ pl (wpAny_bind (HT.slicePart_ pu (wpAny_bind (wpAny_pure ?_)))))
  show wpAny _ _ (match Builtin.Slice.sliceAdjust none none (-1) (n : Int) with | (lo, hi) => pure (lo, (-1 : Int), Builtin.Slice.slicePlaces lo hi (-1))) _ _ s
  rw [adj_rev n]
  show wpAny _ _ (pure ((n : Int) - 1, (-1 : Int), Builtin.Slice.slicePlaces ((n : Int) - 1) (-1) (-1))) _ _ s
  rw [plc_rev]
  exact wpAny_pure h
theorem pick_rev (xs : Array Value) : ((List.range xs.size).filterMap fun (k : Nat) => xs[((xs.size : Int) - 1 + (k : Int) * -1).toNat]?).toArray = xs.toList.reverse.toArray := by
  rw [← PySem.W.krv_pick]
  unfold slicePick
  rw [PySem.W.krv_bounds]
  show _ = ((sliceRange ((xs.size : Int) - 1) (-1) (-1)).filterMap (xs[·]?)).toArray
  rw [PySem.W.krv_sliceRange, List.filterMap_map]
  congr 1
  have e : (fun (k : Nat) => xs[((xs.size : Int) - 1 + (k : Int) * -1).toNat]?) = ((fun x => xs[x]?) ∘ fun k => xs.size - 1 - k) := by
    funext k
    have : ((xs.size : Int) - 1 + (k : Int) * -1).toNat = xs.size - 1 - k := by omega
    rw [this]
    rfl
  rw [e]
theorem getItem_tuple_rev {t sl : Addr} {items : Array Value} {vl vu vs : Value} {Q : Value → Shared → Prop} (ht : IsTup s.heap t items) (hs : s.heap.IsSliceOf sl vl vu vs) (pl : IsPart vl none) (pu : IsPart vu none) (ps : IsPart vs (some (-1)))
    (h : Q (.ref s.heap.objs.size) { s with heap := s.heap.push { cls := .type "tuple", data := .seq items.toList.reverse.toArray } })
    (hsz : items.size ≤ sizeLine) : wpAny (model prog w) A (getItem (.ref t) (.ref sl)) Q E s := by
  have htake : sizeOk (.seq items.toList.reverse.toArray) := by
    show items.toList.reverse.toArray.size ≤ sizeLine
    rw [List.size_toArray, List.length_reverse, Array.length_toList]
    exact hsz
  obtain ⟨os, hos, hcs, hds⟩ := id hs
  have hTs : s.TypeIs (.ref sl) "slice" := ⟨os, hos, hcs⟩
  unfold getItem
  try with_reducible refine wpAny_holding ?_
  first | refine wpAny_bind (wpAny_pure ?_) | skip
  refine wpAny_bind (wpAny_sequenceKey ht.typeIs (by decide) ?_)
  refine wpAny_bind (wpAny_callSpecial?_slot (name := Str.ofString "__getitem__") ht.typeIs PyProof.Rows.slot_tuple_getitem
    (wpAny_call_entry PyProof.Rows.slot_tuple_getitem ht.typeIs entry_tuple_getitem ?_ (args_tuple_getitem _ _)))
  show wpAny _ _ (Builtin.Tuple.tupleItemsOf (.ref t) >>= _) _ _ s
  refine wpAny_bind (tupleItemsOf_ ht ?_)
  refine wpAny_bind (wpAny_typeOf hTs ?_)
  rw [if_pos (by decide)]
  refine wpAny_bind (sa_rev hs pl pu ps ?_)
  have hno : ¬ (((((items.size : Int) - 1) == 0) && (-1 : Int) == 1 && items.size == items.size) = true) := by
    intro q
    rw [Bool.and_eq_true, Bool.and_eq_true] at q
    exact absurd q.1.2 (by decide)
  show wpAny _ _ (if ((((items.size : Int) - 1) == 0) && (-1 : Int) == 1 && items.size == items.size) = true then _ else _) _ _ s
  rw [if_neg hno, pick_rev]
  first
    | exact wpAny_bind (m := Builtin.Tuple.tupleExact _) (wpAny_newObj_type (wpAny_pure ⟨_, rfl, wpAny_pure h⟩) htake)
    | exact wpAny_bind (m := Builtin.Tuple.tupleExact _) (wpAny_newObj_type (wpAny_bind (wpAny_pure (wpAny_pure ⟨_, rfl, wpAny_pure h⟩))) htake)
    | exact wpAny_bind (wpAny_bind (m := Builtin.Tuple.tupleExact _) (wpAny_newObj_type (wpAny_pure (wpAny_pure ⟨_, rfl, wpAny_pure h⟩)) htake))
    | exact wpAny_bind (wpAny_bind (m := Builtin.Tuple.tupleExact _) (wpAny_newObj_type (wpAny_pure ⟨_, rfl, wpAny_pure h⟩) htake))
end
/-- x[::-1], x a list or a tuple -/
def tRevA (K : PySem.W.Frag) (te : TE) : TE := fun σ H Q => te σ H fun x H1 => ∃ a xs, x = .ref a ∧ ((SqL K H1 a xs ∧ ∀ p, H1 p = none → Q (.ref p) (upd H1 p (.lst xs.reverse))) ∨ (SqT K H1 a xs ∧ ∀ p, H1 p = none → Q (.ref p) (upd H1 p (.tup xs.reverse))))
theorem pe_revA {X : Cx} {e : Expr} {te : TE} {k : Nat} {p1 p2 p3 pos : Pos} (he : PE X e te) : PE X (.Subscript e (.Slice none none (some (.UnaryOp .USub (.Constant (.int 1) k p1) p2)) p3) pos) (tRevA X.K te) := by
  refine ⟨fun pins s σ H Q I h => ?_⟩
  refine Subscript_ (thn (he.run pins s σ H _ I h) fun v s1 ⟨x, H1, I1, r1, q1⟩ => ?_)
  obtain ⟨a, xs, ex, q⟩ := q1
  subst ex
  cases r1
  have hst : PO X (some (.UnaryOp .USub (.Constant (.int 1) k p1) p2)) (tPart (tUn (rU fun i => .int (-i)) (tC (.int 1)))) := po_some (pe_un un_neg pe_int)
  refine wpAny_Slice (thn (po_none.run pins s1 σ H1 (fun o H2 => o = none ∧ H2 = H1) I1 ⟨rfl, rfl⟩) fun vl s2 ⟨l, H2, I2, pl, el, e2⟩ => ?_)
  subst el e2
  refine thn (po_none.run pins s2 σ H2 (fun o H3 => o = none ∧ H3 = H2) I2 ⟨rfl, rfl⟩) fun vu s3 ⟨u, H3, I3, pu, eu, e3⟩ => ?_
  subst eu e3
  refine thn (hst.run pins s3 σ H3 (fun o H4 => o = some (-1) ∧ H4 = H3) I3 ⟨1, rfl, -1, rfl, rfl, rfl⟩) fun vs s4 ⟨o, H4, I4, ps, eo, e4⟩ => ?_
  subst eo e4
  have I5 : Inv X pins σ H4 { s4 with heap := s4.heap.push { cls := .type "slice", data := .fields #[vl, vu, vs] } } := I4.kept (t' := s4.toks) fun b ob q => Heap.get?_push_of_some _ q
  rcases q with ⟨hx, q⟩ | ⟨hx, q⟩
  · obtain ⟨its, r, ht, hz⟩ := I5.list hx
    have hlen := r.length
    show wpAny (model X.prog X.w) X.A (subscriptTail e (.Slice none none (some (.UnaryOp .USub (.Constant (.int 1) k p1) p2)) p3) (.ref a) (.ref s4.heap.objs.size)) (EP X pins σ Q) X.xe { s4 with heap := s4.heap.push { cls := .type "slice", data := .fields #[vl, vu, vs] } }
    refine tail_any (ops := [.ref a, .ref s4.heap.objs.size]) ht.isList.typeIs (PySem.slot_list_getitem.lookup) ?_ (by with_unfolding_all rfl)
    refine wpAny_getItem_list_slice ht.isList (Heap.IsSliceOf.new _ vl vu vs) pl pu ps (by decide) ?_ (by rw [List.size_toArray]; omega)
    rw [PySem.W.krv_pick]
    refine ⟨.ref _, _, I5.laid (t' := s4.toks) (o := .lst xs.reverse) (fun b ob q => Heap.get?_push_of_some _ q) (Nat.le_refl _) ?_, rfl, q _ (I5.hok.fresh (Nat.le_refl _))⟩
    exact ⟨by rw [List.length_reverse]; exact hz, _, 0, r.reverse, Heap.get?_push_size _ rfl⟩
  · obtain ⟨its, r, ht, hz⟩ := I5.tuple hx
    have hlen := r.length
    show wpAny (model X.prog X.w) X.A (subscriptTail e (.Slice none none (some (.UnaryOp .USub (.Constant (.int 1) k p1) p2)) p3) (.ref a) (.ref s4.heap.objs.size)) (EP X pins σ Q) X.xe { s4 with heap := s4.heap.push { cls := .type "slice", data := .fields #[vl, vu, vs] } }
    refine tail_any (ops := [.ref a, .ref s4.heap.objs.size]) ht.typeIs (PyProof.Rows.slot_tuple_getitem.lookup) ?_ (by with_unfolding_all rfl)
    refine getItem_tuple_rev ht (Heap.IsSliceOf.new _ vl vu vs) pl pu ps ?_ (by rw [List.size_toArray]; omega)
    refine ⟨.ref _, _, I5.laid (t' := s4.toks) (o := .tup xs.reverse) (fun b ob q => Heap.get?_push_of_some _ q) (Nat.le_refl _) ?_, rfl, q _ (I5.hok.fresh (Nat.le_refl _))⟩
    exact ⟨by rw [List.length_reverse]; exact hz, _, r.reverse, IsTup.new _ _⟩
end PyD

set_option Elab.async false
set_option linter.all false
set_option maxRecDepth 100000
set_option maxHeartbeats 4000000
/-! PyR2: written dict displays of texts and numbers, x[::-1], not x of a number. -/
namespace PyD
open PySem PySem.Spec PyProof.Rows L2
theorem upd2 {H : Hp} {p : Addr} {o u : HO} : upd (upd H p o) p u = upd H p u := funext fun a => by
  by_cases e : a = p
  · subst e; rw [upd_same, upd_same]
  · rw [upd_ne e, upd_ne e, upd_ne e]
def trDsp : List (Option Expr) → List Expr → Option (List (PySem.Str × Int))
  | [], [] => some []
  | some (.Constant (.str x) _ _) :: ks, .Constant (.int i) _ _ :: vs => (trDsp ks vs).map fun r => (x, i) :: r
  | _, _ => none
def trsC (kvs : List (PySem.Str × Int)) : List (TE × TE) := kvs.map fun p => (tC (.str p.1), tC (.int p.2))
theorem tPairs_con : ∀ (kvs : List (PySem.Str × Int)) {σ : L2.St} {H : Hp} {Q : List (V × V) → Hp → Prop}, Q (kvs.map fun p => (V.str p.1, V.int p.2)) H → tPairs (trsC kvs) σ H Q
  | [], _, _, _, h => h
  | p :: r, σ, H, Q, h => by
    show tPairs (trsC r) σ H _
    exact tPairs_con r h
section
variable {X : Cx}
theorem pps_con : ∀ {ks : List (Option Expr)} {vs : List Expr} {kvs : List (PySem.Str × Int)} {pos : Pos}, trDsp ks vs = some kvs → PPs X pos ks vs (trsC kvs) ∧ ks.all (·.isSome) = true ∧ ks.length = vs.length ∧ ks.length = kvs.length
  | ks, vs, kvs, pos, h => by
    unfold trDsp at h
    split at h
    · cases h
      exact ⟨pps_nil, rfl, rfl, rfl⟩
    · simp only [Option.map_eq_some_iff] at h
      obtain ⟨r, h1, h2⟩ := h
      subst h2
      obtain ⟨q1, q2, q3, q4⟩ := pps_con (pos := pos) h1
      exact ⟨pps_cons pe_str pe_int q1, by simpa using q2, by simp [q3], by simp [q4]⟩
    · cases h
end
section
variable {X : Cx} {G : Gl} {cl : Nat → List W → Ms → R (W × Ms)} {Ex : XK}
theorem d_dsp {ks : List (Option Expr)} {vs : List Expr} {kvs : List (PySem.Str × Int)} {pos : Pos} (h : trDsp ks vs = some kvs) (h0 : kvs ≠ []) (h15 : kvs.length ≤ 15) : PE X (.Dict ks vs pos) (tE G cl Ex (.dsp kvs)) := by
  obtain ⟨q1, q2, q3, q4⟩ := pps_con (X := X) (pos := pos) h
  refine (pe_disp q1 q2 q3 (fun e => h0 (by rw [e] at q4; exact List.eq_nil_of_length_eq_zero q4.symm)) (by omega)).imp fun σ H Q q => ?_
  obtain ⟨ρ, α, M, Z, S, er, P⟩ := q
  unfold evE at P
  intro p hp
  refine tPairs_con kvs ⟨upd_same, kvK kvs, by unfold kvK; rw [List.map_map]; rfl, by unfold kvK; rw [List.length_map]; exact h15, ?_⟩
  rw [upd2]
  exact P.val.new S hp (fun ps z => by cases z) (.dc (.inl upd_same))
theorem d_rev (hK : X.K = G.K) {e : Expr} {ea : E} {k : Nat} {p1 p2 p3 pos : Pos} (ha : PE X e (tE G cl Ex ea)) : PE X (.Subscript e (.Slice Option.none Option.none (some (.UnaryOp .USub (.Constant (.int 1) k p1) p2)) p3) pos) (tE G cl Ex (.rev ea)) :=
  (pe_revA ha).imp fun σ H Q q => by
    obtain ⟨ρ, α, M, Z, S, er, P⟩ := q
    unfold evE at P
    refine one S er P fun w1 α1 M1 Z1 H1 v1 S1 x1 r1 P1 => ?_
    obtain ⟨x, e1, P1⟩ := Post.look view_exc P1
    obtain ⟨z, e2, P2⟩ := Post.look drev_exc P1
    have rv := view_rel S1 r1 e1
    cases x with
    | lst ds =>
      cases e2
      obtain ⟨p, vs, rfl, h1, rr⟩ := rv.lst S1
      exact ⟨p, vs, rfl, .inl ⟨SqL.of h1, fun q hq => P2.val.new S1 hq (fun ps z => by cases z) (.lst upd_same (rr.reverse.mono (same_upd (S1.zfree hq))))⟩⟩
    | tup ds =>
      cases e2
      obtain ⟨p, vs, rfl, h1, rr⟩ := rv.tup S1
      exact ⟨p, vs, rfl, .inr ⟨by rw [hK]; exact sqT_sub S1 h1, fun q hq => P2.val.new S1 hq (fun ps z => by cases z) (.tup (SqT.of upd_same) (rr.reverse.mono (same_upd (S1.zfree hq))))⟩⟩
    | _ => cases e2
theorem d_notv {a : Expr} {ea : E} {pos : Pos} (ha : PE X a (tE G cl Ex ea)) : PE X (.UnaryOp .Not a pos) (tE G cl Ex (.notv ea)) :=
  (pe_notT ha).imp fun σ H Q q => by
    obtain ⟨ρ, α, M, Z, S, er, P⟩ := q
    unfold evE at P
    refine one S er P fun w1 α1 M1 Z1 H1 v1 S1 x1 r1 P1 => ?_
    obtain ⟨x, e1, P1⟩ := Post.look view_exc P1
    obtain ⟨z, e2, P2⟩ := Post.look dtru_exc P1
    have rv := view_rel S1 r1 e1
    cases x with
    | bl b => cases e2; have := rv.bl; subst this; exact ⟨_, rfl, P2.ok S1 _ (.bl _)⟩
    | int b => cases e2; have := rv.int; subst this; exact ⟨_, rfl, P2.ok S1 _ (.bl _)⟩
    | non => cases e2; have := rv.non; subst this; exact ⟨_, rfl, P2.ok S1 _ (.bl _)⟩
    | _ => cases e2
end
end PyD

set_option Elab.async false
set_option linter.all false
set_option maxRecDepth 100000
set_option maxHeartbeats 4000000
/-! PyR3: xs.index(y), xs.count(text) of a list; .index of a written tuple of texts. -/
namespace PyD
open PySem PySem.Spec PyProof.Rows L2
def eqz (k : PySem.Str) (v : Value) : Bool := match v with
  | .str n _ => n == k
  | _ => false
theorem strs_of_vals : ∀ {ys : List PySem.Str} {us : List Value}, Vals (ys.map V.str) us → StrsAre us ys
  | [], _, .nil => .nil
  | y :: ys, _, .cons r t => by
    obtain ⟨k, rfl⟩ := r
    exact .cons y k (strs_of_vals t)
theorem eqz_count {k : PySem.Str} : ∀ {us : List Value} {ns : List PySem.Str}, StrsAre us ns → us.countP (eqz k) = ns.count k
  | _, _, .nil => rfl
  | _, _, .cons n t h => by
    have ih := eqz_count (k := k) h
    rw [List.countP_cons, List.count_cons, ih] <;> rfl
def rCntS (K : PySem.W.Frag) : V → List V → Hp → VK → Prop := fun x xs H Q => ∃ (p : Addr) (ns : List PySem.Str) (k : PySem.Str), x = .ref p ∧ xs = [.str k] ∧ SqL K H p (ns.map V.str) ∧ Q (.int (ns.count k : Nat)) H
theorem mt_cntS {X : Cx} : MtR X "list.count" (rCntS X.K) := by
  intro pins s σ H x xs v us Q I rx rxs h
  obtain ⟨p, ns, k, rfl, rfl, hs, q⟩ := h
  cases rx
  obtain ⟨u, rfl, ru⟩ := rxs.one
  obtain ⟨t, rfl⟩ := id ru
  obtain ⟨its, rv, ⟨⟨cls, dd, data, sl⟩, n, ho, hc, hdn, hd⟩, hlen⟩ := I.list hs
  simp only at hc hd
  subst hc hd
  have hi := strs_of_vals rv
  refine call_meets PySem.F.slot_list_count ⟨_, ho, rfl⟩ PySem.F.entry_list_count (PySem.F.args_list_count_2 _ _)
    (SeqAt.list_countAt p its.toArray n dd sl (.str k t) (eqU (.str k))) ⟨ho, fun u' hu' => mem_eqAt (x := .str k) ⟨t, rfl⟩ rfl rv (flat_strs ns) u' (by simpa using hu'), ?_⟩
  have ec : its.toArray.toList.countP (eqU (.str k)) = ns.count k := by
    have : its.toArray.toList = its := by simp
    rw [this, ← eqz_count hi]
    congr 1
    funext v
    cases v <;> first | rfl | (show (_ == _) = (_ == _); rfl)
  refine ⟨.int (ns.count k : Nat), H, I.tok _, ⟨s.toks, ?_⟩, q⟩
  show Value.int ((its.toArray.toList.countP (eqU (.str k)) : Nat) : Int) s.toks = Value.int ((ns.count k : Nat) : Int) s.toks
  rw [ec]
theorem dsm_exc {m : Sm} {x y : D} : ∀ c M, dsm m x y ≠ .exc c M := fun c M => by
  unfold dsm
  split
  · exact stuckIf_exc optR_exc c M
  · split <;> first | exact optR_exc c M | (intro h; cases h)
  · intro h; cases h
theorem dcix_exc {ys : List PySem.Str} {x : D} : ∀ c M, dcix ys x ≠ .exc c M := fun c M => by
  unfold dcix
  split <;> first | exact optR_exc c M | (intro h; cases h)
section
variable {X : Cx} {G : Gl} {cl : Nat → List W → Ms → R (W × Ms)} {Ex : XK}
theorem d_smI (hK : X.K = G.K) (hu : X.A.units + 65 < cLine) {o e : Expr} {ea eb : E} {ap cp : Pos} (ha : PE X o (tE G cl Ex ea)) (hb : PE X e (tE G cl Ex eb)) (hn : nst e = true) (hs : attributeBase o "index" X.env (eval o X.env) = eval o X.env) (hl : (ap.endLine == cp.line) = true) :
    PE X (.Call (.Attribute o "index" ap) [e] [] cp) (tE G cl Ex (.sm .index ea eb)) := by
  refine (pe_bm PySem.F.plainAttrs_list PySem.F.slot_list_index PySem.F.type_list_index (mt_indexD hu) ha (pa_cons hb pa_nil (star_cons hn)) hs (by rw [star_cons hn]; rfl) hl (star_cons hn) rfl).imp fun σ H Q q => ?_
  obtain ⟨ρ, α, M, Z, S, er, P⟩ := q
  unfold evE at P
  refine one S er P fun w1 α1 M1 Z1 H1 v1 S1 x1 r1 P1 => ?_
  obtain ⟨x0, e0, P1⟩ := Post.look view_exc P1
  obtain ⟨c0, P1⟩ := Post.stuckIf P1
  have ty : tyV X.K "list" v1 H1 := by
    cases x0 with
    | lst ds =>
      obtain ⟨a, vs, rfl, h1, rr⟩ := (view_rel S1 r1 e0).lst S1
      exact .inl ⟨rfl, vs, SqL.of h1⟩
    | _ => cases c0
  refine ⟨ty, ?_⟩
  refine one S1 (er.mono x1.same x1.pre) P1 fun w2 α2 M2 Z2 H2 v2 S2 x2 r2 P2 => ?_
  obtain ⟨x, e1, P3⟩ := Post.look view_exc P2
  obtain ⟨y, e2, P4⟩ := Post.look view_exc P3
  obtain ⟨z, e3, P5⟩ := Post.look dsm_exc P4
  have rx := view_rel S2 (r1.mono x2.same x2.pre) e1
  have ry := view_rel S2 r2 e2
  cases x with
  | lst ds =>
    obtain ⟨cc, e3⟩ := stuckIf_ok (show stuckIf ((D.lst ds).sh && y.sh) (optR ((findI ds y).map fun j => D.int (j : Nat))) = .ok z from e3)
    obtain ⟨c1, c2⟩ := an cc
    obtain ⟨j, hj, rfl⟩ := om (optR_ok e3)
    obtain ⟨a, vs, rfl, h1, rr⟩ := rx.lst S2
    obtain ⟨hlt, q1, q2⟩ := List.findIdx?_eq_some_iff_getElem.mp hj
    have hm : D.toPs ds = ds.map D.toP := toPs_map ds
    refine ⟨a, v2, y.toP, ds.map D.toP, j, ds[j].toP, rfl, rfl, ?_, ?_, ?_, c2, ?_, q1, fun m z' hm' hz' => ?_, P5.ok S2 _ (.int _)⟩
    · have := Rv.dp S2 rx c1
      rw [hK]
      rw [← hm]
      exact this
    · rw [hK]; exact Rv.dp S2 ry c2
    · rw [← hm]; exact c1
    · rw [List.getElem?_map, List.getElem?_eq_getElem hlt]; rfl
    · rw [List.getElem?_map, Option.map_eq_some_iff] at hz'
      obtain ⟨d, hd, rfl⟩ := hz'
      have hml : m < ds.length := (List.getElem?_eq_some_iff.mp hd).1
      have := q2 m hm'
      have e : ds[m] = d := (List.getElem?_eq_some_iff.mp hd).2
      rw [e] at this
      simpa [D.eqv] using this
  | _ => cases e3
theorem d_smC (hK : X.K = G.K) {o e : Expr} {ea eb : E} {ap cp : Pos} (ha : PE X o (tE G cl Ex ea)) (hb : PE X e (tE G cl Ex eb)) (hn : nst e = true) (hs : attributeBase o "count" X.env (eval o X.env) = eval o X.env) (hl : (ap.endLine == cp.line) = true) :
    PE X (.Call (.Attribute o "count" ap) [e] [] cp) (tE G cl Ex (.sm .count ea eb)) := by
  refine (pe_bm PySem.F.plainAttrs_list PySem.F.slot_list_count PySem.F.type_list_count mt_cntS ha (pa_cons hb pa_nil (star_cons hn)) hs (by rw [star_cons hn]; rfl) hl (star_cons hn) rfl).imp fun σ H Q q => ?_
  obtain ⟨ρ, α, M, Z, S, er, P⟩ := q
  unfold evE at P
  refine one S er P fun w1 α1 M1 Z1 H1 v1 S1 x1 r1 P1 => ?_
  obtain ⟨x0, e0, P1⟩ := Post.look view_exc P1
  obtain ⟨c0, P1⟩ := Post.stuckIf P1
  have ty : tyV X.K "list" v1 H1 := by
    cases x0 with
    | lst ds =>
      obtain ⟨a, vs, rfl, h1, rr⟩ := (view_rel S1 r1 e0).lst S1
      exact .inl ⟨rfl, vs, SqL.of h1⟩
    | _ => cases c0
  refine ⟨ty, ?_⟩
  refine one S1 (er.mono x1.same x1.pre) P1 fun w2 α2 M2 Z2 H2 v2 S2 x2 r2 P2 => ?_
  obtain ⟨x, e1, P3⟩ := Post.look view_exc P2
  obtain ⟨y, e2, P4⟩ := Post.look view_exc P3
  obtain ⟨z, e3, P5⟩ := Post.look dsm_exc P4
  have rx := view_rel S2 (r1.mono x2.same x2.pre) e1
  have ry := view_rel S2 r2 e2
  cases x with
  | lst ds =>
    cases y with
    | str k =>
      obtain ⟨ys, hy, rfl⟩ := om (optR_ok (show optR ((strsOf ds).map fun ys => D.int (ys.count k : Nat)) = .ok z from e3))
      obtain ⟨a, vs, rfl, h1, rr⟩ := rx.lst S2
      have ev := strs_rel rr hy
      subst ev
      have := ry.str
      subst this
      exact ⟨a, ys, k, rfl, rfl, SqL.of h1, P5.ok S2 _ (.int _)⟩
    | _ => cases e3
  | _ => cases e3
theorem d_cix {x : PySem.Str} {p ap cp : Pos} {a : Addr} {ys : List PySem.Str} {e : Expr} {ea : E} (hg : L2.Gl X x) (hm : X.mg x = some (.ref a)) (n1 : (x == ("__debug__" : PySem.Str)) = false) (hq : ∀ H, SqT X.K H a (ys.map V.str)) (hd : NoDc X.K (.ref a))
    (ha : PE X e (tE G cl Ex ea)) (hn : nst e = true) (hl : (ap.endLine == cp.line) = true) : PE X (.Call (.Attribute (.Name x p) "index" ap) [e] [] cp) (tE G cl Ex (.cix ys ea)) := by
  have ty : ∀ H, tyV X.K "tuple" (.ref a) H := fun H => by
    rcases hq (fun _ => none) with (h | ⟨o, h⟩) | ⟨o, its, n, h1, h2, _⟩
    · cases h
    · cases h
    · exact .inr (.inl ⟨rfl, o, h1, h2, hd a rfl o h1⟩)
  refine (pe_bm PySem.F.plainAttrs_tuple PySem.F.slot_tuple_index PySem.F.type_tuple_index mt_tup_index (pe_glob (v := .ref a) hg hm rfl n1) (pa_cons ha pa_nil (star_cons hn)) rfl (by rw [star_cons hn]; rfl) hl (star_cons hn) rfl).imp fun σ H Q q => ?_
  obtain ⟨ρ, α, M, Z, S, er, P⟩ := q
  unfold evE at P
  refine ⟨ty H, ?_⟩
  refine one S er P fun w1 α1 M1 Z1 H1 v1 S1 x1 r1 P1 => ?_
  obtain ⟨x0, e0, P1⟩ := Post.look view_exc P1
  obtain ⟨z, e3, P2⟩ := Post.look dcix_exc P1
  cases x0 with
  | str k =>
    obtain ⟨j, hj, rfl⟩ := om (optR_ok (show optR ((ys.findIdx? fun d => d == k).map fun j => D.int (j : Nat)) = .ok z from e3))
    obtain ⟨hlt, q1, q2⟩ := List.findIdx?_eq_some_iff_getElem.mp hj
    have := (view_rel S1 r1 e0).str
    subst this
    refine ⟨a, ys, k, j, rfl, rfl, hq H1, by rw [List.getElem?_eq_getElem hlt, eq_of_beq q1], fun m hm hy => ?_, P2.ok S1 _ (.int _)⟩
    have hml : m < ys.length := (List.getElem?_eq_some_iff.mp hy).1
    have e := (List.getElem?_eq_some_iff.mp hy).2
    have := q2 m hm
    rw [e, beq_self_eq_true] at this
    exact this rfl
  | _ => cases e3
end
end PyD

set_option Elab.async false
set_option linter.all false
set_option maxRecDepth 100000
set_option maxHeartbeats 4000000
/-! PyR4: dict(zip(text, tuple)): zip over any two iterators as the argument of dict(). -/
namespace PySem
open PySem.W (KdxIt kdx_alive)
section
variable {prog : Program} {w : World} {A : Around} {E : Value → Shared → Prop} {s : Shared} {z TI TO T i1 i2 : Addr} {fp1 fp2 : List Addr} {n1 n2 i : Nat} {P1 P2 : Nat → Value → Prop} {St1 St2 : Nat → Heap → Prop} {f : Bool} {oT : Obj}
theorem zipD2_held_item {Q : Value → Shared → Prop} (S : ZipSep2 z TI TO i1 i2 fp1 fp2) (D1 : Draws prog w A i1 fp1 n1 P1 St1) (D2 : Draws prog w A i2 fp2 n2 P2 St2)
    (hz : IsZipHeld s.heap z TI TO T f) (hT : s.heap.get? T = some oT) (hTI : IsTupOf2 s.heap TI (.ref i1) (.ref i2)) (st1 : St1 i s.heap) (st2 : St2 i s.heap) (hlt1 : i < n1) (hlt2 : i < n2)
    (hQ : ∀ x1 x2 h' tk, P1 i x1 → P2 i x2 → IsZipHeld h' z TI TO T true → St1 (i + 1) h' → St2 (i + 1) h' → IsTupOf2 h' s.heap.objs.size x1 x2 → h'.objs.size = s.heap.objs.size + 1 →
      (∀ c o, c ≠ z → c ≠ i1 → c ≠ i2 → s.heap.get? c = some o → h'.get? c = some o) → Q (.ref s.heap.objs.size) { s with heap := h', toks := tk }) :
    wpAny (model prog w) A (Builtin.«zip.__next__» ⟨[.ref z], []⟩) (fun fin s' => ∃ v, fin = .done (.ret v) ∧ Q v s') E s := by
  obtain ⟨hp, g, d, tk0, os⟩ := s
  show wpAny _ _ (field (.ref z) 2 >>= _) _ _ _
  refine wpAny_bind (wpAny_field hz rfl (x := .bool false) rfl ?_)
  show wpAny _ _ (field (.ref z) 3 >>= _) _ _ _
  refine wpAny_bind (wpAny_field hz rfl (x := .ref TI) rfl ?_)
  refine wpAny_bind (wpAny_seqItems hTI rfl ?_)
  show wpAny _ _ (Builtin.SmallTypes.ownedTupleIsFree (.ref z) >>= _) _ _ _
  refine wpAny_bind (wpAny_tupleHeld_zip hz hT fun h₁ hz₁ hs₁ => ?_)
  replace hs₁ : Heap.SameBut z hp h₁ := hs₁
  simp only [Bool.false_eq_true, if_false]
  refine wpAny_bind ?_
  rw [← Array.forIn_toList]
  simp only [List.forIn_cons, List.forIn_nil]
  refine wpAny_bind (wpAny_bind (wpAny_holding ?_))
  show wpAny _ _ (Builtin.SmallTypes.nextOf (.ref i1) >>= _) _ _ ⟨h₁, g, d, tk0, os⟩
  refine wpAny_bind (D1.item i _ _ _ hlt1 (D1.over st1 hs₁ S.zf1) fun x1 p1 tk1 hx1 sn1 hp1 => wpAny_pure ?_)
  replace hp1 : Heap.SameBut i1 h₁ p1 := hp1
  refine wpAny_pure ?_
  refine wpAny_bind (wpAny_bind (wpAny_holding ?_))
  show wpAny _ _ (Builtin.SmallTypes.nextOf (.ref i2) >>= _) _ _ ⟨p1, g, d, tk1, os⟩
  refine wpAny_bind (D2.item i _ _ _ hlt2 (D2.over (D2.over st2 hs₁ S.zf2) hp1 S.sep1_2) fun x2 p2 tk2 hx2 sn2 hp2 => wpAny_pure ?_)
  replace hp2 : Heap.SameBut i2 p1 p2 := hp2
  refine wpAny_pure (wpAny_pure ?_)
  show wpAny _ _ (newTuple [x1, x2] >>= _) _ _ ⟨p2, g, d, tk2, os⟩
  refine wpAny_bind (wpAny_newTuple ?_)
  have hsz : p2.objs.size = hp.objs.size := by rw [hp2.1, hp1.1, hs₁.1]
  have hz₃ : IsZipHeld p2 z TI TO T true := hp2.extBut _ _ S.zi2 (hp1.extBut _ _ S.zi1 hz₁)
  have hk : ∀ c o, c ≠ z → c ≠ i1 → c ≠ i2 → hp.get? c = some o → p2.get? c = some o := fun c o c1 c2 c3 e => hp2.extBut _ _ c3 (hp1.extBut _ _ c2 (hs₁.extBut _ _ c1 e))
  have sn1' : St1 (i + 1) p2 := D1.over sn1 hp2 S.sep2_1
  refine wpAny_pure ⟨_, rfl, ?_⟩
  show Q (.ref p2.objs.size) _
  have hpr : IsTupOf2 (p2.push { cls := .type "tuple", data := .seq #[x1, x2] }) p2.objs.size x1 x2 := Heap.get?_push_size _ rfl
  have hz4 : (p2.push { cls := .type "tuple", data := .seq #[x1, x2] }).objs.size = p2.objs.size + 1 := Heap.size_push ..
  rw [hsz] at hpr hz4 ⊢
  exact hQ x1 x2 _ tk2 hx1 hx2 (Heap.get?_push_of_some _ hz₃) (D1.frame _ _ _ sn1' fun b _ o e => Heap.get?_push_of_some _ e) (D2.frame _ _ _ sn2 fun b _ o e => Heap.get?_push_of_some _ e) hpr hz4
    fun c o c1 c2 c3 e => Heap.get?_push_of_some _ (hk c o c1 c2 c3 e)
theorem zipD2_held_end {Q : Fin → Shared → Prop} (S : ZipSep2 z TI TO i1 i2 fp1 fp2) (D1 : Draws prog w A i1 fp1 n1 P1 St1) (D2 : Draws prog w A i2 fp2 n2 P2 St2)
    (hz : IsZipHeld s.heap z TI TO T f) (hT : s.heap.get? T = some oT) (hTI : IsTupOf2 s.heap TI (.ref i1) (.ref i2)) (st1 : St1 i s.heap) (st2 : St2 i s.heap) (hle1 : i ≤ n1) (hle2 : i ≤ n2) (hend : i = n1 ∨ i = n2)
    (hE : ∀ h' tk e, (∀ c o, c ≠ z → c ≠ i1 → c ≠ i2 → s.heap.get? c = some o → h'.get? c = some o) → (∃ o, h'.get? e = some o ∧ o.cls = .type "StopIteration") → E (.ref e) { s with heap := h', toks := tk }) :
    wpAny (model prog w) A (Builtin.«zip.__next__» ⟨[.ref z], []⟩) Q E s := by
  obtain ⟨hp, g, d, tk0, os⟩ := s
  show wpAny _ _ (field (.ref z) 2 >>= _) _ _ _
  refine wpAny_bind (wpAny_field hz rfl (x := .bool false) rfl ?_)
  show wpAny _ _ (field (.ref z) 3 >>= _) _ _ _
  refine wpAny_bind (wpAny_field hz rfl (x := .ref TI) rfl ?_)
  refine wpAny_bind (wpAny_seqItems hTI rfl ?_)
  show wpAny _ _ (Builtin.SmallTypes.ownedTupleIsFree (.ref z) >>= _) _ _ _
  refine wpAny_bind (wpAny_tupleHeld_zip hz hT fun h₁ hz₁ hs₁ => ?_)
  replace hs₁ : Heap.SameBut z hp h₁ := hs₁
  simp only [Bool.false_eq_true, if_false]
  refine wpAny_bind ?_
  rw [← Array.forIn_toList]
  simp only [List.forIn_cons, List.forIn_nil]
  refine wpAny_bind (wpAny_bind (wpAny_holding ?_))
  show wpAny _ _ (Builtin.SmallTypes.nextOf (.ref i1) >>= _) _ _ ⟨h₁, g, d, tk0, os⟩
  by_cases hlt1 : i < n1
  · refine wpAny_bind (D1.item i _ _ _ hlt1 (D1.over st1 hs₁ S.zf1) fun x1 p1 tk1 hx1 sn1 hp1 => wpAny_pure ?_)
    replace hp1 : Heap.SameBut i1 h₁ p1 := hp1
    have hi2 : i = n2 := by omega
    refine wpAny_pure ?_
    refine wpAny_bind (wpAny_bind (wpAny_holding ?_))
    show wpAny _ _ (Builtin.SmallTypes.nextOf (.ref i2) >>= _) _ _ ⟨p1, g, d, tk1, os⟩
    refine wpAny_bind (D2.done ⟨p1, g, d, tk1, os⟩ _ _ (by rw [← hi2]; exact D2.over (D2.over st2 hs₁ S.zf2) hp1 S.sep1_2) fun q e hq he => ?_)
    exact hE q tk1 e (fun c o cz c1 c2 x => hq _ _ c2 (hp1.extBut _ _ c1 (hs₁.extBut _ _ cz x))) he
  · have hi1 : i = n1 := by omega
    refine wpAny_bind (D1.done ⟨h₁, g, d, tk0, os⟩ _ _ (by rw [← hi1]; exact D1.over st1 hs₁ S.zf1) fun q e hq he => ?_)
    exact hE q tk0 e (fun c o cz c1 c2 x => hq _ _ c1 (hs₁.extBut _ _ cz x)) he
theorem wpAny_pyNext_zipD2_held_item {Q : Option Value → Shared → Prop} (S : ZipSep2 z TI TO i1 i2 fp1 fp2) (D1 : Draws prog w A.in1 i1 fp1 n1 P1 St1) (D2 : Draws prog w A.in1 i2 fp2 n2 P2 St2)
    (hz : IsZipHeld s.heap z TI TO T f) (hT : s.heap.get? T = some oT) (hTI : IsTupOf2 s.heap TI (.ref i1) (.ref i2)) (st1 : St1 i s.heap) (st2 : St2 i s.heap) (hlt1 : i < n1) (hlt2 : i < n2)
    (hQ : ∀ x1 x2 h' tk, P1 i x1 → P2 i x2 → IsZipHeld h' z TI TO T true → St1 (i + 1) h' → St2 (i + 1) h' → IsTupOf2 h' s.heap.objs.size x1 x2 → h'.objs.size = s.heap.objs.size + 1 →
      (∀ c o, c ≠ z → c ≠ i1 → c ≠ i2 → s.heap.get? c = some o → h'.get? c = some o) → Q (some (.ref s.heap.objs.size)) { s with heap := h', toks := tk }) :
    wpAny (model prog w) A (pyNext (.ref z)) Q E s := by
  have hTy : s.TypeIs (.ref z) "zip" := ⟨_, hz, rfl⟩
  unfold pyNext
  exact wpAny_bind (wpAny_attempt (wpAny_callSpecial?_slot (name := Str.ofString "__next__") hTy F.slot_zip_next
    (wpAny_call_entry F.slot_zip_next hTy F.entry_zip_next
      (zipD2_held_item S D1 D2 hz hT hTI st1 st2 hlt1 hlt2 fun x1 x2 h' tk y1 y2 b1 d1 d2 b5 b6 b7 => wpAny_pure (hQ x1 x2 h' tk y1 y2 b1 d1 d2 b5 b6 b7)) (F.args_zip_next_1 _))))
theorem wpAny_pyNext_zipD2_held_end {Q : Option Value → Shared → Prop} (S : ZipSep2 z TI TO i1 i2 fp1 fp2) (D1 : Draws prog w A.in1 i1 fp1 n1 P1 St1) (D2 : Draws prog w A.in1 i2 fp2 n2 P2 St2)
    (hz : IsZipHeld s.heap z TI TO T f) (hT : s.heap.get? T = some oT) (hTI : IsTupOf2 s.heap TI (.ref i1) (.ref i2)) (st1 : St1 i s.heap) (st2 : St2 i s.heap) (hle1 : i ≤ n1) (hle2 : i ≤ n2) (hend : i = n1 ∨ i = n2)
    (hQ : ∀ h' tk, (∀ c o, c ≠ z → c ≠ i1 → c ≠ i2 → s.heap.get? c = some o → h'.get? c = some o) → Q none { s with heap := h', toks := tk }) :
    wpAny (model prog w) A (pyNext (.ref z)) Q E s := by
  have hTy : s.TypeIs (.ref z) "zip" := ⟨_, hz, rfl⟩
  unfold pyNext
  refine wpAny_bind (wpAny_attempt (wpAny_callSpecial?_slot (name := Str.ofString "__next__") hTy F.slot_zip_next
    (wpAny_call_entry F.slot_zip_next hTy F.entry_zip_next (zipD2_held_end S D1 D2 hz hT hTI st1 st2 hle1 hle2 hend fun h' tk e hk he => ?_) (F.args_zip_next_1 _))))
  obtain ⟨o, ho, hc⟩ := he
  refine wpAny_bind (wpAny_isInstance (T := "StopIteration") (b := true) ⟨o, ho, hc⟩ isSubtype_stop ?_)
  exact wpAny_pure (hQ _ _ hk)
end
section
variable {prog : Program} {w : World}
theorem PairArg.zipS (z TI TO i1 i2 : Addr) (fp1 fp2 : List Addr) (n1 n2 : Nat) (P1 P2 : Nat → Value → Prop) (St1 St2 : Nat → Heap → Prop) (S : ZipSep2 z TI TO i1 i2 fp1 fp2)
    (D1 : ∀ A : Around, A.handled = none → Draws prog w A i1 fp1 n1 P1 St1) (D2 : ∀ A : Around, A.handled = none → Draws prog w A i2 fp2 n2 P2 St2)
    (x1 : ∀ h, St1 0 h → ∀ b ∈ fp1, ∃ o, h.get? b = some o) (x2 : ∀ h, St2 0 h → ∀ b ∈ fp2, ∃ o, h.get? b = some o) 
    (f1 : ∀ i h h', St1 i h → (∀ b ∈ fp1, ∀ o, h.get? b = some o → h'.get? b = some o) → St1 i h') (f2 : ∀ i h h', St2 i h → (∀ b ∈ fp2, ∀ o, h.get? b = some o → h'.get? b = some o) → St2 i h') :
    PairArg prog w "zip" z (z :: TI :: TO :: (fp1 ++ fp2)) [z, TO, i1, i2] (min n1 n2) (fun i k v => P1 i k ∧ P2 i v)
      (fun h => IsZip h z TI TO .none ∧ IsTupOf2 h TI (.ref i1) (.ref i2) ∧ (∃ a b, IsTupOf2 h TO a b) ∧ St1 0 h ∧ St2 0 h) where
  type := fun s ok => ⟨_, ok.1, rfl⟩
  notDict := by decide
  keep := fun h h' ok hk => by
    obtain ⟨hz, hTI, ⟨a, b, hTO⟩, h1, h2⟩ := ok
    exact ⟨hk _ _ hz, hk _ _ hTI, ⟨a, b, hk _ _ hTO⟩, f1 _ _ _ h1 fun b _ o e => hk b o e, f2 _ _ _ h2 fun b _ o e => hk b o e⟩
  there := fun h ok b hb => by
    obtain ⟨hz, hTI, ⟨a, c, hTO⟩, h1, h2⟩ := ok
    simp only [List.mem_cons, List.mem_append] at hb
    rcases hb with rfl | rfl | rfl | hb | hb
    · exact ⟨_, hz⟩
    · exact ⟨_, hTI⟩
    · exact ⟨_, hTO⟩
    · exact x1 h h1 b hb
    · exact x2 h h2 b hb
  sub := fun b hb => by
    simp only [List.mem_cons, List.not_mem_nil, or_false] at hb
    simp only [List.mem_cons, List.mem_append]
    rcases hb with rfl | rfl | rfl | rfl
    · exact .inl rfl
    · exact .inr (.inr (.inl rfl))
    · exact .inr (.inr (.inr (.inl S.mem1)))
    · exact .inr (.inr (.inr (.inr S.mem2)))
  noKeys := fun A s Q E hA ok h => getAttrOr_miss_zip ok.1 rfl rfl rfl zip_no_keys (by decide +kernel) hA h
  iter := fun A s d Q E hA ok hd hdf h => by
    obtain ⟨hz, hTI, ⟨a, b, hTO⟩, h1, h2⟩ := ok
    simp only [List.mem_cons, List.mem_append, not_or] at hdf
    obtain ⟨dz, dTI, dTO, d1, d2⟩ := hdf
    have di1 : d ≠ i1 := fun e => d1 (e ▸ S.mem1)
    have di2 : d ≠ i2 := fun e => d2 (e ▸ S.mem2)
    have E1 := D1 A.in1 hA
    have E2 := D2 A.in1 hA
    refine wpAny_pyIter_zip hz (h z [z, TO, i1, i2] (fun i h => IsTupOf2 h TI (.ref i1) (.ref i2) ∧ St1 i h ∧ St2 i h ∧
      ((IsZip h z TI TO .none ∧ ∃ a b, IsTupOf2 h TO a b) ∨ ∃ T f oT, IsZipHeld h z TI TO T f ∧ h.get? T = some oT ∧ T ≠ z ∧ T ≠ i1 ∧ T ≠ i2 ∧ T ≠ d)) s.heap s.toks ?_
      ⟨hTI, h1, h2, .inl ⟨hz, a, b, hTO⟩⟩ (fun _ _ e => e) fun b hb => .inl hb)
    exact {
      off := fun hm => by
        simp only [List.mem_cons, List.not_mem_nil, or_false] at hm
        rcases hm with e | e | e | e
        · exact dz e
        · exact dTO e
        · exact di1 e
        · exact di2 e
      frame := fun i h₁ h₂ st hk => by
        obtain ⟨hTI, h1, h2, hz⟩ := st
        refine ⟨hk _ _ (Ne.symm dTI) hTI, E1.frame _ _ _ h1 fun b hb o e => hk b o (fun q => d1 (q ▸ hb)) e, E2.frame _ _ _ h2 fun b hb o e => hk b o (fun q => d2 (q ▸ hb)) e, ?_⟩
        rcases hz with ⟨hz, a, b, hTO⟩ | ⟨T, f, oT, hz, hT, r1, r2, r3, r4⟩
        · exact .inl ⟨hk _ _ (Ne.symm dz) hz, a, b, hk _ _ (Ne.symm dTO) hTO⟩
        · exact .inr ⟨T, f, oT, hk _ _ (Ne.symm dz) hz, hk _ _ r4 hT, r1, r2, r3, r4⟩
      item := fun i s₁ Q₁ E₁ hi st hds hQ => by
        obtain ⟨hTI, h1, h2, hz⟩ := st
        have hix : i < n1 := Nat.lt_of_lt_of_le hi (Nat.min_le_left ..)
        have hiy : i < n2 := Nat.lt_of_lt_of_le hi (Nat.min_le_right ..)
        have lt : ∀ {c o}, s₁.heap.get? c = some o → s₁.heap.objs.size ≠ c := fun e => Nat.ne_of_gt (Heap.lt_size e)
        have m1 : s₁.heap.objs.size ≠ i1 := let ⟨_, e⟩ := E1.live _ _ h1; lt e
        have m2 : s₁.heap.objs.size ≠ i2 := let ⟨_, e⟩ := E2.live _ _ h2; lt e
        rcases hz with ⟨hz, a, b, hTO⟩ | ⟨T, f, oT, hz, hT, r1, r2, r3, r4⟩
        · refine wpAny_pyNext_zipD2_item S E1 E2 hz hTI hTO h1 h2 hix hiy fun y1 y2 h' tk p1 p2 a1 a2 a3 a4 a5 a6 hk => ?_
          exact hQ s₁.heap.objs.size _ _ h' tk ⟨p1, p2⟩ (.inl ⟨_, a5, rfl, _, rfl⟩)
            ⟨hk _ _ S.TIz S.TITO S.TIi1 S.TIi2 hTI, a3, a4, .inr ⟨s₁.heap.objs.size, false, _, a1, a5, lt hz, m1, m2, Nat.ne_of_gt hds⟩⟩
            fun c o hc e => hk c o (fun x => hc (by simp [x])) (fun x => hc (by simp [x])) (fun x => hc (by simp [x])) (fun x => hc (by simp [x])) e
        · refine wpAny_pyNext_zipD2_held_item S E1 E2 hz hT hTI h1 h2 hix hiy fun y1 y2 h' tk p1 p2 a1 a3 a4 a5 a6 hk => ?_
          exact hQ s₁.heap.objs.size _ _ h' tk ⟨p1, p2⟩ (.inl ⟨_, a5, rfl, _, rfl⟩)
            ⟨hk _ _ S.TIz S.TIi1 S.TIi2 hTI, a3, a4, .inr ⟨T, true, oT, a1, hk _ _ r1 r2 r3 hT, r1, r2, r3, r4⟩⟩
            fun c o hc e => hk c o (fun x => hc (by simp [x])) (fun x => hc (by simp [x])) (fun x => hc (by simp [x])) e
      done := fun s₁ Q₁ E₁ st hQ => by
        obtain ⟨hTI, h1, h2, hz⟩ := st
        have hend : min n1 n2 = n1 ∨ min n1 n2 = n2 := by omega
        rcases hz with ⟨hz, a, b, hTO⟩ | ⟨T, f, oT, hz, hT, r1, r2, r3, r4⟩
        · exact wpAny_pyNext_zipD2_end S E1 E2 hz hTI hTO h1 h2 (Nat.min_le_left ..) (Nat.min_le_right ..) hend fun h' tk hk => hQ h' tk fun c o hc e => hk c o (fun x => hc (by simp [x])) (fun x => hc (by simp [x])) (fun x => hc (by simp [x])) (fun x => hc (by simp [x])) e
        · exact wpAny_pyNext_zipD2_held_end S E1 E2 hz hT hTI h1 h2 (Nat.min_le_left ..) (Nat.min_le_right ..) hend fun h' tk hk => hQ h' tk fun c o hc e => hk c o (fun x => hc (by simp [x])) (fun x => hc (by simp [x])) (fun x => hc (by simp [x])) e }
end
end PySem

namespace PyD
open PySem PySem.Spec PyProof.Rows L2
theorem dzd_exc {z : PySem.Str} {x : D} : ∀ c M, dzd z x ≠ .exc c M := fun c M => by
  unfold dzd
  split <;> first | exact optR_exc c M | (intro h; cases h)
theorem lt_ne_add {a n : Nat} (h : a < n) (k : Nat) : a ≠ n + k ∧ n + k ≠ a := by omega
theorem kv_zip : ∀ {cs : List Nat} {ns : List Int} {us : List Value}, Vals (ns.map V.int) us →
    KV (kvK ((cs.map fun c => (⟨#[c]⟩ : PySem.Str)).zip ns)) ((cs.map fun c => (Sum.inr (⟨#[c]⟩ : PySem.Str) : Key)).zip us)
  | [], _, _, _ => .nil
  | _ :: _, [], _, h => by cases h; exact .nil
  | c :: cs, n :: ns, _, .cons r t => .cons ⟨rfl, r⟩ (kv_zip t)
theorem vals_at {ns : List Int} {us : List Value} (r : Vals (ns.map V.int) us) {i : Nat} {u : Value} (e : us[i]? = some u) : ∃ n t, ns[i]? = some n ∧ u = .int n t := by
  induction ns generalizing us i with
  | nil => cases r; cases e
  | cons n ns ih =>
    cases r with
    | cons h t =>
      cases i with
      | zero =>
        obtain ⟨k, rfl⟩ := h
        cases e
        exact ⟨n, k, rfl, rfl⟩
      | succ i => exact ih t e
section
variable {X : Cx} {G : Gl} {cl : Nat → List W → Ms → R (W × Ms)} {Ex : XK}
theorem d_zd (hK : X.K = G.K) {z : PySem.Str} {j : Nat} {cp p p2 pos pos2 : Pos} {e : Expr} {ea : E} (hg : L2.Gl X "dict") (hm : X.mg "dict" = none) (hg2 : L2.Gl X "zip") (hm2 : X.mg "zip" = none) (hn : nst e = true) (hcalm : X.calm = true)
    (ha : PE X e (tE G cl Ex ea)) : PE X (.Call (.Name "dict" p) [.Call (.Name "zip" p2) [.Constant (.str z) j cp, e] [] pos2] [] pos) (tE G cl Ex (.zd z ea)) := by
  refine ⟨fun pins s σ H R I h => ?_⟩
  obtain ⟨ρ, α, M, Z, S, er, P⟩ := h
  unfold evE at P
  refine Call_ (ld_blt I hg hm PyProof.Rows.boot_dict (PyProof.Rows.callWith_type1 (args_cons (Call_ (ld_blt I hg2 hm2 PyProof.Rows.boot_zip (PyProof.Rows.callWith_type1 (args_cons
    (thn (pe_str.run pins s σ H (fun x H1 => x = .str z ∧ H1 = H) I ⟨rfl, rfl⟩) fun u s1 ⟨x, H1, I1, r1, ex, e1⟩ => args_cons (thn (ha.run pins s1 σ H (fun y H2 => ∃ α2 M2 Z2 a ns, SR G α2 M2 Z2 H2 ∧ y = .ref a ∧ SqT G.K H2 a (ns.map V.int) ∧ KD G α2 M2 Z2 H2 (.dc (zipC z ns)) R)
      (e1 ▸ I1) ?_) fun u2 s2 ⟨y, H2, I2, r2, q⟩ => args_nil ?_) (star_cons hn))) rfl (star_any (es := [e]) (by simp [hn]))))))))
  · refine one S er P fun w1 α1 M1 Z1 H1 v1 S1 x1 r1 P1 => ?_
    obtain ⟨x0, e0, P1⟩ := Post.look view_exc P1
    obtain ⟨d, e3, P2⟩ := Post.look dzd_exc P1
    cases x0 with
    | tup ds =>
      obtain ⟨ns, hns, rfl⟩ := om (optR_ok (show optR ((intsOf ds).map fun ns => D.dc (zipC z ns)) = .ok d from e3))
      obtain ⟨a, vs, rfl, h1, rr⟩ := (view_rel S1 r1 e0).tup S1
      have := ints_rel rr hns
      subst this
      exact ⟨α1, M1, Z1, a, ns, S1, rfl, sqT_sub S1 h1, P2.val⟩
    | _ => cases e3
  · obtain ⟨α2, M2, Z2, a, ns, S2, rfl, hsq, kd⟩ := q
    subst ex
    obtain ⟨tk, rfl⟩ := id r1
    cases r2
    rw [← hK] at hsq
    obtain ⟨us, rv, pl, hz⟩ := I2.tuple hsq
    have B1 := begins_text z tk
    have B2 := begins_tuple a us.toArray
    refine zip_begins2 B1 B2 trivial (show s2.heap.IsTuple a us.toArray from pl) fun h' hz' hTI hTO ho1 ho2 hsz hkp => args_nil ?_
    have alt : a < s2.heap.objs.size := by obtain ⟨o, ho, _⟩ := pl; exact Heap.lt_size ho
    have i1P : h'.IsStrIter s2.heap.objs.size (strIterType z) z tk 0 := ⟨_, ho1, rfl, rfl⟩
    have i2P : h'.IsTupleIter (s2.heap.objs.size + 1) a 0 := ⟨_, ho2, rfl, rfl⟩
    have tupP : h'.IsTuple a us.toArray := (show s2.heap.IsTuple a us.toArray from pl).at fun o q => hkp a o q
    have hh : X.A.handled = none := I.ok.hd hcalm
    have n5 : ∀ n : Nat, n + 2 ≠ n + 4 ∧ n + 3 ≠ n + 4 ∧ n + 2 ≠ n + 3 ∧ n + 2 ≠ n ∧ n + 4 ≠ n ∧ n + 3 ≠ n ∧ n + 2 ≠ n + 1 ∧ n + 4 ≠ n + 1 ∧ n + 3 ≠ n + 1 ∧ n ≠ n + 1 := fun n => by omega
    have na : ∀ k : Nat, a ≠ s2.heap.objs.size + k ∧ s2.heap.objs.size + k ≠ a := fun k => lt_ne_add alt k
    have na0 : a ≠ s2.heap.objs.size := (na 0).1
    obtain ⟨m1, m2, m3, m4, m5, m6, m7, m8, m9, m10⟩ := n5 s2.heap.objs.size
    have S2' : ZipSep2 (s2.heap.objs.size + 4) (s2.heap.objs.size + 2) (s2.heap.objs.size + 3) s2.heap.objs.size (s2.heap.objs.size + 1) [s2.heap.objs.size] [s2.heap.objs.size + 1, a] :=
      { TIz := m1, TOz := m2, TITO := m3, TIi1 := m4, mem1 := by simp, zf1 := by simp [m5], Tf1 := by simp [m6], TIi2 := m7, mem2 := by simp, zf2 := by simp [m8, (na 4).2], Tf2 := by simp [m9, (na 3).2],
        sep1_2 := by simp [m10, Ne.symm na0], sep2_1 := by simp [Ne.symm m10] }
    have PA := PairArg.zipS (prog := X.prog) (w := X.w) (s2.heap.objs.size + 4) (s2.heap.objs.size + 2) (s2.heap.objs.size + 3) s2.heap.objs.size (s2.heap.objs.size + 1) [s2.heap.objs.size] [s2.heap.objs.size + 1, a]
      z.cps.size us.toArray.size (Src.P (.s z tk) us.toArray) (Src.P (.t a) us.toArray) (fun i h => Src.itP (.s z tk) s2.heap.objs.size i h ∧ Src.body (.s z tk) us.toArray h) (fun i h => Src.itP (.t a) (s2.heap.objs.size + 1) i h ∧ Src.body (.t a) us.toArray h) S2'
      (fun A hA => Src.draws hA (.s z tk) s2.heap.objs.size (fun b hb => by cases hb) us.toArray)
      (fun A hA => Src.draws hA (.t a) (s2.heap.objs.size + 1) (fun b hb => by rw [List.mem_singleton.mp hb]; exact (na 1).1) us.toArray)
      (fun h ok b hb => by
        rw [List.mem_singleton.mp hb]
        obtain ⟨o, ho, _⟩ := Src.obj ok.1
        exact ⟨o, ho⟩)
      (fun h ok b hb => by
        rcases List.mem_cons.mp hb with rfl | hb
        · obtain ⟨o, ho, _⟩ := Src.obj ok.1
          exact ⟨o, ho⟩
        · rw [List.mem_singleton.mp hb]
          obtain ⟨o, ho, _⟩ := (show h.IsTuple a us.toArray from ok.2)
          exact ⟨o, ho⟩)
      (fun i h h' st k => ⟨Src.keep st.1 fun o e => k _ (by simp) o e, st.2⟩)
      (fun i h h' st k => ⟨Src.keep st.1 fun o e => k _ (by simp) o e, (show h.IsTuple a us.toArray from st.2).at fun o e => k _ (by simp) o e⟩)
    have hsz3 : us.toArray.size = us.length := by simp
    refine PySem.call_dict_pairs (knd := mixKind X.prog X.w) (kvs := (z.cps.toList.map fun c => (Sum.inr (⟨#[c]⟩ : PySem.Str) : Key)).zip us) PA hh ⟨hz', hTI, ⟨_, _, hTO⟩, ⟨i1P, trivial⟩, ⟨i2P, tupP⟩⟩ ⟨?_, ?_⟩ ?_ fun h2 tk2 hd hk => ?_
    · rw [List.length_zip, List.length_map, hsz3]; simp
    · rintro i k v ⟨⟨c, u, hc, rfl⟩, hv⟩
      have hv : us[i]? = some v := by simpa [Src.P] using hv
      refine ⟨Sum.inr ⟨#[c]⟩, ?_, mixKind_str X.prog X.w _ _⟩
      rw [List.getElem?_zip_eq_some]
      exact ⟨by rw [List.getElem?_map, Array.getElem?_toList, hc]; rfl, hv⟩
    · rw [hsz3]
      exact Nat.le_trans (Nat.min_le_right ..) (by rw [← rv.length]; exact hz)
    · have kp : ∀ b o, s2.heap.get? b = some o → h2.get? b = some o := fun b o e => by
        have lt := Heap.lt_size e
        refine hk b o ?_ (hkp b o e)
        simp only [List.mem_cons, List.not_mem_nil, or_false, not_or]
        exact ⟨(lt_ne_add lt 4).1, (lt_ne_add lt 3).1, (lt_ne_add lt 0).1, (lt_ne_add lt 1).1⟩
      have big : s2.heap.objs.size ≤ h'.objs.size := by rw [hsz]; exact Nat.le_add_right _ _
      have hmm : (h'.objs.size == sysModules) = false := beq_eq_false_iff_ne.mpr (Nat.ne_of_gt (Nat.lt_of_lt_of_le I2.big big))
      have rel : KV (kvK (zipC z ns)) ((z.cps.toList.map fun c => (Sum.inr (⟨#[c]⟩ : PySem.Str) : Key)).zip us) := kv_zip rv
      have hlen : (mergeK [] (kvK (zipC z ns))).length ≤ sizeLine := by
        refine Nat.le_trans (length_mergeK _ []) ?_
        rw [List.length_nil, Nat.zero_add, rel.length, List.length_zip]
        exact Nat.le_trans (Nat.min_le_right ..) (by rw [← rv.length]; exact hz)
      have fresh : H2 h'.objs.size = none := I2.hok.fresh big
      exact ⟨.ref h'.objs.size, upd H2 h'.objs.size (.dK (mergeK [] (kvK (zipC z ns)))), I2.laid (t' := tk2) kp big (show ObjOk X.prog X.w _ _ _ (.dK (mergeK [] (kvK (zipC z ns)))) from ⟨hlen, hmm, merged [] _, KV.merge rel .nil, hd⟩), rfl,
        kd.new S2 fresh (fun ps z => by cases z) (.dc (.inl upd_same))⟩
end
end PyD

set_option Elab.async false
set_option linter.all false
set_option maxRecDepth 100000
set_option maxHeartbeats 4000000
/-! PyD9: targets; comprehensions. -/
namespace PyD
open PySem PySem.Spec PyProof.Rows L2
/-! ### targets -/
def gNames : List Nat → TGs
  | [] => gNil
  | i :: is => gCons (gName i) (gNames is)
def gDt (K : PySem.W.Frag) : Tg → TG
  | .nm i => gName i
  | .tp is => gTup K is.length (gNames is)
def Tg.ix : Tg → List Nat
  | .nm i => [i]
  | .tp is => is
theorem wipe_get (σ : L2.St) (i : Nat) : ∀ vs : List Nat, (wipe σ vs)[i]? = if i ∈ vs then (if i < σ.length then some Option.none else Option.none) else σ[i]?
  | [] => by simp [wipe]
  | v :: vs => by
    unfold wipe
    by_cases e : v = i
    · subst e
      by_cases h : v < σ.length
      · rw [List.getElem?_set_self (by rw [wipe_length]; exact h)]; simp [h]
      · rw [List.getElem?_eq_none (by rw [List.length_set, wipe_length]; omega)]; simp [h]
    · rw [List.getElem?_set_ne e, wipe_get σ i vs]
      have : (i ∈ v :: vs) = (i ∈ vs) := by simp [Ne.symm e]
      simp only [this]
theorem wipe_set {σ : L2.St} {i : Nat} {x : Option V} {vs : List Nat} (h : i ∈ vs) : wipe (σ.set i x) vs = wipe σ vs := by
  refine List.ext_getElem? fun j => ?_
  rw [wipe_get, wipe_get, List.length_set]
  by_cases e : j ∈ vs
  · simp [e]
  · simp only [e, if_false]
    exact List.getElem?_set_ne fun z => e (by rw [← z]; exact h)
theorem wipe_wipe {σ : L2.St} {vs : List Nat} : wipe (wipe σ vs) vs = wipe σ vs := by
  refine List.ext_getElem? fun j => ?_
  rw [wipe_get, wipe_get, wipe_length]
  by_cases e : j ∈ vs <;> simp [e]
section
variable {G : Gl} {α : List Addr} {M : Ms} {Z H : Hp}
theorem ER.wipe {ρ : Env} {σ : L2.St} (h : ER G α Z ρ σ) : ∀ vs : List Nat, ER G α Z (wipeD ρ vs) (L2.wipe σ vs)
  | [] => h
  | v :: vs => by
    have ih := ER.wipe h vs
    refine ⟨by unfold wipeD L2.wipe; rw [List.length_set, List.length_set]; exact ih.len, fun i w q => ?_⟩
    unfold wipeD at q
    unfold L2.wipe
    by_cases e : v = i
    · subst e
      by_cases hl : v < (wipeD ρ vs).length
      · rw [List.getElem?_set_self hl] at q; cases q
      · rw [List.getElem?_eq_none (by rw [List.length_set]; omega)] at q; cases q
    · rw [List.getElem?_set_ne e] at q ⊢
      exact ih.at_ i w q
theorem setAll_rel {Q : L2.St → Hp → Prop} {own : List Nat} {σ0 : L2.St} : ∀ {is : List Nat} {ds : List D} {vs : List V} {ρ ρ' : Env} {σ : L2.St}, ER G α Z ρ σ → Rps G Z ds vs → setAll is ds ρ = .ok ρ' → (∀ i ∈ is, i ∈ own) → L2.wipe σ own = σ0 →
    (∀ σ', ER G α Z ρ' σ' → L2.wipe σ' own = σ0 → Q σ' H) → vs.length = is.length ∧ gNames is vs σ H Q
  | [], _, _, ρ, ρ', σ, er, .nil, e, hi, hw, q => by
    cases e
    exact ⟨rfl, rfl, q σ er hw⟩
  | i :: is, _, _, ρ, ρ', σ, er, .cons h hs, e, hi, hw, q => by
    obtain ⟨l, g⟩ := setAll_rel (is := is) (er.set i (w := .d _) h) hs e (fun j hj => hi j (List.mem_cons_of_mem _ hj)) (by rw [wipe_set (hi i List.mem_cons_self)]; exact hw) q
    exact ⟨by rw [List.length_cons, List.length_cons, l], _, _, rfl, g⟩
theorem bindT_own {Q : L2.St → Hp → Prop} {own : List Nat} {σ0 : L2.St} {K : PySem.W.Frag} (hK : K = G.K) (S : SR G α M Z H) {t : Tg} {d : D} {v : V} {ρ ρ' : Env} {σ : L2.St} (er : ER G α Z ρ σ) (r : Rp G Z d v) (e : bindT t d ρ = .ok ρ') (hi : ∀ i ∈ t.ix, i ∈ own) (hw : L2.wipe σ own = σ0)
    (q : ∀ σ', ER G α Z ρ' σ' → L2.wipe σ' own = σ0 → Q σ' H) : gDt K t v σ H Q := by
  subst hK
  cases t with
  | nm i =>
    cases e
    exact q _ (er.set i (w := .d d) r) (by rw [wipe_set (hi i List.mem_cons_self)]; exact hw)
  | tp is =>
    cases r with
    | tup h hs =>
      obtain ⟨l, g⟩ := setAll_rel er hs e hi hw q
      exact ⟨_, _, rfl, sqT_sub S h, l, g⟩
    | _ => cases e
theorem bindT_rel {Q : L2.St → Hp → Prop} {K : PySem.W.Frag} (hK : K = G.K) (S : SR G α M Z H) {t : Tg} {d : D} {v : V} {ρ ρ' : Env} {σ : L2.St} (er : ER G α Z ρ σ) (r : Rp G Z d v) (e : bindT t d ρ = .ok ρ')
    (q : ∀ σ', ER G α Z ρ' σ' → Q σ' H) : gDt K t v σ H Q :=
  bindT_own (own := t.ix) (σ0 := L2.wipe σ t.ix) hK S er r e (fun _ h => h) rfl fun σ' e' _ => q σ' e'
theorem setAll_exc : ∀ {is : List Nat} {ds : List D} {ρ : Env} (c : Nat) (M : Ms), setAll is ds ρ ≠ .exc c M
  | [], [], _, _, _ => fun h => by cases h
  | [], _ :: _, _, _, _ => fun h => by cases h
  | _ :: _, [], _, _, _ => fun h => by cases h
  | _ :: is, _ :: ds, _, c, M => setAll_exc (is := is) (ds := ds) c M
theorem bindT_exc {t : Tg} {d : D} {ρ : Env} : ∀ c M, bindT t d ρ ≠ .exc c M := fun c M => by
  cases t with
  | nm i => intro h; cases h
  | tp is =>
    cases d <;> try (intro h; cases h)
    exact setAll_exc c M
/-! ### a fresh list that grows -/
theorem NewL.grow {α0 : List Addr} {M0 : Ms} {Z0 H0 : Hp} (S : SR G α M Z H) {ds es : List D} {p : Addr} {vs us : List V} (n : NewL G α M Z H ds p vs) (r : Rps G Z es us) (h0 : Abs H0 p) (e0 : Ext α0 M0 Z0 H0 α M Z H) :
    SR G α M Z (upd H p (.lst us)) ∧ Ext α0 M0 Z0 H0 α M Z (upd H p (.lst us)) ∧ NewL G α M Z (upd H p (.lst us)) es p us := by
  have zp : ∀ {a o}, Z a = some o → a ≠ p := fun h e => by subst e; rw [n.nz] at h; cases h
  have lp : ∀ (i : Nat) (c : C) (a : Addr), M[i]? = some c → c.lv = true → α[i]? = some a → a ≠ p := fun i c a h1 h2 h3 e => by
    subst e; exact n.nl ⟨i, c, h1, h2, h3⟩
  refine ⟨⟨fun a o h => ?_, S.len, fun i c a h1 h2 h3 => ?_, S.inj, S.fro, fun a ha => ?_, S.ztab⟩, ⟨e0.same, e0.pre, fun a o h nl nt => ?_, e0.live, fun a h => ?_, e0.zold⟩, ⟨upd_same, n.nz, n.nl, r⟩⟩
  · rw [upd_ne (zp h)]; exact S.sub a o h
  · obtain ⟨q1, q2⟩ := S.cell i c a h1 h2 h3
    exact ⟨q1, q2.mono (Same.refl Z) fun o h => by rw [upd_ne (lp i c a h1 h2 h3)]; exact h⟩
  · obtain ⟨ps, t1, t2, t3⟩ := S.tabs a ha
    refine ⟨ps, by rw [upd_ne (fun e => by rw [e, n.hp] at t1; cases t1)]; exact t1, t2, fun pos cv hc => ?_⟩
    obtain ⟨c0, e1, e2⟩ := t3 pos cv hc
    refine ⟨c0, e1, by rw [upd_ne (fun e => by rw [e, n.hp] at e2; exact absurd (Option.some.inj e2) (by unfold LamX.CodeO; simp))]; exact e2⟩
  · rw [upd_ne (fun e => by subst e; exact abs_not h nt h0)]; exact e0.keep a o h nl nt
  · by_cases e : a = p
    · subst e; exact abs_not upd_same fun ps z => by cases z
    · exact fun q => e0.dom a h fun u z => q u (by rw [upd_ne e]; exact z)
/-- the fresh list is still there behind what was done -/
theorem NewL.later {α1 : List Addr} {M1 : Ms} {Z1 H1 : Hp} {ds : List D} {p : Addr} {vs : List V} (n : NewL G α M Z H ds p vs) (x : Ext α M Z H α1 M1 Z1 H1) : NewL G α1 M1 Z1 H1 ds p vs := by
  have hn : ¬ Abs H p := abs_not n.hp fun ps h => by cases h
  refine ⟨x.keep p _ n.hp n.nl (fun ps h => by cases h), x.zold p hn n.nz n.nl, fun l => ?_, n.rel.mono x.same⟩
  rcases x.live p l with q | q
  · exact n.nl q
  · exact hn q
end
theorem Post.ok_of {G : Gl} {E : XK} {α : List Addr} {M : Ms} {Z H : Hp} {β : Type} {r : R (β × Ms)} {K : β → List Addr → Ms → Hp → Hp → Prop} {b : β} {M' : Ms} (e : r = .ok (b, M')) (h : ∀ α' Z' H', Ext α M Z H α' M' Z' H' → SR G α' M' Z' H' → K b α' M' Z' H') : Post G E α M Z H r K := by
  subst e; exact h
theorem lc_step {G : Gl} {E : XK} {α : List Addr} {M Mi : Ms} {Z H : Hp} {K : List D → List Addr → Ms → Hp → Hp → Prop} {elt : D → Ms → R (Option D × Ms)} {d : D} {r acc : List D} (P : Post G E α M Z H (lcL elt (d :: r) acc Mi) K) :
    (∃ x M', elt d Mi = .ok (some x, M') ∧ acc.length < sizeLine ∧ Post G E α M Z H (lcL elt r (acc ++ [x]) M') K) ∨ (∃ M', elt d Mi = .ok (Option.none, M') ∧ Post G E α M Z H (lcL elt r acc M') K) := by
  unfold lcL at P
  match e : elt d Mi, P with
  | .ok (some x, M'), P =>
    obtain ⟨c, P⟩ := Post.stuckIf P
    exact .inl ⟨x, M', rfl, of_decide_eq_true c, P⟩
  | .ok (none, M'), P => exact .inr ⟨M', rfl, P⟩
  | .exc c M', P => exact P.elim
  | .stuck, P => exact P.elim
def F0 : XK := fun _ _ _ => False
/-- one turn of a comprehension: target, test, value -/
def eltD (cl : Nat → List W → Ms → R (W × Ms)) (e : E) (t : Tg) (c : Eo) (ρ : Env) : D → Ms → R (Option D × Ms) := fun d M => (bindT t d ρ).bind fun ρ' => (evC cl c ρ' M).bind fun q =>
  if q.1 = true then (evE cl e ρ' q.2).bind fun r => (frz r.2 r.1).bind fun r => .ok (some r.1, r.2) else .ok (Option.none, q.2)
theorem eltD_some {cl : Nat → List W → Ms → R (W × Ms)} {e : E} {t : Tg} {c : Eo} {ρ : Env} {d : D} {M M' : Ms} {x : D} (h : eltD cl e t c ρ d M = .ok (some x, M')) :
    ∃ ρ' M2 w M3, bindT t d ρ = .ok ρ' ∧ evC cl c ρ' M = .ok (true, M2) ∧ evE cl e ρ' M2 = .ok (w, M3) ∧ frz M3 w = .ok (x, M') := by
  unfold eltD at h
  obtain ⟨ρ', h1, h⟩ := bind_ok h
  obtain ⟨⟨b, M2⟩, h2, h⟩ := bind_ok h
  cases b with
  | true =>
    have h : ((evE cl e ρ' M2).bind fun r => (frz r.2 r.1).bind fun r => R.ok (some r.1, r.2)) = .ok (some x, M') := h
    obtain ⟨⟨w, M3⟩, h3, h⟩ := bind_ok h
    obtain ⟨⟨y, M4⟩, h4, h⟩ := bind_ok h
    cases h
    exact ⟨ρ', M2, w, M3, h1, h2, h3, h4⟩
  | false => cases h
theorem eltD_none {cl : Nat → List W → Ms → R (W × Ms)} {e : E} {t : Tg} {c : Eo} {ρ : Env} {d : D} {M M' : Ms} (h : eltD cl e t c ρ d M = .ok (Option.none, M')) :
    ∃ ρ', bindT t d ρ = .ok ρ' ∧ evC cl c ρ' M = .ok (false, M') := by
  unfold eltD at h
  obtain ⟨ρ', h1, h⟩ := bind_ok h
  obtain ⟨⟨b, M2⟩, h2, h⟩ := bind_ok h
  cases b with
  | true =>
    have h : ((evE cl e ρ' M2).bind fun r => (frz r.2 r.1).bind fun r => R.ok (some r.1, r.2)) = .ok (Option.none, M') := h
    obtain ⟨⟨w, M3⟩, h3, h⟩ := bind_ok h
    obtain ⟨⟨y, M4⟩, h4, h⟩ := bind_ok h
    cases h
  | false => cases h; exact ⟨ρ', h1, h2⟩
section
variable {X : Cx} {G : Gl} {cl : Nat → List W → Ms → R (W × Ms)} {Ex : XK}
/-- a later state -/
structure Aft (αs : List Addr) (Zs : Hp) (α : List Addr) (Z : Hp) : Prop where
  same : Same Zs Z
  pre : ∃ β, α = αs ++ β
theorem Aft.refl {α : List Addr} {Z : Hp} : Aft α Z α Z := ⟨Same.refl _, pre_self⟩
theorem Aft.ext {αs α α' : List Addr} {Zs Z Z' H H' : Hp} {M M' : Ms} (a : Aft αs Zs α Z) (x : Ext α M Z H α' M' Z' H') : Aft αs Zs α' Z' :=
  ⟨a.same.trans x.same, let ⟨β, e⟩ := a.pre; let ⟨γ, f⟩ := x.pre; ⟨β ++ γ, by rw [f, e, List.append_assoc]⟩⟩
theorem Ext.aft {α α' : List Addr} {Z Z' H H' : Hp} {M M' : Ms} (x : Ext α M Z H α' M' Z' H') : Aft α Z α' Z' := ⟨x.same, x.pre⟩
/-- a comprehension's turns from the state (α1, M1, Z1, H1), where the new list D was not there -/
structure Lc (G : Gl) (Ex : XK) (α1 : List Addr) (M1 : Ms) (Z1 H1 : Hp) (D : Addr) (H : Hp) (K : List PyD.D → List Addr → Ms → Hp → Hp → Prop) (rest : List PyD.D → Ms → R (List PyD.D × Ms)) (αs : List Addr) (Zs : Hp) : Prop where
  st : ∃ acc α M Z vs, Aft αs Zs α Z ∧ SR G α M Z H ∧ Ext α1 M1 Z1 H1 α M Z H ∧ NewL G α M Z H acc D vs ∧ Post G Ex α1 M1 Z1 H1 (rest acc M) K
theorem lc_turn {α1 : List Addr} {M1 : Ms} {Z1 H1 : Hp} {D : Addr} {H' : Hp} {K : List PyD.D → List Addr → Ms → Hp → Hp → Prop} {KK : PySem.W.Frag} (hK : KK = G.K) {e : E} {t : Tg} {c : Eo} {ρ : Env} {σ : L2.St} {own : List Nat} {d : PyD.D} {y : V} {r : List PyD.D} {αs : List Addr} {Zs : Hp}
    (hD : Abs H1 D) (hi : ∀ i ∈ t.ix, i ∈ own)
    (acc : List PyD.D) (α : List Addr) (M : Ms) (Z : Hp) (vs : List V) (er : ER G α Z ρ σ) (sm : Aft αs Zs α Z) (S : SR G α M Z H') (x : Ext α1 M1 Z1 H1 α M Z H') (n : NewL G α M Z H' acc D vs) (ry : Rp G Z d y)
    (P : Post G Ex α1 M1 Z1 H1 (lcL (eltD cl e t c (wipeD ρ own)) (d :: r) acc M) K) :
    gDt KK t y (L2.wipe σ own) H' fun σ2 H2 => L2.wipe σ2 own = L2.wipe σ own ∧ tC' G cl F0 c σ2 H2 fun b H3 => if b = true then tE G cl F0 e σ2 H3 fun z H4 => ∃ us, H4 D = some (.lst us) ∧ us.length < sizeLine ∧
        Lc G Ex α1 M1 Z1 H1 D (upd H4 D (.lst (us ++ [z]))) K (lcL (eltD cl e t c (wipeD ρ own)) r) αs Zs else Lc G Ex α1 M1 Z1 H1 D H3 K (lcL (eltD cl e t c (wipeD ρ own)) r) αs Zs := by
  have er2 : ER G α Z (wipeD ρ own) (L2.wipe σ own) := er.wipe own
  rcases lc_step P with ⟨v, M', h1, hz, P'⟩ | ⟨M', h1, P'⟩
  · obtain ⟨ρ', M2, w, M3, e1, e2, e3, e4⟩ := eltD_some h1
    refine bindT_own hK S er2 ry e1 hi wipe_wipe fun σ2 er3 hw => ⟨hw, ρ', α, M, Z, S, er3, Post.ok_of e2 fun α2 Z2 H2 x2 S2 b eb => ?_⟩
    have eb : b = true := eb
    subst eb
    show ite (true = true) _ _
    rw [if_pos rfl]
    refine ⟨ρ', α2, M2, Z2, S2, er3.mono x2.same x2.pre, Post.ok_of e3 fun α3 Z3 H3 x3 S3 u ru => ?_⟩
    obtain ⟨Z4, S4, x4, r4⟩ := frz_rel S3 ru e4
    have n4 := ((n.later x2).later x3).later x4
    obtain ⟨S5, x5, n5⟩ := n4.grow S4 (n4.rel.append (.cons r4 .nil)) hD (((x.trans x2).trans x3).trans x4)
    exact ⟨vs, n4.hp, by rw [← n4.rel.length]; exact hz, ⟨_, _, _, _, _, ((sm.ext x2).ext x3).ext x4, S5, x5, n5, P'⟩⟩
  · obtain ⟨ρ', e1, e2⟩ := eltD_none h1
    refine bindT_own hK S er2 ry e1 hi wipe_wipe fun σ2 er3 hw => ⟨hw, ρ', α, M, Z, S, er3, Post.ok_of e2 fun α2 Z2 H2 x2 S2 b eb => ?_⟩
    have eb : b = false := eb
    subst eb
    show ite (false = true) _ _
    rw [if_neg Bool.false_ne_true]
    exact ⟨_, _, _, _, _, sm.ext x2, S2, x.trans x2, n.later x2, P'⟩
theorem drop_cons {ds : List D} {i : Nat} {d : D} (h : ds[i]? = some d) : ds.drop i = d :: ds.drop (i + 1) := by
  obtain ⟨hl, e⟩ := List.getElem?_eq_some_iff.mp h
  rw [List.drop_eq_getElem_cons hl, e]
theorem wkd_walk {J : L2.It} {ds : List D} {Z0 : Hp} (w : WkD G J ds Z0) : Walk J ds.length (fun H => ∃ α M Z, Same Z0 Z ∧ SR G α M Z H)
    (fun i H x H' => ∀ α M Z, Same Z0 Z → SR G α M Z H → ∃ d Z', ds[i]? = some d ∧ Rp G Z' d x ∧ SR G α M Z' H' ∧ Ext α M Z H α M Z' H') :=
  ⟨fun i H hi ⟨α, M, Z, s, S⟩ => w.goes i α M Z H hi s S, fun H ⟨α, M, Z, s, S⟩ => w.stops α M Z H s S, fun i H x H' hi _ y α M Z s S => w.yld i x α M Z H H' hi s S y⟩
theorem lc_reads {KK : PySem.W.Frag} (hK : KK = G.K) {e : E} {t : Tg} {ir : Ir} {c : Eo} {own : List Nat} (hi : ∀ i ∈ t.ix, i ∈ own) {σ : L2.St} {H : Hp} {Q : VK} (q : tF G cl Ex (.lc e t ir c own) σ H Q) :
    tLc (tI G cl Ex ir) (gDt KK t) (tC' G cl F0 c) (tE G cl F0 e) own σ H Q := by
  obtain ⟨ρ, α, M, Z, S, er, P⟩ := q
  unfold evF at P
  refine ⟨ρ, α, M, Z, S, er, P.bind.imp fun ds α1 M1 Z1 H1 x1 S1 P1 J wk D hD => ?_⟩
  have er1 := er.mono x1.same x1.pre
  have P1 : Post G Ex α1 M1 Z1 H1 (lcL (eltD cl e t c (wipeD ρ own)) ds [] M1) _ := P1
  obtain ⟨n1, S2, x2⟩ := newL_mk S1 hD (ds := []) (vs := []) .nil
  refine lc_it (wkd_walk wk) (fun i H' => Lc G Ex α1 M1 Z1 H1 D H' (fun ds α' M' Z' H' => ∀ p vs, Abs H p → NewL G α' M' Z' H' ds p vs → Q (.ref p) H') (lcL (eltD cl e t c (wipeD ρ own)) (ds.drop i)) α1 Z1) ⟨[], α1, M1, Z1, [], Aft.refl, S2, x2, n1, by rw [List.drop_zero]; exact P1⟩
    (fun i H' _ h => ?_) (fun i y H' H'' hl h hy => ?_) fun H' h => ?_
  · obtain ⟨acc, α', M', Z', vs, sm, S', x', _, _⟩ := h
    exact ⟨α', M', Z', sm.same, S'⟩
  · obtain ⟨acc, α', M', Z', vs, sm, S', x', n', P'⟩ := h
    obtain ⟨d, Z2, e1, rd, S3, x3⟩ := hy α' M' Z' sm.same S'
    rw [drop_cons e1] at P'
    exact lc_turn hK (.of hD) hi acc α' M' Z2 vs (er1.mono (x'.trans x3).same (x'.trans x3).pre) (sm.ext x3) S3 (x'.trans x3) (n'.later x3) rd P'
  · obtain ⟨acc, α', M', Z', vs, sm, S', x', n', P'⟩ := h
    rw [List.drop_length] at P'
    exact P' α' Z' H' x' S' D vs (dom_none x1 hD) n'
theorem lc2_step {α : List Addr} {M Mi : Ms} {Z H : Hp} {K : List D → List Addr → Ms → Hp → Hp → Prop} {inner : D → List D → Ms → R (List D × Ms)} {d : D} {r acc : List D} (P : Post G Ex α M Z H (lc2L inner (d :: r) acc Mi) K) :
    ∃ acc' M', inner d acc Mi = .ok (acc', M') ∧ Post G Ex α M Z H (lc2L inner r acc' M') K := by
  unfold lc2L at P
  match e : inner d acc Mi, P with
  | .ok (a, M'), P => exact ⟨a, M', rfl, P⟩
  | .exc c M', P => exact P.elim
  | .stuck, P => exact P.elim
/-- a turn of the outer for -/
def inD (cl : Nat → List W → Ms → R (W × Ms)) (e : E) (t t1 : Tg) (ir1 : Ir) (c : Eo) (own1 : List Nat) (ρ : Env) : D → List D → Ms → R (List D × Ms) := fun d acc M => (bindT t d ρ).bind fun ρ' => (evI cl ir1 ρ' M).bind fun p1 =>
  lcL (eltD cl e t1 c (wipeD ρ' own1)) p1.1 acc p1.2
theorem lc2_reads {KK : PySem.W.Frag} (hK : KK = G.K) {e : E} {t t1 : Tg} {ir ir1 : Ir} {c : Eo} {own own1 : List Nat} (hi : ∀ i ∈ t.ix, i ∈ own) (hi1 : ∀ i ∈ t1.ix, i ∈ own1) {σ : L2.St} {H : Hp} {Q : VK} (q : tF G cl Ex (.lc2 e t ir t1 ir1 c own own1) σ H Q) :
    tLc2 (tI G cl Ex ir) (gDt KK t) tYes (tI G cl F0 ir1) (gDt KK t1) (tC' G cl F0 c) (tE G cl F0 e) own own1 σ H Q := by
  obtain ⟨ρ, α, M, Z, S, er, P⟩ := q
  unfold evF at P
  refine ⟨ρ, α, M, Z, S, er, P.bind.imp fun ds α1 M1 Z1 H1 x1 S1 P1 J wk D hD => ?_⟩
  have er1 := er.mono x1.same x1.pre
  have P1 : Post G Ex α1 M1 Z1 H1 (lc2L (inD cl e t t1 ir1 c own1 (wipeD ρ own)) ds [] M1) (fun ds α' M' Z' H' => ∀ p vs, Abs H p → NewL G α' M' Z' H' ds p vs → Q (.ref p) H') := P1
  obtain ⟨n1, S2, x2⟩ := newL_mk S1 hD (ds := []) (vs := []) .nil
  refine ⟨fun i m H' => m = ds.length - i ∧ i ≤ ds.length ∧ Lc G Ex α1 M1 Z1 H1 D H' (fun ds α' M' Z' H' => ∀ p vs, Abs H p → NewL G α' M' Z' H' ds p vs → Q (.ref p) H') (lc2L (inD cl e t t1 ir1 c own1 (wipeD ρ own)) (ds.drop i)) α1 Z1,
    ⟨_, rfl, Nat.zero_le _, ⟨[], α1, M1, Z1, [], Aft.refl, S2, x2, n1, by rw [List.drop_zero]; exact P1⟩⟩, ?_⟩
  rintro i m H' ⟨rfl, hle, acc, α', M', Z', vs, sm, S', x', n', P'⟩
  by_cases hlt : i < ds.length
  · refine .inr ⟨wk.goes i α' M' Z' H' hlt sm.same S', fun H'' => Lc G Ex α1 M1 Z1 H1 D H'' (fun ds α' M' Z' H' => ∀ p vs, Abs H p → NewL G α' M' Z' H' ds p vs → Q (.ref p) H') (lc2L (inD cl e t t1 ir1 c own1 (wipeD ρ own)) (ds.drop (i + 1))) α1 Z1,
      fun H'' h => ⟨ds.length - (i + 1), by omega, rfl, hlt, h⟩, fun y H'' hy => ?_⟩
    obtain ⟨d, Z2, e1, rd, S3, x3⟩ := wk.yld i y α' M' Z' H' H'' hlt sm.same S' hy
    rw [drop_cons e1] at P'
    obtain ⟨acc', M'', h1, P2⟩ := lc2_step P'
    unfold inD at h1
    obtain ⟨ρ', e2, h1⟩ := bind_ok h1
    obtain ⟨⟨es, M4⟩, e3, h1⟩ := bind_ok h1
    have h1 : lcL (eltD cl e t1 c (wipeD ρ' own1)) es acc M4 = .ok (acc', M'') := h1
    have er2 : ER G α' Z2 (wipeD ρ own) (L2.wipe σ own) := (er1.mono (x'.trans x3).same (x'.trans x3).pre).wipe own
    refine bindT_own hK S3 er2 rd e2 hi wipe_wipe fun σ2 er3 hw => ⟨hw, ?_⟩
    unfold tYes
    simp only [if_true]
    refine ⟨ρ', α', M', Z2, S3, er3, Post.ok_of e3 fun α4 Z4 H4 x4 S4 J1 wk1 => ?_⟩
    have er4 := er3.mono x4.same x4.pre
    have PI : Post G Ex α1 M1 Z1 H1 (lcL (eltD cl e t1 c (wipeD ρ' own1)) es acc M4) fun a _ Ma _ _ => Post G Ex α1 M1 Z1 H1 (lc2L (inD cl e t t1 ir1 c own1 (wipeD ρ own)) (ds.drop (i + 1)) a Ma) (fun ds α' M' Z' H' => ∀ p vs, Abs H p → NewL G α' M' Z' H' ds p vs → Q (.ref p) H') :=
      Post.ok_of h1 fun _ _ _ _ _ => P2
    have smo := (sm.ext x3).ext x4
    refine ⟨fun j k H5 => k = es.length - j ∧ j ≤ es.length ∧ Lc G Ex α1 M1 Z1 H1 D H5 (fun a _ Ma _ _ => Post G Ex α1 M1 Z1 H1 (lc2L (inD cl e t t1 ir1 c own1 (wipeD ρ own)) (ds.drop (i + 1)) a Ma) (fun ds α' M' Z' H' => ∀ p vs, Abs H p → NewL G α' M' Z' H' ds p vs → Q (.ref p) H'))
        (lcL (eltD cl e t1 c (wipeD ρ' own1)) (es.drop j)) α4 Z4, ⟨_, rfl, Nat.zero_le _, ⟨acc, α4, M4, Z4, vs, Aft.refl, S4, (x'.trans x3).trans x4, (n'.later x3).later x4, by rw [List.drop_zero]; exact PI⟩⟩, ?_⟩
    rintro j k H5 ⟨rfl, hle5, ⟨acc5, α5, M5, Z5, vs5, sm5, S5, x5, n5, P5⟩⟩
    by_cases hlt5 : j < es.length
    · refine .inr ⟨wk1.goes j α5 M5 Z5 H5 hlt5 sm5.same S5, fun H6 => Lc G Ex α1 M1 Z1 H1 D H6 (fun a _ Ma _ _ => Post G Ex α1 M1 Z1 H1 (lc2L (inD cl e t t1 ir1 c own1 (wipeD ρ own)) (ds.drop (i + 1)) a Ma) (fun ds α' M' Z' H' => ∀ p vs, Abs H p → NewL G α' M' Z' H' ds p vs → Q (.ref p) H'))
        (lcL (eltD cl e t1 c (wipeD ρ' own1)) (es.drop (j + 1))) α4 Z4, fun H6 h => ⟨es.length - (j + 1), by omega, rfl, hlt5, h⟩, fun z H6 hz => ?_⟩
      obtain ⟨d6, Z6, e6, rd6, S6, x6⟩ := wk1.yld j z α5 M5 Z5 H5 H6 hlt5 sm5.same S5 hz
      rw [drop_cons e6] at P5
      exact lc_turn hK (.of hD) hi1 acc5 α5 M5 Z6 vs5 (er4.mono (sm5.ext x6).same (sm5.ext x6).pre) (sm5.ext x6) S6 (x5.trans x6) (n5.later x6) rd6 P5
    · have e5 : j = es.length := by omega
      subst e5
      rw [List.drop_length] at P5
      exact .inl ⟨wk1.stops α5 M5 Z5 H5 sm5.same S5, ⟨acc5, α5, M5, Z5, vs5, x5.aft, S5, x5, n5, P5 α5 Z5 H5 x5 S5⟩⟩
  · have e : i = ds.length := by omega
    subst e
    rw [List.drop_length] at P'
    exact .inl ⟨wk.stops α' M' Z' H' sm.same S', P' α' Z' H' x' S' D vs (dom_none x1 hD) n'⟩
/-- tests of a clause -/
theorem d_pt0 : PTs X [] (tC' G cl Ex .none) := by
  refine ⟨fun pins s σ H Q I q => pts_nil.run pins s σ H Q I ?_⟩
  obtain ⟨ρ, α, M, Z, S, er, P⟩ := q
  unfold evC at P
  exact P.ok S true rfl
theorem d_pt1 {e : Expr} {ee : E} (h : PT X e (tT G cl Ex ee)) : PTs X [e] (tC' G cl Ex (.some ee)) := by
  refine ⟨fun pins s σ H Q I q => (pts_one h).run pins s σ H Q I ?_⟩
  obtain ⟨ρ, α, M, Z, S, er, P⟩ := q
  unfold evC at P
  exact ⟨ρ, α, M, Z, S, er, P⟩
/-- a name that the block may store -/
def StOk (X : Cx) (x : PySem.Str) : Prop := Loc X.env.scope x ∧ (X.fn x = true ∨ X.env.scope.names.lookup x = some .local)
inductive NmOk (X : Cx) : List Expr → List Nat → Prop
  | nil : NmOk X [] []
  | cons {x : PySem.Str} {pos : Pos} {i : Nat} {es : List Expr} {is : List Nat} : X.N[i]? = some x → StOk X x → NmOk X es is → NmOk X (.Name x pos :: es) (i :: is)
theorem NmOk.len : ∀ {es : List Expr} {is : List Nat}, NmOk X es is → es.length = is.length
  | _, _, .nil => rfl
  | _, _, .cons _ _ h => by rw [List.length_cons, List.length_cons, NmOk.len h]
theorem NmOk.nst : ∀ {es : List Expr} {is : List Nat}, NmOk X es is → es.all nst = true
  | _, _, .nil => rfl
  | _, _, .cons _ _ h => by rw [List.all_cons, NmOk.nst h]; rfl
theorem pgs_names (hN : X.N.Nodup) : ∀ {es : List Expr} {is : List Nat}, NmOk X es is → PGs X es (gNames is)
  | _, _, .nil => pgs_nil
  | _, _, .cons hi hs h => pgs_cons (pg_name hN hi hs.1 hs.2) (pgs_names hN h) rfl
theorem names_len {env : PySem.Env} : ∀ {es : List Expr}, (assignEach es env).length = es.length
  | [] => rfl
  | e :: es => by cases e <;> (show (assignEach es env).length + 1 = es.length + 1; rw [names_len])
theorem names_star {env : PySem.Env} : ∀ {es : List Expr}, es.all nst = true → (assignEach es env).findIdx? (·.1) = Option.none
  | [], _ => rfl
  | e :: es, h => by
    rw [List.all_cons] at h
    have h := Bool.and_eq_true_iff.mp h
    have ih := names_star (env := env) h.2
    have : assignEach (e :: es) env = (false, assign e env) :: assignEach es env := by cases e <;> first | rfl | cases h.1
    rw [this, List.findIdx?_cons]
    simp [ih]
theorem d_tgName (hN : X.N.Nodup) {i : Nat} {x : PySem.Str} {pos : Pos} (hi : X.N[i]? = some x) (hx : StOk X x) : PG X (.Name x pos) (gDt X.K (.nm i)) := pg_name hN hi hx.1 hx.2
theorem d_tgTup (hc : X.calm = true) (hN : X.N.Nodup) {es : List Expr} {is : List Nat} {k : Nat} {pos : Pos} (h : NmOk X es is) : PG X (.Tuple es k pos) (gDt X.K (.tp is)) := by
  show PG X _ (gTup X.K is.length (gNames is))
  rw [← h.len]
  exact pg_tup hc (pgs_names hN h) names_len (names_star h.nst)
/-! ### the rules -/
def notSet : Expr → Bool
  | .Set .. => false
  | _ => true
theorem fsi {e : Expr} {env : PySem.Env} (h : notSet e = true) : ∀ x, foldedSetIterable e env x = pure x := by
  intro x
  cases e <;> first | rfl | cases h
theorem d_lc (hc : X.calm = true) (hN : X.N.Nodup) (hK : X.K = G.K) {elt tg iter : Expr} {ifs : List Expr} {scope : Scope} {own : List (PySem.Str × Nat)} {pos : Pos} {t : Tg} {ir : Ir} {c : Eo} {e : E} (hi : PI X tg iter (tI G cl Ex ir)) (ok : BlkOk X.N X.env.scope scope own) (hx : ∀ i ∈ t.ix, i ∈ own.map (·.2))
    (hg : ∀ (s : Shared) (H : Hp) (C : Addr) (cl : List (PySem.Str × Addr)) (fp : List Addr), PG (X.blk s H scope (compEnvC scope cl C X.env) fp) tg (gDt X.K t)) (ht : ∀ (s : Shared) (H : Hp) (C : Addr) (c' : List (PySem.Str × Addr)) (fp : List Addr), PTs (X.blk s H scope (compEnvC scope c' C X.env) fp) ifs (tC' G cl F0 c))
    (he : ∀ (s : Shared) (H : Hp) (C : Addr) (c' : List (PySem.Str × Addr)) (fp : List Addr), PE (X.blk s H scope (compEnvC scope c' C X.env) fp) elt (tE G cl F0 e)) (hs : notSet iter = true) :
    PE X (.ListComp elt [⟨tg, iter, ifs, 0⟩] scope pos) (tF G cl Ex (.lc e t ir c (own.map (·.2)))) :=
  (pe_lc hc hN hi ok hg ht he (fsi hs)).imp fun σ H Q q => lc_reads hK hx q
theorem d_lc2 (hc : X.calm = true) (hN : X.N.Nodup) (hK : X.K = G.K) {elt tg iter tg1 iter1 : Expr} {ifs1 : List Expr} {scope : Scope} {own : List (PySem.Str × Nat)} {pos : Pos} {t t1 : Tg} {ir ir1 : Ir} {c : Eo} {e : E} (hi : PI X tg iter (tI G cl Ex ir)) (ok : BlkOk X.N X.env.scope scope own) (hx : ∀ i ∈ t.ix, i ∈ own.map (·.2))
    {vs1 : List Nat} (hv : ∀ i ∈ vs1, i ∈ own.map (·.2)) (hx1 : ∀ i ∈ t1.ix, i ∈ vs1)
    (hg : ∀ (s : Shared) (H : Hp) (C : Addr) (cl : List (PySem.Str × Addr)) (fp : List Addr), PG (X.blk s H scope (compEnvC scope cl C X.env) fp) tg (gDt X.K t))
    (hi1 : ∀ (s : Shared) (H : Hp) (C : Addr) (c' : List (PySem.Str × Addr)) (fp : List Addr), PI (X.blk s H scope (compEnvC scope c' C X.env) fp) tg1 iter1 (tI G cl F0 ir1))
    (hg1 : ∀ (s : Shared) (H : Hp) (C : Addr) (cl : List (PySem.Str × Addr)) (fp : List Addr), PG (X.blk s H scope (compEnvC scope cl C X.env) fp) tg1 (gDt X.K t1)) (ht : ∀ (s : Shared) (H : Hp) (C : Addr) (c' : List (PySem.Str × Addr)) (fp : List Addr), PTs (X.blk s H scope (compEnvC scope c' C X.env) fp) ifs1 (tC' G cl F0 c))
    (he : ∀ (s : Shared) (H : Hp) (C : Addr) (c' : List (PySem.Str × Addr)) (fp : List Addr), PE (X.blk s H scope (compEnvC scope c' C X.env) fp) elt (tE G cl F0 e)) (hs : notSet iter = true) (hs1 : notSet iter1 = true) :
    PE X (.ListComp elt [⟨tg, iter, [], 0⟩, ⟨tg1, iter1, ifs1, 0⟩] scope pos) (tF G cl Ex (.lc2 e t ir t1 ir1 c (own.map (·.2)) vs1)) :=
  (pe_lc2 hc hN hi ok hv hg (fun _ _ _ _ _ => pts_nil) hi1 hg1 ht he (fsi hs) (fun _ => fsi hs1)).imp fun σ H Q q => lc2_reads hK hx hx1 q
end
end PyD

set_option Elab.async false
set_option linter.all false
set_option maxRecDepth 100000
set_option maxHeartbeats 4000000
/-! PyD10: statements. -/
namespace PyD
open PySem PySem.Spec PyProof.Rows L2
/-- what follows a statement -/
def endK (G : Gl) (D : L2.Ends) : Fl × Env → List Addr → Ms → Hp → Hp → Prop := fun b α' _ Z' H' => match b.1 with
  | .nx => ∀ σ', ER G α' Z' b.2 σ' → D.nx σ' H'
  | .rt w => ∀ v, RpW G α' Z' w v → D.rt v H'
def tG1 (G : Gl) (Ex : XK) (ev : Env → Ms → R ((Fl × Env) × Ms)) : TS := fun D σ H => ∃ ρ α M Z, SR G α M Z H ∧ ER G α Z ρ σ ∧ Post G Ex α M Z H (ev ρ M) (endK G D)
abbrev tS (G : Gl) (cl : Nat → List W → Ms → R (W × Ms)) (wf : Nat) (Ex : XK) (s : S) : TS := tG1 G Ex (evS cl wf s)
abbrev tSs (G : Gl) (cl : Nat → List W → Ms → R (W × Ms)) (wf : Nat) (Ex : XK) (s : Ss) : TS := tG1 G Ex (evSs cl wf s)
section
variable {X : Cx} {G : Gl} {cl : Nat → List W → Ms → R (W × Ms)} {wf : Nat} {Ex : XK}
theorem cellOf_exc {M : Ms} {w : W} (c : Nat) (M' : Ms) : cellOf M w ≠ .exc c M' := by
  cases w with
  | d x => intro h; cases h
  | c i =>
    simp only [cellOf]
    split <;> (intro h; cases h)
theorem cellOf_rel {α : List Addr} {M : Ms} {Z H : Hp} (S : SR G α M Z H) {w : W} {v : V} {i : Nat} (r : RpW G α Z w v) (e : cellOf M w = .ok i) : ∃ a vs, w = .c i ∧ v = .ref a ∧ α[i]? = some a ∧ H a = some (.lst vs) := by
  cases w with
  | d x => cases e
  | c j =>
    obtain ⟨a, h1, rfl⟩ := r
    simp only [cellOf] at e
    cases q : M[j]? with
    | none => simp only [q] at e; cases e
    | some c =>
      simp only [q] at e
      cases c with
      | lst ds =>
        cases e
        obtain ⟨_, vs, ha, _⟩ := S.cell _ _ a q rfl h1
        exact ⟨a, vs, rfl, rfl, h1, ha⟩
      | _ => cases e
/-- what is not told -/
theorem d_bad {st : Stmt} : PS X st (tS G cl wf Ex .bad) := ⟨fun pins s σ H D I q => by
  obtain ⟨ρ, α, M, Z, S, er, P⟩ := q
  unfold evS at P
  exact P.elim⟩
theorem d_pass {pos : Pos} : PS X (.Pass pos) (tS G cl wf Ex .pass) := ps_pass.imp fun D σ H q => by
  obtain ⟨ρ, α, M, Z, S, er, P⟩ := q
  unfold evS at P
  exact P.ok S σ er
theorem d_doc {x : PySem.Str} {j : Nat} {pos pos' : Pos} : PS X (.Expr (.Constant (.str x) j pos) pos') (tS G cl wf Ex .pass) := ps_doc.imp fun D σ H q => by
  obtain ⟨ρ, α, M, Z, S, er, P⟩ := q
  unfold evS at P
  exact P.ok S σ er
theorem d_ss0 : PSs X [] (tSs G cl wf Ex .nil) := pss_nil.imp fun D σ H q => by
  obtain ⟨ρ, α, M, Z, S, er, P⟩ := q
  unfold evSs at P
  exact P.ok S σ er
theorem d_ss {s : Stmt} {ss : List Stmt} {e : S} {es : Ss} (h : PS X s (tS G cl wf Ex e)) (hs : PSs X ss (tSs G cl wf Ex es)) : PSs X (s :: ss) (tSs G cl wf Ex (.cons e es)) := (pss_cons h hs).imp fun D σ H q => by
  obtain ⟨ρ, α, M, Z, S, er, P⟩ := q
  unfold evSs at P
  refine ⟨ρ, α, M, Z, S, er, P.bind.imp fun b α1 M1 Z1 H1 x1 S1 P1 => ?_⟩
  obtain ⟨fl, ρ1⟩ := b
  cases fl with
  | nx => exact fun σ' er' => ⟨ρ1, α1, M1, Z1, S1, er', P1⟩
  | rt w => exact fun v rv => P1.ok S1 v rv
theorem d_ex {e : Expr} {ee : E} {pos : Pos} (hs : swapsWith e Option.none pos.line X.env = pure false) (he : PE X e (tE G cl Ex ee)) : PS X (.Expr e pos) (tS G cl wf Ex (.ex ee)) := (ps_expr he hs).imp fun D σ H q => by
  obtain ⟨ρ, α, M, Z, S, er, P⟩ := q
  unfold evS at P
  exact one S er P fun w1 α1 M1 Z1 H1 v1 S1 x1 r1 P1 => P1.ok S1 σ (er.mono x1.same x1.pre)
theorem d_ret {e : Expr} {ee : E} {pos : Pos} (he : PE X e (tE G cl Ex ee)) : PS X (.Return (some e) pos) (tS G cl wf Ex (.ret ee)) := (ps_ret he).imp fun D σ H q => by
  obtain ⟨ρ, α, M, Z, S, er, P⟩ := q
  unfold evS at P
  refine one S er P fun w1 α1 M1 Z1 H1 v1 S1 x1 r1 P1 => ?_
  obtain ⟨x, M', Z', S', x', r', P'⟩ := post_frz S1 r1 P1
  exact P'.ok S' _ r'
theorem d_retc {e : Expr} {ee : E} {pos : Pos} (he : PE X e (tE G cl Ex ee)) : PS X (.Return (some e) pos) (tS G cl wf Ex (.retc ee)) := (ps_ret he).imp fun D σ H q => by
  obtain ⟨ρ, α, M, Z, S, er, P⟩ := q
  unfold evS at P
  exact one S er P fun w1 α1 M1 Z1 H1 v1 S1 x1 r1 P1 => P1.ok S1 _ r1
theorem d_retn {pos : Pos} : PS X (.Return Option.none pos) (tS G cl wf Ex .retn) := ps_retN.imp fun D σ H q => by
  obtain ⟨ρ, α, M, Z, S, er, P⟩ := q
  unfold evS at P
  exact P.ok S _ Rp.non
theorem d_if {c : Expr} {a b : List Stmt} {ec : E} {ea eb : Ss} {pos : Pos} (hc : PT X c (tT G cl Ex ec)) (ha : PSs X a (tSs G cl wf Ex ea)) (hb : PSs X b (tSs G cl wf Ex eb)) : PS X (.If c a b pos) (tS G cl wf Ex (.ife ec ea eb)) := (ps_if hc ha hb).imp fun D σ H q => by
  obtain ⟨ρ, α, M, Z, S, er, P⟩ := q
  unfold evS at P
  refine tT_then (f := fun i p => if i = true then evSs cl wf ea ρ p.2 else evSs cl wf eb ρ p.2) S er P fun i w α1 M1 Z1 H1 S1 x1 P1 => ?_
  cases i with
  | true => exact ⟨ρ, α1, M1, Z1, S1, er.mono x1.same x1.pre, P1⟩
  | false => exact ⟨ρ, α1, M1, Z1, S1, er.mono x1.same x1.pre, P1⟩
/-! ### stores -/
theorem set_reads {i : Nat} {ee : E} {D : L2.Ends} {σ : L2.St} {H : Hp} (q : tS G cl wf Ex (.asg (.nm i) ee) D σ H) : tAsg (tE G cl Ex ee) (gName i) D σ H := by
  obtain ⟨ρ, α, M, Z, S, er, P⟩ := q
  unfold evS at P
  exact one S er P fun w1 α1 M1 Z1 H1 v1 S1 x1 r1 P1 => P1.ok S1 _ ((er.mono x1.same x1.pre).set i r1)
theorem d_set (hN : X.N.Nodup) {i : Nat} {x : PySem.Str} {e : Expr} {ee : E} {p pos : Pos} (hi : X.N[i]? = some x) (hx : StOk X x) (hs : swapsWith e (some (.Name x p)) pos.line X.env = pure false) (he : PE X e (tE G cl Ex ee)) :
    PS X (.Assign [.Name x p] e pos) (tS G cl wf Ex (.asg (.nm i) ee)) := (ps_set hN hi hx.1 he hs hx.2).imp fun D σ H q => set_reads q
/-- x = [.. for .. in ..] on one line -/
theorem d_setLc (hc : X.calm = true) (hN : X.N.Nodup) (hK : X.K = G.K) {i : Nat} {y : PySem.Str} {py spos : Pos} {nwf : Bool} {elt tg iter : Expr} {ifs : List Expr} {scope : Scope} {own : List (PySem.Str × Nat)} {pos : Pos} {t : Tg} {ir : Ir} {c : Eo} {e : E}
    (hy : X.N[i]? = some y) (hyl : X.env.scope.names.lookup y = some .local) (hsw : swapsWith (.ListComp elt [⟨tg, iter, ifs, 0⟩] scope pos) (some (.Name y py)) spos.line X.env = pure true)
    (hi : PI X tg iter (tI G cl Ex ir)) (ok : BlkOk X.N X.env.scope scope own) (hx : ∀ i ∈ t.ix, i ∈ own.map (·.2))
    (hg : ∀ (s : Shared) (H : Hp) (C : Addr) (cl : List (PySem.Str × Addr)) (fp : List Addr), PG (X.blk s H scope (compEnvC scope cl C X.env) fp) tg (gDt X.K t)) (ht : ∀ (s : Shared) (H : Hp) (C : Addr) (c' : List (PySem.Str × Addr)) (fp : List Addr), PTs (X.blk s H scope (compEnvC scope c' C X.env) fp) ifs (tC' G cl F0 c))
    (he : ∀ (s : Shared) (H : Hp) (C : Addr) (c' : List (PySem.Str × Addr)) (fp : List Addr), PE (X.blk s H scope (compEnvC scope c' C X.env) fp) elt (tE G cl F0 e)) (hs : notSet iter = true) :
    PS X (.Assign [.Name y py] (.ListComp elt [⟨tg, iter, ifs, 0⟩] scope pos) spos) (tS G cl wf Ex (.asg (.nm i) (if nwf = true then .nw (.lc e t ir c (own.map (·.2))) else .fr (.lc e t ir c (own.map (·.2)))))) :=
  (ps_setLc hc hN hy hyl hsw hi ok hg ht he (fsi hs)).imp fun D σ H q => by
    have q := set_reads q
    cases nwf with
    | false =>
      have q : tE G cl Ex (.fr (.lc e t ir c (own.map (·.2)))) σ H fun x H1 => gName i x σ H1 D.nx := q
      show tLc _ _ _ _ _ σ H _
      refine lc_reads hK hx ?_
      obtain ⟨ρ, α, M, Z, S, er, P⟩ := q
      unfold evE at P
      refine ⟨ρ, α, M, Z, S, er, P.part fun ds M1 e P1 α1 Z1 H1 x1 S1 p vs hp n => ?_⟩
      obtain ⟨r, S2, x2⟩ := n.data S1 hp x1
      exact P1 α1 _ H1 x2 S2 _ r
    | true =>
      have q : tE G cl Ex (.nw (.lc e t ir c (own.map (·.2)))) σ H fun x H1 => gName i x σ H1 D.nx := q
      show tLc _ _ _ _ _ σ H _
      refine lc_reads hK hx ?_
      obtain ⟨ρ, α, M, Z, S, er, P⟩ := q
      unfold evE at P
      refine ⟨ρ, α, M, Z, S, er, P.part fun ds M1 e P1 α1 Z1 H1 x1 S1 p vs hp n => ?_⟩
      obtain ⟨S2, x2⟩ := S1.push n.hp n.nz n.nl n.rel hp x1
      refine P1 (α1 ++ [p]) Z1 H1 x2 S2 (.ref p) ⟨p, ?_, rfl⟩
      rw [← S1.len]
      simp
/-- a, b = e -/
theorem d_unp (hc : X.calm = true) (hK : X.K = G.K) {tg e : Expr} {is : List Nat} {ee : E} {pos : Pos} (hg : PG X tg (gDt X.K (.tp is))) (hs : swapsWithSole [tg] e pos.line X.env = pure false) (hw : swappedStores [tg] e X.env = pure Option.none) (h1 : (assignEach [tg] X.env).map (·.2) = [assign tg X.env])
    (he : PE X e (tE G cl Ex ee)) : PS X (.Assign [tg] e pos) (tS G cl wf Ex (.asg (.tp is) ee)) := (ps_asg he hg hs hw h1).imp fun D σ H q => by
  obtain ⟨ρ, α, M, Z, S, er, P⟩ := q
  unfold evS at P
  refine one S er P fun w1 α1 M1 Z1 H1 v1 S1 x1 r1 P1 => ?_
  obtain ⟨x, M', Z', S', x', r', P'⟩ := post_frz S1 r1 P1
  obtain ⟨ρ', e2, P2⟩ := Post.look bindT_exc P'
  exact bindT_rel hK S' (er.mono (x1.trans x').same (x1.trans x').pre) r' e2 fun σ' er' => P2.ok S' σ' er'
theorem setW_exc : ∀ {is : List Nat} {ds : List W} {ρ : Env} (c : Nat) (M : Ms), setW is ds ρ ≠ .exc c M
  | [], [], _, _, _ => fun h => by cases h
  | [], _ :: _, _, _, _ => fun h => by cases h
  | _ :: _, [], _, _, _ => fun h => by cases h
  | _ :: is, _ :: ds, _, c, M => setW_exc (is := is) (ds := ds) c M
theorem d_par2 (hc : X.calm = true) (hN : X.N.Nodup) {i j : Nat} {x y : PySem.Str} {a b : Expr} {ees : Es} {px py pt pos : Pos} {kt k2 : Nat} {pt2 : Pos} (hi : X.N[i]? = some x) (hj : X.N[j]? = some y) (hij : i ≠ j) (hx : X.env.scope.names.lookup x = some .local) (hy : X.env.scope.names.lookup y = some .local)
    (hw : swappedStores [.Tuple [.Name x px, .Name y py] kt pt] (.Tuple [a, b] k2 pt2) X.env = pure (some [x, y])) (ha : PA X [a, b] (tEs G cl Ex ees)) : PS X (.Assign [.Tuple [.Name x px, .Name y py] kt pt] (.Tuple [a, b] k2 pt2) pos) (tS G cl wf Ex (.par [i, j] ees)) :=
  (ps_par hc hN hi hj hij hx hy ha hw).imp fun D σ H q => by
    obtain ⟨ρ, α, M, Z, S, er, P⟩ := q
    unfold evS at P
    refine ⟨ρ, α, M, Z, S, er, P.bind.imp fun ws α1 M1 Z1 H1 x1 S1 P1 vs rs => ?_⟩
    have er1 := er.mono x1.same x1.pre
    obtain ⟨ρ', e2, P2⟩ := Post.look setW_exc P1
    match ws, vs, rs, e2 with
    | [v, w], _, .cons r1 (.cons r2 .nil), e2 => cases e2; exact ⟨_, _, rfl, P2.ok S1 _ ((er1.set i r1).set j r2)⟩
theorem d_par3 (hc : X.calm = true) (hN : X.N.Nodup) {i j l : Nat} {x y z : PySem.Str} {a b c : Expr} {ees : Es} {px py pz pt pos : Pos} {kt k2 : Nat} {pt2 : Pos} (hi : X.N[i]? = some x) (hj : X.N[j]? = some y) (hl : X.N[l]? = some z) (hij : i ≠ j) (hil : i ≠ l) (hjl : j ≠ l)
    (hx : X.env.scope.names.lookup x = some .local) (hy : X.env.scope.names.lookup y = some .local) (hz : X.env.scope.names.lookup z = some .local)
    (hw : swappedStores [.Tuple [.Name x px, .Name y py, .Name z pz] kt pt] (.Tuple [a, b, c] k2 pt2) X.env = pure (some [x, y, z])) (ha : PA X [a, b, c] (tEs G cl Ex ees)) :
    PS X (.Assign [.Tuple [.Name x px, .Name y py, .Name z pz] kt pt] (.Tuple [a, b, c] k2 pt2) pos) (tS G cl wf Ex (.par [i, j, l] ees)) :=
  (ps_par3 hc hN hi hj hl hij hil hjl hx hy hz ha hw).imp fun D σ H q => by
    obtain ⟨ρ, α, M, Z, S, er, P⟩ := q
    unfold evS at P
    refine ⟨ρ, α, M, Z, S, er, P.bind.imp fun ws α1 M1 Z1 H1 x1 S1 P1 vs rs => ?_⟩
    have er1 := er.mono x1.same x1.pre
    obtain ⟨ρ', e2, P2⟩ := Post.look setW_exc P1
    match ws, vs, rs, e2 with
    | [u, v, w], _, .cons r1 (.cons r2 (.cons r3 .nil)), e2 => cases e2; exact ⟨_, _, _, rfl, P2.ok S1 _ (((er1.set i r1).set j r2).set l r3)⟩
theorem setW_rel {α : List Addr} {Z H : Hp} {Q : L2.St → Hp → Prop} : ∀ {is : List Nat} {ws : List W} {vs : List V} {ρ ρ' : Env} {σ : L2.St}, ER G α Z ρ σ → RpWs G α Z ws vs → setW is ws ρ = .ok ρ' → (∀ σ', ER G α Z ρ' σ' → Q σ' H) → vs.length = is.length ∧ gNames is vs σ H Q
  | [], _, _, ρ, ρ', σ, er, .nil, e, q => by
    cases e
    exact ⟨rfl, rfl, q σ er⟩
  | i :: is, _, _, ρ, ρ', σ, er, .cons h hs, e, q => by
    obtain ⟨l, g⟩ := setW_rel (is := is) (er.set i h) hs e q
    exact ⟨by rw [List.length_cons, List.length_cons, l], _, _, rfl, g⟩
/-- a, b = x, y where a tuple is made and taken apart -/
theorem d_parU (hc : X.calm = true) (hN : X.N.Nodup) (hK : X.K = G.K) {ts vs : List Expr} {is : List Nat} {ees : Es} {kt k2 : Nat} {pt pt2 pos : Pos} (hn : NmOk X ts is) (hs : swapsWithSole [.Tuple ts kt pt] (.Tuple vs k2 pt2) pos.line X.env = pure false)
    (hw : swappedStores [.Tuple ts kt pt] (.Tuple vs k2 pt2) X.env = pure Option.none) (hl : is.length ≤ 1000) (ha : PA X vs (tEs G cl Ex ees)) : PS X (.Assign [.Tuple ts kt pt] (.Tuple vs k2 pt2) pos) (tS G cl wf Ex (.par is ees)) :=
  (ps_asg (pe_tup ha) (d_tgTup hc hN hn) hs hw rfl).imp fun D σ H q => by
    obtain ⟨ρ, α, M, Z, S, er, P⟩ := q
    unfold evS at P
    refine ⟨ρ, α, M, Z, S, er, P.bind.imp fun ws α1 M1 Z1 H1 x1 S1 P1 vs rs => ?_⟩
    have er1 := er.mono x1.same x1.pre
    obtain ⟨ρ', e2, P2⟩ := Post.look setW_exc P1
    have go : vs.length = is.length ∧ ∀ p, H1 p = Option.none → gNames is vs σ (upd H1 p (.tup vs)) D.nx := by
      refine ⟨(setW_rel (Q := fun _ _ => True) (H := H1) er1 rs e2 fun _ _ => trivial).1, fun p hp => ?_⟩
      exact (setW_rel er1 rs e2 fun σ' er' => (P2.later (S1.extra hp).2).ok (S1.extra hp).1 σ' er').2
    refine ⟨by rw [go.1]; exact Nat.le_trans hl (by rw [sizeLine_eq]; omega), fun p hp => ⟨p, vs, rfl, SqT.of upd_same, go.1, go.2 p hp⟩⟩
/-- o[k] = e -/
theorem d_sti {o k e : Expr} {eo ek ee : E} {p pos : Pos} (ha : ∀ v, assign (.Subscript o k p) X.env v = (do let ov ← holding [v] (eval o X.env); let iv ← holding [v, ov] (eval k X.env); standAt p; holding [v, ov, iv] (setItem ov iv v); release [v, ov, iv] []))
    (hs : swapsWith e (some (.Subscript o k p)) pos.line X.env = pure false) (he : PE X e (tE G cl Ex ee)) (ho : PE X o (tE G cl Ex eo)) (hk : PE X k (tE G cl Ex ek)) : PS X (.Assign [.Subscript o k p] e pos) (tS G cl wf Ex (.sti eo ek ee)) :=
  (ps_asg he (pg_sub ho hk set_list ha) hs rfl rfl).imp fun D σ H q => by
    obtain ⟨ρ, α, M, Z, S, er, P⟩ := q
    unfold evS at P
    refine one S er P fun w1 α1 M1 Z1 H1 v1 S1 x1 r1 P1 => ?_
    obtain ⟨x, M', Z', S', x', r', P'⟩ := post_frz S1 r1 P1
    have er' := er.mono (x1.trans x').same (x1.trans x').pre
    refine one S' er' P' fun w2 α2 M2 Z2 H2 v2 S2 x2 r2 P2 => ?_
    have er2 := er'.mono x2.same x2.pre
    refine one S2 er2 P2 fun w3 α3 M3 Z3 H3 v3 S3 x3 r3 P3 => ?_
    have er3 := er2.mono x3.same x3.pre
    obtain ⟨y, e1, P4⟩ := Post.look view_exc P3
    obtain ⟨n, rfl, P5⟩ := Post.asI P4
    have hv := (view_rel S3 r3 e1).int
    subst hv
    cases w2 with
    | d y => exact (show False from P5).elim
    | c i =>
      have P5 : Post G Ex α3 M3 Z3 H3 (match M3[i]? with
        | some (.lst ds) => (match ixN ds.length n with
          | some j => .ok ((Fl.nx, ρ), M3.set i (.lst (ds.set j x)))
          | Option.none => .stuck)
        | _ => .stuck) (endK G D) := P5
      obtain ⟨a, ha2, rfl⟩ := r2.mono x3.same x3.pre
      cases q : M3[i]? with
      | none => rw [q] at P5; exact P5.elim
      | some c =>
        rw [q] at P5
        cases c with
        | lst ds =>
          have P5 : Post G Ex α3 M3 Z3 H3 (match ixN ds.length n with
            | some j => .ok ((Fl.nx, ρ), M3.set i (.lst (ds.set j x)))
            | Option.none => .stuck) (endK G D) := P5
          cases q2 : ixN ds.length n with
          | none => rw [q2] at P5; exact P5.elim
          | some j =>
            rw [q2] at P5
            obtain ⟨_, vs, hh, rr⟩ := S3.cell i _ a q rfl ha2
            obtain ⟨S4, x4⟩ := S3.put q ha2 (rr.set j (r'.mono (x2.trans x3).same))
            exact ⟨a, vs, n, j, rfl, rfl, hh, by rw [← rr.length]; exact q2, P5 α3 Z3 _ x4 S4 σ er3⟩
        | _ => exact P5.elim
/-- o.append(e) -/
theorem d_app {o e : Expr} {eo ee : E} {ap cp pos : Pos} (hb : attributeBase o "append" X.env (eval o X.env) = eval o X.env) (hl : (ap.endLine == cp.line) = true) (hn : nst e = true) (ho : PE X o (tE G cl Ex eo)) (he : PE X e (tE G cl Ex ee)) :
    PS X (.Expr (.Call (.Attribute o "append" ap) [e] [] cp) pos) (tS G cl wf Ex (.app eo ee)) :=
  (ps_expr (pe_bm PySem.F.plainAttrs_list PySem.F.slot_list_append PySem.F.type_list_append mt_append ho (pa_cons he pa_nil (star_cons hn)) hb (by rw [star_cons hn]; rfl) hl (star_cons hn))).imp fun D σ H q => by
    obtain ⟨ρ, α, M, Z, S, er, P⟩ := q
    unfold evS at P
    refine one S er P fun w1 α1 M1 Z1 H1 v1 S1 x1 r1 P1 => ?_
    have er1 := er.mono x1.same x1.pre
    obtain ⟨i, e1, P2⟩ := Post.look cellOf_exc P1
    obtain ⟨a, vs, rfl, rfl, ha, hh⟩ := cellOf_rel S1 r1 e1
    refine ⟨.inl ⟨rfl, vs, SqL.of hh⟩, ?_⟩
    refine one S1 er1 P2 fun w2 α2 M2 Z2 H2 v2 S2 x2 r2 P3 => ?_
    obtain ⟨x, M', Z', S', x', r', P4⟩ := post_frz S2 r2 P3
    have er2 := er1.mono (x2.trans x').same (x2.trans x').pre
    have ha2 : α2[i]? = some a := by
      obtain ⟨β, e⟩ := (x2.trans x').pre
      rw [e, List.getElem?_append_left (List.getElem?_eq_some_iff.mp ha).1]
      exact ha
    have P5 : Post G Ex α2 M' Z' H2 (match M'[i]? with
      | some (.lst ds) => stuckIf (decide (ds.length < sizeLine)) (.ok ((Fl.nx, ρ), M'.set i (.lst (ds ++ [x]))))
      | _ => .stuck) (endK G D) := P4
    cases q : M'[i]? with
    | none => rw [q] at P5; exact P5.elim
    | some c =>
      rw [q] at P5
      cases c with
      | lst ds =>
        obtain ⟨c, P6⟩ := Post.stuckIf P5
        have c := of_decide_eq_true c
        obtain ⟨_, us, hh2, rr⟩ := S'.cell i _ a q rfl ha2
        obtain ⟨S4, x4⟩ := S'.put q ha2 (rr.append (.cons r' .nil))
        exact ⟨a, us, v2, rfl, rfl, hh2, by rw [← rr.length]; exact c, P6 α2 Z' _ x4 S4 σ er2⟩
      | _ => exact P5.elim
/-! ### loops -/
theorem d_for (hp : PassesOwn (model X.prog X.w) X.A X.env X.xe) (hc : X.calm = true) (hK : X.K = G.K) {tg iter : Expr} {body : List Stmt} {t : Tg} {ir : Ir} {b : Ss} {pos : Pos} (hi : PI X tg iter (tI G cl Ex ir)) (hg : PG X tg (gDt X.K t)) (hb : PSs X body (tSs G cl wf Ex b)) (hs : notSet iter = true) :
    PS X (.For tg iter body [] pos) (tS G cl wf Ex (.fr t ir b)) := (ps_for hp hc hi hg hb (fsi hs)).imp fun D σ H q => by
  obtain ⟨ρ, α, M, Z, S, er, P⟩ := q
  unfold evS at P
  refine ⟨ρ, α, M, Z, S, er, P.bind.imp fun ds α1 M1 Z1 H1 x1 S1 P1 J wk => ?_⟩
  refine for_it (wkd_walk wk) (fun i σ' H' => ∃ ρ' α' M' Z', Same Z1 Z' ∧ SR G α' M' Z' H' ∧ ER G α' Z' ρ' σ' ∧ Post G Ex α' M' Z' H' (forL (fun d ρ M => (bindT t d ρ).bind fun ρ' => evSs cl wf b ρ' M) (ds.drop i) ρ' M') (endK G D))
    ⟨ρ, α1, M1, Z1, Same.refl _, S1, er.mono x1.same x1.pre, by rw [List.drop_zero]; exact P1⟩ (fun i σ' H' _ h => ?_) (fun i y σ' H' H'' hl h hy => ?_) fun σ' H' h => ?_
  · obtain ⟨ρ', α', M', Z', sm, S', _, _⟩ := h
    exact ⟨α', M', Z', sm, S'⟩
  · obtain ⟨ρ', α', M', Z', sm, S', er', P'⟩ := h
    obtain ⟨d, Z2, e1, rd, S3, x3⟩ := hy α' M' Z' sm S'
    rw [drop_cons e1] at P'
    have P2 := P'.later x3
    unfold forL at P2
    rw [R.bind_bind] at P2
    obtain ⟨ρ2, e2, P3⟩ := Post.look bindT_exc P2
    refine bindT_rel hK S3 (er'.mono x3.same x3.pre) rd e2 fun σ2 er2 => ⟨ρ2, α', M', Z2, S3, er2, P3.bind.imp fun q α4 M4 Z4 H4 x4 S4 P4 => ?_⟩
    obtain ⟨fl, ρ4⟩ := q
    cases fl with
    | nx => exact fun σ4 er4 => ⟨ρ4, α4, M4, Z4, (sm.trans x3.same).trans x4.same, S4, er4, P4⟩
    | rt w => exact fun v rv => P4.ok S4 v rv
  · obtain ⟨ρ', α', M', Z', sm, S', er', P'⟩ := h
    rw [List.drop_length] at P'
    exact P'.ok S' σ' er'
theorem d_while (hp : PassesOwn (model X.prog X.w) X.A X.env X.xe) {c : Expr} {body : List Stmt} {ec : E} {b : Ss} {pos : Pos} (hc : PT X c (tT G cl Ex ec)) (hb : PSs X body (tSs G cl wf Ex b)) : PS X (.While c body [] pos) (tS G cl wf Ex (.wh ec b)) := (ps_while hp hc hb).imp fun D σ H q => by
  obtain ⟨ρ, α, M, Z, S, er, P⟩ := q
  unfold evS at P
  refine ⟨fun m σ' H' => ∃ ρ' α' M' Z', SR G α' M' Z' H' ∧ ER G α' Z' ρ' σ' ∧ Post G Ex α' M' Z' H' (whL (evT cl ec) (evSs cl wf b) m ρ' M') (endK G D), ⟨wf, ρ, α, M, Z, S, er, P⟩, ?_⟩
  rintro m σ' H' ⟨ρ', α', M', Z', S', er', P'⟩
  cases m with
  | zero => exact P'.elim
  | succ m =>
    unfold whL at P'
    refine ⟨ρ', α', M', Z', S', er', P'.bind.imp fun k α1 M1 Z1 H1 x1 S1 P1 k' ek => ?_⟩
    have ek : k' = k := ek
    subst ek
    have er1 := er'.mono x1.same x1.pre
    cases k' with
    | false => exact P1.ok S1 σ' er1
    | true =>
      refine ⟨fun σ2 H2 => ∃ ρ2 α2 M2 Z2, SR G α2 M2 Z2 H2 ∧ ER G α2 Z2 ρ2 σ2 ∧ Post G Ex α2 M2 Z2 H2 (whL (evT cl ec) (evSs cl wf b) m ρ2 M2) (endK G D), fun σ2 H2 h => ⟨m, Nat.lt_succ_self m, h⟩, ?_⟩
      have P1 : Post G Ex α1 M1 Z1 H1 ((evSs cl wf b ρ' M1).bind fun q => (match q.1.1 with
        | .nx => whL (evT cl ec) (evSs cl wf b) m q.1.2 q.2
        | .rt w => .ok ((Fl.rt w, q.1.2), q.2))) (endK G D) := P1
      refine ⟨ρ', α1, M1, Z1, S1, er1, P1.bind.imp fun q α4 M4 Z4 H4 x4 S4 P4 => ?_⟩
      obtain ⟨fl, ρ4⟩ := q
      cases fl with
      | nx => exact fun σ4 er4 => ⟨ρ4, α4, M4, Z4, S4, er4, P4⟩
      | rt w => exact fun v rv => P4.ok S4 v rv
/-- raise C("..") -/
theorem d_rai (hc : X.calm = true) (tk : L2N.Takes X fun cls d _ H => Ex cls d H) {c : Nat} {x : PySem.Str} {m : PySem.Str} {j : Nat} {p p2 pos' pos : Pos} {B : String} {newId initId bmB : _} (F : ExcBaseFacts B newId initId bmB) (q : PySem.W.excIn X.K (G.ca c) bmB newId = true) (gC : X.mg x = some (.ref (G.ca c)))
    (kC : PySem.W.keepIn X.K (.ref (G.ca c)) = true) (r : Raises X (.ref (G.ca c))) (hg : L2.Gl X x) (hd : (x == ("__debug__" : PySem.Str)) = false) :
    PS X (.Raise (some (.Call (.Name x p) [.Constant (.str m) j p2] [] pos')) Option.none pos) (tS G cl wf Ex (.rai c)) := (L2N.ps_raise hc tk (L2N.pmk_own F q gC kC r hg hd)).imp fun D σ H q => by
  obtain ⟨ρ, α, M, Z, S, er, P⟩ := q
  unfold evS at P
  exact P α Z H .refl S
end
end PyD

set_option Elab.async false
set_option linter.all false
set_option maxRecDepth 100000
set_option maxHeartbeats 4000000
/-! PyN3: dicts as cells: the small language is sound. -/
namespace L2
open PySem PySem.Spec PyProof.Rows
theorem dicG_nil {K K' : Type} {hash : K → Int} {hash' : K' → Int} {a : Addr} : dicG hash a [] = dicG hash' a [] := by
  unfold dicG
  congr 1
  funext h
  refine propext ⟨?_, ?_⟩ <;>
  · rintro ⟨p, o, es, ep, h1, h2, h3, h4, h5⟩
    exact ⟨⟨p.1, Nat.zero_le _⟩, o, es, ep, h1, h2, h3, h4, List.nodup_nil⟩
end L2
namespace PyD
open PySem PySem.Spec PyProof.Rows L2
/-! ### keys -/
theorem flatK_vals {G : Gl} {Z : Hp} : ∀ {ds : List D} {xs : List V} {k : List Key}, Rps G Z ds xs → flatK ds = some k → xs = k.map kV
  | [], _, _, r, h => by cases r; cases h; rfl
  | d :: ds, _, k, r, h => by
    cases r with
    | cons r rs =>
      cases d with
      | int i =>
        obtain ⟨k', h1, rfl⟩ := Option.map_eq_some_iff.mp (show (flatK ds).map (Sum.inl i :: ·) = some k from h)
        cases r
        rw [flatK_vals rs h1]; rfl
      | str z =>
        obtain ⟨k', h1, rfl⟩ := Option.map_eq_some_iff.mp (show (flatK ds).map (Sum.inr z :: ·) = some k from h)
        cases r
        rw [flatK_vals rs h1]; rfl
      | _ => cases h
theorem keyF_form {d : D} {k : List Key} (h : keyF d = some k) : ∃ e ds, d = .tup (e :: ds) ∧ flatK (e :: ds) = some k := by
  unfold keyF at h
  split at h
  · exact ⟨_, _, rfl, h⟩
  · cases h
theorem keyN_form {d : D} {k : List (List Key)} (h : keyN d = some k) : ∃ e ds, d = .tup (e :: ds) ∧ nestK (e :: ds) = some k := by
  unfold keyN at h
  split at h
  · exact ⟨_, _, rfl, h⟩
  · cases h
theorem key_one {d : D} (h : (keyF d).isSome = true) : keyN d = none := by
  obtain ⟨k, h⟩ := Option.isSome_iff_exists.mp h
  obtain ⟨e, ds, rfl, h⟩ := keyF_form h
  show nestK (e :: ds) = none
  rw [nestK]
  cases e with
  | int i => rfl
  | str z => rfl
  | _ => cases h
theorem key_two {d : D} (h : (keyN d).isSome = true) : keyF d = none := by
  cases e : keyF d with
  | none => rfl
  | some k => rw [key_one (by rw [e]; rfl)] at h; cases h
section
variable {X : Cx} {G : Gl} {pins : List (Addr × Obj)} {σ : L2.St} {H Z : Hp} {s : Shared}
theorem rp_seq (I : Inv X pins σ H s) (hK : X.K = G.K) (sub : ∀ a o, Z a = some o → H a = some o) {ds : List D} {b : Addr} (r : Rp G Z (.tup ds) (.ref b)) :
    ∃ (xs : List V) (its : List Value) (o : Obj) (n : Nat), Rps G Z ds xs ∧ Vals xs its ∧ s.heap.get? b = some o ∧ o.cls = .type "tuple" ∧ o.data = .seq its.toArray n := by
  cases r with
  | tup hq rs =>
    have hq2 := Same.sqT (fun a o h => sub a o h) hq
    rw [← hK] at hq2
    obtain ⟨its, o, n, q1, q2, q3, q4⟩ := sqT_at I.hok I.kIn hq2
    exact ⟨_, its, o, n, rs, q1, q2, q3, q4⟩
theorem rp_keyF (I : Inv X pins σ H s) (hK : X.K = G.K) (sub : ∀ a o, Z a = some o → H a = some o) {d : D} {b : Addr} {k : List Key} (r : Rp G Z d (.ref b)) (h : keyF d = some k) : (tupleKind (mixKind X.prog X.w)).is s.heap k b := by
  obtain ⟨e, ds, rfl, h⟩ := keyF_form h
  obtain ⟨xs, its, o, n, rs, q1, q2, q3, q4⟩ := rp_seq I hK sub r
  rw [flatK_vals rs h] at q1
  exact ⟨o, its.toArray, n, q2, q3, q4, by simpa using items_are q1⟩
theorem nestK_vals (I : Inv X pins σ H s) (hK : X.K = G.K) (sub : ∀ a o, Z a = some o → H a = some o) : ∀ {ds : List D} {xs : List V} {its : List Value} {k : List (List Key)}, Rps G Z ds xs → Vals xs its → nestK ds = some k → TupsAre (mixKind X.prog X.w) s.heap k its
  | [], _, _, _, r, v, h => by cases r; cases v; cases h; exact .nil
  | d :: ds, _, _, k, r, v, h => by
    cases r with
    | cons r rs =>
      cases v with
      | cons v vs =>
        rw [nestK] at h
        obtain ⟨k1, h1, h⟩ := Option.bind_eq_some_iff.mp h
        obtain ⟨k2, h2, rfl⟩ := Option.map_eq_some_iff.mp h
        obtain ⟨e, es, rfl, _⟩ := keyF_form h1
        have r0 := r
        cases r with
        | tup hq rr =>
          obtain rfl := (show _ = Value.ref _ from v)
          exact .cons (rp_keyF I hK sub r0 h1) (nestK_vals I hK sub rs vs h2)
theorem rp_keyN (I : Inv X pins σ H s) (hK : X.K = G.K) (sub : ∀ a o, Z a = some o → H a = some o) {d : D} {b : Addr} {k : List (List Key)} (r : Rp G Z d (.ref b)) (h : keyN d = some k) : (nestKind (mixKind X.prog X.w)).is s.heap k b := by
  obtain ⟨e, ds, rfl, h⟩ := keyN_form h
  obtain ⟨xs, its, o, n, rs, q1, q2, q3, q4⟩ := rp_seq I hK sub r
  exact ⟨o, its.toArray, n, q2, q3, q4, by simpa using nestK_vals I hK sub rs q1 h⟩
end
/-! ### what a dict holds -/
section
variable {G : Gl} {Z : Hp} {K : Type} [DecidableEq K] {kf : D → Option K}
/-- a value that is found, and as the heap bears it -/
def RelD (G : Gl) (Z : Hp) : Option D → Option Value → Prop
  | none, none => True
  | some d, some u => ∃ v, Rp G Z d v ∧ RelV v u
  | _, _ => False
theorem get_rel {k : K} {kd : D} : ∀ {kvs : List (D × D)} {xs : List (K × Addr × Value)}, Paired (EntR G Z kf) kvs xs → (∀ p ∈ kvs, ∀ j, kf p.1 = some j → keyE p.1 kd = decide (j = k)) → RelD G Z (dGet kvs kd) ((atKey xs k).map (·.2))
  | [], _, .nil, _ => trivial
  | p :: kvs, x :: xs, .cons ⟨h1, h2, v, h3, h4⟩ t, he => by
    have e := he p List.mem_cons_self _ h1
    have ih := get_rel t fun q hq => he q (List.mem_cons_of_mem _ hq)
    unfold dGet atKey at ih ⊢
    rw [List.find?_cons, List.find?_cons, e]
    by_cases hk : x.1 = k
    · rw [decide_eq_true hk]; exact ⟨v, h3, h4⟩
    · rw [decide_eq_false hk]; exact ih
theorem get_some {k : K} {kd : D} {kvs : List (D × D)} {xs : List (K × Addr × Value)} (r : Paired (EntR G Z kf) kvs xs) (he : ∀ p ∈ kvs, ∀ j, kf p.1 = some j → keyE p.1 kd = decide (j = k)) : (dGet kvs kd).isSome = (atKey xs k).isSome := by
  have := get_rel r he
  cases h1 : dGet kvs kd with
  | none => cases h2 : atKey xs k with
    | none => rfl
    | some p => rw [h1, h2] at this; exact this.elim
  | some d => cases h2 : atKey xs k with
    | none => rw [h1, h2] at this; exact this.elim
    | some p => rfl
theorem map_rel {k : K} {kd vd : D} {v : V} {u : Value} (rv : Rp G Z vd v) (ru : RelV v u) : ∀ {kvs : List (D × D)} {xs : List (K × Addr × Value)}, Paired (EntR G Z kf) kvs xs → (∀ p ∈ kvs, ∀ j, kf p.1 = some j → keyE p.1 kd = decide (j = k)) →
    Paired (EntR G Z kf) (kvs.map fun p => if keyE p.1 kd then (p.1, vd) else p) (xs.map (putAt k u))
  | [], _, .nil, _ => .nil
  | p :: kvs, x :: xs, .cons ⟨h1, h2, w, h3, h4⟩ t, he => by
    have e := he p List.mem_cons_self _ h1
    rw [List.map_cons, List.map_cons, e]
    refine .cons ?_ (map_rel rv ru t fun q hq => he q (List.mem_cons_of_mem _ hq))
    unfold putAt
    by_cases hk : x.1 = k
    · rw [decide_eq_true hk, if_pos hk, if_pos rfl]; exact ⟨h1, h2, v, rv, ru⟩
    · rw [decide_eq_false hk, if_neg hk, if_neg Bool.false_ne_true]; exact ⟨h1, h2, w, h3, h4⟩
theorem put_rel {k : K} {kd vd : D} {b : Addr} {v : V} {u : Value} {kvs : List (D × D)} {xs : List (K × Addr × Value)} (r : Paired (EntR G Z kf) kvs xs) (he : ∀ p ∈ kvs, ∀ j, kf p.1 = some j → keyE p.1 kd = decide (j = k))
    (hk : kf kd = some k) (rb : Rp G Z kd (.ref b)) (rv : Rp G Z vd v) (ru : RelV v u) : Paired (EntR G Z kf) (dPut kvs kd vd) (storedH xs k b u) := by
  unfold dPut storedH
  rw [get_some r he]
  cases h : (atKey xs k).isSome with
  | true => rw [if_pos rfl, if_pos rfl]; exact map_rel rv ru r he
  | false => rw [if_neg Bool.false_ne_true, if_neg Bool.false_ne_true]; exact Paired.snoc r ⟨hk, rb, v, rv, ru⟩
theorem keyE_F {kd p : D} {k j : List Key} (h : keyF kd = some k) (hp : keyF p = some j) : keyE p kd = decide (j = k) := by
  unfold keyE
  rw [key_one (d := p) (by rw [hp]; rfl), key_one (d := kd) (by rw [h]; rfl), h, hp]
  simp
theorem keyE_N {kd p : D} {k j : List (List Key)} (h : keyN kd = some k) (hp : keyN p = some j) : keyE p kd = decide (j = k) := by
  unfold keyE
  rw [key_two (d := p) (by rw [hp]; rfl), key_two (d := kd) (by rw [h]; rfl), h, hp]
  simp
end
/-! ### asked and changed -/
section
variable {X : Cx} {G : Gl} {pins : List (Addr × Obj)} {σ : L2.St} {H Z : Hp} {s : Shared} {α : List Addr} {M : Ms} {a b : Addr} {kvs : List (D × D)} {x : D} {i : Nat} {A : Around} {E : Value → Shared → Prop}
/-- the dict at a, and a key of its kind at b -/
def DicK (G : Gl) (Z H : Hp) (a : Addr) (kvs : List (D × D)) (x : D) (b : Addr) : Prop :=
  (∀ a o, Z a = some o → H a = some o) ∧ Rp G Z x (.ref b) ∧ ((∃ xs k, H a = some (dicG (hashF G.w) a xs) ∧ Paired (EntR G Z keyF) kvs xs ∧ keyF x = some k) ∨ ∃ xs k, H a = some (dicG (hashN G.w) a xs) ∧ Paired (EntR G Z keyN) kvs xs ∧ keyN x = some k)
theorem dicK_of (S : SR G α M Z H) (h1 : M[i]? = some (.dic kvs)) (h2 : α[i]? = some a) {v : V} (r : Rp G Z x v) (ok : keyOk kvs x = true) : ∃ b, v = .ref b ∧ DicK G Z H a kvs x b := by
  obtain ⟨_, c⟩ := S.cell i _ a h1 rfl h2
  have form : ∃ b, v = .ref b := by
    unfold keyOk at ok
    rcases Bool.or_eq_true_iff.mp ok with q | q
    · obtain ⟨k, hk⟩ := Option.isSome_iff_exists.mp (Bool.and_eq_true_iff.mp q).1
      obtain ⟨e, ds, rfl, _⟩ := keyF_form hk
      cases r with
      | tup => exact ⟨_, rfl⟩
    · obtain ⟨k, hk⟩ := Option.isSome_iff_exists.mp (Bool.and_eq_true_iff.mp q).1
      obtain ⟨e, ds, rfl, _⟩ := keyN_form hk
      cases r with
      | tup => exact ⟨_, rfl⟩
  obtain ⟨b, rfl⟩ := form
  refine ⟨b, rfl, S.sub, r, ?_⟩
  have nilF : ∀ {xs : List (List Key × Addr × Value)}, kvs = [] → Paired (EntR G Z keyF) kvs xs → xs = [] := fun e p => by subst e; cases p; rfl
  have nilN : ∀ {xs : List (List (List Key) × Addr × Value)}, kvs = [] → Paired (EntR G Z keyN) kvs xs → xs = [] := fun e p => by subst e; cases p; rfl
  unfold keyOk at ok
  rcases Bool.or_eq_true_iff.mp ok with q | q
  · obtain ⟨q1, q2⟩ := Bool.and_eq_true_iff.mp q
    obtain ⟨k, hk⟩ := Option.isSome_iff_exists.mp q1
    rcases c with ⟨xs, c1, c2⟩ | ⟨xs, c1, c2⟩
    · exact .inl ⟨xs, k, c1, c2, hk⟩
    · cases c2 with
      | nil => exact .inl ⟨[], k, by rw [c1]; exact congrArg some dicG_nil, .nil, hk⟩
      | @cons p y ps ys hp t =>
        have z := List.all_eq_true.mp q2 p List.mem_cons_self
        have z2 := key_one z
        rw [hp.1] at z2
        cases z2
  · obtain ⟨q1, q2⟩ := Bool.and_eq_true_iff.mp q
    obtain ⟨k, hk⟩ := Option.isSome_iff_exists.mp q1
    rcases c with ⟨xs, c1, c2⟩ | ⟨xs, c1, c2⟩
    · cases c2 with
      | nil => exact .inr ⟨[], k, by rw [c1]; exact congrArg some dicG_nil, .nil, hk⟩
      | @cons p y ps ys hp t =>
        have z := List.all_eq_true.mp q2 p List.mem_cons_self
        have z2 := key_two z
        rw [hp.1] at z2
        cases z2
    · exact .inr ⟨xs, k, c1, c2, hk⟩
theorem DicK.later {H' Z' : Hp} (d : DicK G Z H a kvs x b) (hs : Same Z Z') (hh : ∀ o, H a = some o → H' a = some o) (sub : ∀ a o, Z' a = some o → H' a = some o) : DicK G Z' H' a kvs x b := by
  obtain ⟨d1, d2, d3⟩ := d
  refine ⟨sub, d2.mono hs, ?_⟩
  rcases d3 with ⟨xs, k, c1, c2, c3⟩ | ⟨xs, k, c1, c2, c3⟩
  · exact .inl ⟨xs, k, hh _ c1, Paired.mapP c2 fun p x ⟨h1, h2, v, h3, h4⟩ => ⟨h1, h2.mono hs, v, h3.mono hs, h4⟩, c3⟩
  · exact .inr ⟨xs, k, hh _ c1, Paired.mapP c2 fun p x ⟨h1, h2, v, h3, h4⟩ => ⟨h1, h2.mono hs, v, h3.mono hs, h4⟩, c3⟩
theorem ent_keys {K : Type} {kf : D → Option K} {P : K → Addr → Prop} (f : ∀ d k b, Rp G Z d (.ref b) → kf d = some k → P k b) : ∀ {kvs : List (D × D)} {xs : List (K × Addr × Value)}, Paired (EntR G Z kf) kvs xs → ∀ x ∈ xs, P x.1 x.2.1
  | _, _, .nil, x, hx => by cases hx
  | _, _, .cons ⟨h1, h2, _⟩ t, x, hx => by
    rcases List.mem_cons.mp hx with rfl | hx
    · exact f _ _ _ h2 h1
    · exact ent_keys f t x hx
theorem ent_all {K : Type} {kf : D → Option K} : ∀ {kvs : List (D × D)} {xs : List (K × Addr × Value)}, Paired (EntR G Z kf) kvs xs → ∀ p ∈ kvs, (kf p.1).isSome = true
  | _, _, .nil, p, hp => by cases hp
  | _, _, .cons ⟨h1, _⟩ t, p, hp => by
    rcases List.mem_cons.mp hp with rfl | hp
    · rw [h1]; rfl
    · exact ent_all t p hp
/-- either kind: what is asked of a dict is asked alike -/
theorem DicK.go {C : Prop} (d : DicK G Z H a kvs x b) (I : Inv X pins σ H s) (hK : X.K = G.K) (hw : X.w = G.w)
    (f : ∀ (K : Type) (_ : DecidableEq K) (hash : K → Int) (knd : HeapKind X.prog X.w K) (kf : D → Option K) (xs : List (K × Addr × Value)) (k : K), KeyAt X H s hash knd a xs b k → Paired (EntR G Z kf) kvs xs → kf x = some k →
      (∀ p ∈ kvs, ∀ j, kf p.1 = some j → keyE p.1 x = decide (j = k)) → (∀ A : Around, A.units + 64 < cLine → knd.room A.in1) → (∀ xs', CellAt G Z (upd H a (dicG hash a xs')) a (.dic kvs) ∨ True) →
      (∀ (kvs' : List (D × D)) xs', Paired (EntR G Z kf) kvs' xs' → CellAt G Z (upd H a (dicG hash a xs')) a (.dic kvs')) → C) : C := by
  obtain ⟨sub, rx, d3⟩ := d
  rcases d3 with ⟨xs, k, c1, c2, c3⟩ | ⟨xs, k, c1, c2, c3⟩
  · refine f (List Key) _ (hashF G.w) (tupleKind (mixKind X.prog X.w)) keyF xs k ⟨c1, by rw [← hw]; rfl, ent_keys (fun d k b r h => rp_keyF I hK sub r h) c2, rp_keyF I hK sub rx c3⟩ c2 c3 (fun p _ j hj => keyE_F c3 hj) (fun A h => ?_) (fun _ => .inr trivial) fun kvs' xs' r => .inl ⟨xs', upd_same, r⟩
    show A.in1.units < cLine
    rw [show A.in1.units = A.units + 1 from rfl]
    omega
  · refine f (List (List Key)) _ (hashN G.w) (nestKind (mixKind X.prog X.w)) keyN xs k ⟨c1, by rw [← hw]; rfl, ent_keys (fun d k b r h => rp_keyN I hK sub r h) c2, rp_keyN I hK sub rx c3⟩ c2 c3 (fun p _ j hj => keyE_N c3 hj) (fun A h => ?_) (fun _ => .inr trivial) fun kvs' xs' r => .inr ⟨xs', upd_same, r⟩
    show A.in1.units + 1 < cLine ∧ A.in1.in1.units < cLine
    rw [show A.in1.in1.units = A.units + 1 + 1 from rfl, show A.in1.units = A.units + 1 from rfl]
    omega
theorem k_in {Q : Value → Shared → Prop} (d : DicK G Z H a kvs x b) (I : Inv X pins σ H s) (hK : X.K = G.K) (hw : X.w = G.w) (hu : A.units + 64 < cLine) (neg : Bool) (h : ∀ s', Inv X pins σ H s' → Q (.bool (if neg = true then !(dGet kvs x).isSome else (dGet kvs x).isSome)) s') :
    wpAny (model X.prog X.w) A (compareOp (if neg = true then .NotIn else .In) (.ref b) (.ref a)) Q E s :=
  d.go I hK hw fun K _ hash knd kf xs k g r hk he room _ _ => by
    cases neg with
    | true =>
      refine g_notIn (room A hu) I g fun s' I' => ?_
      rw [← get_some r he]
      exact h s' I'
    | false =>
      refine g_in (room A hu) I g fun s' I' => ?_
      rw [← get_some r he]
      exact h s' I'
theorem k_getItem {Q : Value → Shared → Prop} {v : D} (d : DicK G Z H a kvs x b) (I : Inv X pins σ H s) (hK : X.K = G.K) (hw : X.w = G.w) (hu : A.units + 64 < cLine) (hv : dGet kvs x = some v) (h : ∀ u s' vv, Inv X pins σ H s' → Rp G Z v vv → RelV vv u → Q u s') :
    wpAny (model X.prog X.w) A (getItem (.ref a) (.ref b)) Q E s :=
  d.go I hK hw fun K _ hash knd kf xs k g r hk he room _ _ => by
    have q := get_rel r he
    rw [hv] at q
    cases e : atKey xs k with
    | none => rw [e] at q; exact q.elim
    | some p =>
      rw [e] at q
      obtain ⟨vv, q1, q2⟩ := q
      exact g_getItem (room A hu) I g e fun s' I' => h _ s' vv I' q1 q2
theorem k_typeIs (d : DicK G Z H a kvs x b) (I : Inv X pins σ H s) (hK : X.K = G.K) (hw : X.w = G.w) : s.TypeIs (.ref a) "dict" := d.go I hK hw fun K _ hash knd kf xs k g r hk he room _ _ => g_typeIs I g
theorem k_noDict (d : DicK G Z H a kvs x b) (I : Inv X pins σ H s) (hK : X.K = G.K) (hw : X.w = G.w) : ∀ c, Value.ref a = .ref c → ∃ ob, s.heap.get? c = some ob ∧ ob.dict = none := d.go I hK hw fun K _ hash knd kf xs k g r hk he room _ _ => g_noDict I g
theorem k_get2 {Q : Value → Shared → Prop} {y : D} {vy : V} {uy : Value} (d : DicK G Z H a kvs x b) (I : Inv X pins σ H s) (hK : X.K = G.K) (hw : X.w = G.w) (hu : A.units + 64 < cLine) (ry : Rp G Z y vy) (ru : RelV vy uy) (h : ∀ u s' vv, Inv X pins σ H s' → Rp G Z ((dGet kvs x).getD y) vv → RelV vv u → Q u s') :
    wpAny (model X.prog X.w) A (call (.builtin "dict.get") [.ref a, .ref b, uy]) Q E s :=
  d.go I hK hw fun K _ hash knd kf xs k g r hk he room _ _ => by
    have q := get_rel r he
    refine g_get2 (room A hu) I g fun s' I' => ?_
    cases e : atKey xs k with
    | none =>
      rw [e] at q
      cases e2 : dGet kvs x with
      | none => rw [e2] at h; exact h _ s' vy I' ry ru
      | some v => rw [e2] at q; exact q.elim
    | some p =>
      rw [e] at q
      cases e2 : dGet kvs x with
      | none => rw [e2] at q; exact q.elim
      | some v =>
        rw [e2] at q h
        obtain ⟨vv, q1, q2⟩ := q
        exact h _ s' vv I' q1 q2
theorem k_setItem {Q : Unit → Shared → Prop} {y : D} {vy : V} {uy : Value} (d : DicK G Z H a kvs x b) (I : Inv X pins σ H s) (hK : X.K = G.K) (hw : X.w = G.w) (hu : A.units + 64 < cLine) (hl : kvs.length < sizeLine) (ry : Rp G Z y vy) (ru : RelV vy uy)
    (h : ∀ o1 s', Inv X pins σ (upd H a o1) s' → CellAt G Z (upd H a o1) a (.dic (dPut kvs x y)) → (∀ ps, o1 ≠ .tbl ps) → (∀ q, H a ≠ some (LamX.CodeO a q)) → Q () s') :
    wpAny (model X.prog X.w) A (setItem (.ref a) (.ref b) uy) Q E s := by
  have rx := d.2.1
  exact d.go I hK hw fun K _ hash knd kf xs k g r hk he room _ cell => by
    refine g_setItem (room A hu) I g (by rw [← Paired.length r]; exact hl) fun s' I' => h _ s' I' (cell _ _ (put_rel r he hk rx ry ru)) (fun ps z => by cases z) fun q z => ?_
    rw [g.dict] at z
    exact dicG_ne_code (Option.some.inj z)
end
end PyD

set_option Elab.async false
set_option linter.all false
set_option maxRecDepth 100000
set_option maxHeartbeats 4000000
/-! PyN4: dicts in the text: {}, in, [], get, len, a store. -/
namespace PyD
open PySem PySem.Spec PyProof.Rows L2
theorem dataOf_exc {w : W} (c : Nat) (M : Ms) : dataOf w ≠ .exc c M := by cases w <;> (intro h; cases h)
theorem dicOf_exc {w : W} {M0 : Ms} (c : Nat) (M : Ms) : dicOf M0 w ≠ .exc c M := by
  cases w with
  | d x => intro h; cases h
  | c i => simp only [dicOf]; split <;> (intro h; cases h)
theorem dataOf_ok {w : W} {x : D} (h : dataOf w = .ok x) : w = .d x := by
  cases w with
  | d y => cases h; rfl
  | c i => cases h
theorem dicOf_ok {w : W} {M : Ms} {kvs : List (D × D)} (h : dicOf M w = .ok kvs) : ∃ i, w = .c i ∧ M[i]? = some (.dic kvs) := by
  cases w with
  | d y => cases h
  | c i =>
    simp only [dicOf] at h
    split at h
    · rename_i e; cases h; exact ⟨i, rfl, e⟩
    · cases h
section
variable {X : Cx} {G : Gl} {cl : Nat → List W → Ms → R (W × Ms)} {wf : Nat} {Ex : XK}
theorem d_dnew {pos : Pos} : PE X (.Dict [] [] pos) (tE G cl Ex .dnew) := (pe_dnewG (hash := hashF G.w)).imp fun σ H Q q => by
  obtain ⟨ρ, α, M, Z, S, er, P⟩ := q
  unfold evE at P
  intro p hp
  obtain ⟨S1, x1⟩ := S.extra hp (o := dicG (hashF G.w) p [])
  have nl : ¬ Live α M p := fun l => Live.tracked S l hp
  obtain ⟨S2, x2⟩ := S1.pushC (p := p) (c0 := .dic []) rfl (.inl ⟨[], upd_same, .nil⟩) (S.zfree hp) nl (Abs.of hp) x1
  exact P (α ++ [p]) Z _ x2 S2 (.ref p) ⟨p, by rw [← S.len]; simp, rfl⟩
def opIn (neg : Bool) : CmpOp := if neg = true then .NotIn else .In
theorem pc_dmem (hK : X.K = G.K) (hw : X.w = G.w) (hu : X.A.units + 65 < cLine) {neg : Bool} {k d : Expr} {ek ed : E} (hk : PE X k (tE G cl Ex ek)) (hd : PE X d (tE G cl Ex ed)) :
    PC X (opIn neg) k d (tE G cl Ex (.dmem neg ek ed)) := by
  refine ⟨fun pins s σ H Q I q => ?_⟩
  obtain ⟨ρ, α, M, Z, S, er, P⟩ := q
  unfold evE at P
  have q' := two (f := fun p1 q => (dataOf p1).bind fun x => (dicOf q.2 q.1).bind fun kvs => (dmemR neg kvs x).bind fun z => .ok (W.d z, q.2)) (Q := fun x y H2 => ∃ Z2 a b kvs xd, x = .ref b ∧ y = .ref a ∧ DicK G Z2 H2 a kvs xd b ∧ Q (.bl (if neg = true then !(dGet kvs xd).isSome else (dGet kvs xd).isSome)) H2) S er P fun w1 w2 α2 M2 Z2 H2 v1 v2 S2 x2 r1 r2 P2 => by
    obtain ⟨xd, e1, P3⟩ := Post.look dataOf_exc P2
    obtain ⟨kvs, e2, P4⟩ := Post.look dicOf_exc P3
    have P5 : Post G Ex α2 M2 Z2 H2 ((dmemR neg kvs xd).bind fun z => .ok (W.d z, M2)) _ := P4
    clear P2 P3 P4
    obtain rfl := dataOf_ok e1
    obtain ⟨i, rfl, hi⟩ := dicOf_ok e2
    obtain ⟨a, ha, rfl⟩ := r2
    unfold dmemR at P5
    cases hok : keyOk kvs xd with
    | false => rw [hok] at P5; exact P5.elim
    | true =>
      rw [hok] at P5
      obtain ⟨b, rfl, dk⟩ := dicK_of S2 hi ha r1 hok
      exact ⟨Z2, a, b, kvs, xd, rfl, rfl, dk, (show Post G Ex α2 M2 Z2 H2 (.ok (W.d _, M2)) _ from P5).ok S2 _ (.bl _)⟩
  refine thn (hk.run pins s σ H _ I q') fun v s1 ⟨x, H1, I1, rx, q1⟩ => thn (hd.run pins s1 σ H1 _ I1 q1) fun u s2 ⟨y, H2, I2, ry, Z2, a, b, kvs, xd, e1, e2, dk, fin⟩ => ?_
  subst e1 e2
  obtain rfl : v = Value.ref b := rx
  obtain rfl : u = Value.ref a := ry
  exact k_in dk I2 hK hw (by omega) neg fun s3 I3 => ⟨.bl _, H2, I3, rfl, fin⟩
theorem d_dmem (hK : X.K = G.K) (hw : X.w = G.w) (hu : X.A.units + 65 < cLine) {neg : Bool} {k d : Expr} {ek ed : E} {pos : Pos} (hm : behindInMarks (opIn neg) d = false) (hk : PE X k (tE G cl Ex ek)) (hd : PE X d (tE G cl Ex ed)) :
    PE X (.Compare k [opIn neg] [d] pos) (tE G cl Ex (.dmem neg ek ed)) := pe_cmp (pc_dmem hK hw hu hk hd) hm
theorem d_tdmem (hK : X.K = G.K) (hw : X.w = G.w) (hu : X.A.units + 65 < cLine) {neg : Bool} {k d : Expr} {ek ed : E} {pos : Pos} (hm : behindInMarks (opIn neg) d = false) (hk : PE X k (tE G cl Ex ek)) (hd : PE X d (tE G cl Ex ed)) :
    PT X (.Compare k [opIn neg] [d] pos) (tT G cl Ex (.dmem neg ek ed)) := (pt_cmp (pc_dmem hK hw hu hk hd) hm).imp fun σ H Q q => tT_tE q
theorem d_dget (hK : X.K = G.K) (hw : X.w = G.w) (hu : X.A.units + 65 < cLine) {o k : Expr} {eo ek : E} {pos : Pos} (hs : L2.PlainIx k) (ho : PE X o (tE G cl Ex eo)) (hk : PE X k (tE G cl Ex ek)) : PE X (.Subscript o k pos) (tE G cl Ex (.dget eo ek)) := by
  refine ⟨fun pins s σ H Q I q => ?_⟩
  obtain ⟨ρ, α, M, Z, S, er, P⟩ := q
  unfold evE at P
  have q' := two (f := fun p1 q => (dataOf q.1).bind fun x => (dicOf q.2 p1).bind fun kvs => (dgetR kvs x).bind fun z => .ok (W.d z, q.2)) (Q := fun y x H2 => ∃ Z2 a b kvs xd v, x = .ref b ∧ y = .ref a ∧ DicK G Z2 H2 a kvs xd b ∧ dGet kvs xd = some v ∧ ∀ vv, Rp G Z2 v vv → Q vv H2) S er P fun w1 w2 α2 M2 Z2 H2 v1 v2 S2 x2 r1 r2 P2 => by
    obtain ⟨xd, e1, P3⟩ := Post.look dataOf_exc P2
    obtain ⟨kvs, e2, P4⟩ := Post.look dicOf_exc P3
    have P5 : Post G Ex α2 M2 Z2 H2 ((dgetR kvs xd).bind fun z => .ok (W.d z, M2)) _ := P4
    clear P2 P3 P4
    obtain rfl := dataOf_ok e1
    obtain ⟨i, rfl, hi⟩ := dicOf_ok e2
    obtain ⟨a, ha, rfl⟩ := r1
    unfold dgetR at P5
    cases hok : keyOk kvs xd with
    | false => rw [hok] at P5; exact P5.elim
    | true =>
      rw [hok] at P5
      cases hv : dGet kvs xd with
      | none => rw [hv] at P5; exact P5.elim
      | some v =>
        rw [hv] at P5
        obtain ⟨b, rfl, dk⟩ := dicK_of S2 hi ha r2 hok
        exact ⟨Z2, a, b, kvs, xd, v, rfl, rfl, dk, hv, fun vv rv => (show Post G Ex α2 M2 Z2 H2 (.ok (W.d v, M2)) _ from P5).ok S2 vv rv⟩
  refine subD_of PySem.F.slot_dict_getitem.lookup hs (thn (ho.run pins s σ H _ I q') fun u s1 ⟨y, H1, I1, ry, q1⟩ => thn (hk.run pins s1 σ H1 _ I1 q1) fun v s2 ⟨x, H2, I2, rx, Z2, a, b, kvs, xd, vd, e1, e2, dk, hv, fin⟩ => ?_)
  subst e1 e2
  obtain rfl : v = Value.ref b := rx
  obtain rfl : u = Value.ref a := ry
  exact ⟨k_typeIs dk I2 hK hw, k_getItem dk I2 hK hw (by omega) hv fun u s3 vv I3 r1 r2 => ⟨vv, H2, I3, r2, fin vv r1⟩⟩
theorem dic_at {pins : List (Addr × Obj)} {σ : L2.St} {H Z : Hp} {s : Shared} {α : List Addr} {M : Ms} {i : Nat} {a : Addr} {kvs : List (D × D)} (S : SR G α M Z H) (I : Inv X pins σ H s) (hK : X.K = G.K) (hw : X.w = G.w) (h1 : M[i]? = some (.dic kvs)) (h2 : α[i]? = some a) :
    s.TypeIs (.ref a) "dict" ∧ ∀ c, Value.ref a = .ref c → ∃ ob, s.heap.get? c = some ob ∧ ob.dict = none := by
  obtain ⟨_, c⟩ := S.cell i _ a h1 rfl h2
  rcases c with ⟨xs, c1, c2⟩ | ⟨xs, c1, c2⟩
  · obtain ⟨_, _, d⟩ := dicG_of (knd := tupleKind (mixKind X.prog X.w)) I.hok c1 (by rw [← hw]; rfl) (ent_keys (fun d k b r h => rp_keyF I hK S.sub r h) c2)
    refine ⟨d.typeIs, fun c q => ?_⟩
    cases q
    obtain ⟨ob, _, _, q1, q2, _⟩ := d
    exact ⟨ob, q1, q2.2.1⟩
  · obtain ⟨_, _, d⟩ := dicG_of (knd := nestKind (mixKind X.prog X.w)) I.hok c1 (by rw [← hw]; rfl) (ent_keys (fun d k b r h => rp_keyN I hK S.sub r h) c2)
    refine ⟨d.typeIs, fun c q => ?_⟩
    cases q
    obtain ⟨ob, _, _, q1, q2, _⟩ := d
    exact ⟨ob, q1, q2.2.1⟩
theorem d_dgetd (hK : X.K = G.K) (hw : X.w = G.w) (hu : X.A.units + 65 < cLine) {o k f : Expr} {eo ek ef : E} {apos cpos : Pos} (m : L2.M2 X o "get" apos k f cpos) (ho : PE X o (tE G cl Ex eo)) (hk : PE X k (tE G cl Ex ek)) (hf : PE X f (tE G cl Ex ef)) :
    PE X (.Call (.Attribute o "get" apos) [k, f] [] cpos) (tE G cl Ex (.dgetd eo ek ef)) := by
  refine ⟨fun pins s σ H Q I q => ?_⟩
  obtain ⟨ρ, α, M, Z, S, er, P⟩ := q
  unfold evE at P
  have q' : tE G cl Ex eo σ H fun y H1 => (∃ (α1 : List Addr) (M1 : Ms) (Z1 : Hp) (i : Nat) (a : Addr) (kvs : List (D × D)), SR G α1 M1 Z1 H1 ∧ y = V.ref a ∧ M1[i]? = some (C.dic kvs) ∧ α1[i]? = some a) ∧ tE G cl Ex ek σ H1 fun x H2 => tE G cl Ex ef σ H2 fun z H3 => ∃ Z2 a b kvs xd zd, x = .ref b ∧ y = .ref a ∧ DicK G Z2 H3 a kvs xd b ∧ Rp G Z2 zd z ∧ ∀ vv, Rp G Z2 ((dGet kvs xd).getD zd) vv → Q vv H3 := by
    refine ⟨ρ, α, M, Z, S, er, P.bind.imp fun w1 α1 M1 Z1 H1 x1 S1 P0 v1 r1 => ?_⟩
    obtain ⟨kvs0, e0, P1⟩ := Post.look dicOf_exc P0
    have e0 : dicOf M1 w1 = .ok kvs0 := e0
    refine ⟨?_, ρ, α1, M1, Z1, S1, er.mono x1.same x1.pre, P1.bind.imp fun w2 α2 M2 Z2 H2 x2 S2 P2 v2 r2 => ⟨ρ, α2, M2, Z2, S2, er.mono (x1.trans x2).same (x1.trans x2).pre, P2.bind.imp fun w3 α3 M3 Z3 H3 x3 S3 P3 v3 r3 => ?_⟩⟩
    · clear P0 P1
      obtain ⟨i, rfl, hi⟩ := dicOf_ok e0
      obtain ⟨a, ha, rfl⟩ := r1
      exact ⟨α1, M1, Z1, i, a, kvs0, S1, rfl, hi, ha⟩
    clear P0 P1 P2
    obtain ⟨xd, e1, P4⟩ := Post.look dataOf_exc P3
    obtain ⟨zd, e3, P5⟩ := Post.look dataOf_exc P4
    obtain ⟨kvs, e2, P6⟩ := Post.look dicOf_exc P5
    have e1 : dataOf w2 = .ok xd := e1
    have e3 : dataOf w3 = .ok zd := e3
    have e2 : dicOf M3 w1 = .ok kvs := e2
    have P7 : Post G Ex α3 M3 Z3 H3 ((dgetdR kvs xd zd).bind fun z => .ok (W.d z, M3)) _ := P6
    clear P3 P4 P5 P6
    obtain rfl := dataOf_ok e1
    obtain rfl := dataOf_ok e3
    obtain ⟨i, rfl, hi⟩ := dicOf_ok e2
    obtain ⟨a, ha, rfl⟩ := r1.mono (x2.trans x3).same (x2.trans x3).pre
    unfold dgetdR at P7
    cases hok : keyOk kvs xd with
    | false => rw [hok] at P7; exact P7.elim
    | true =>
      rw [hok] at P7
      obtain ⟨b, rfl, dk⟩ := dicK_of S3 hi ha (r2.mono x3.same x3.pre) hok
      exact ⟨Z3, a, b, kvs, xd, zd, rfl, rfl, dk, r3, fun vv rv => (show Post G Ex α3 M3 Z3 H3 (.ok (W.d ((dGet kvs xd).getD zd), M3)) _ from P7).ok S3 vv rv⟩
  refine wpAny_Call_method m.base m.few m.line PySem.F.plainAttrs_dict PySem.F.slot_dict_get PySem.F.type_dict_get (thn (ho.run pins s σ H _ I q') fun u s1 ⟨y, H1, I1, ry, ⟨α1, M1, Z1, i, a, kvs0, S1, ey, h1, h2⟩, q1⟩ => ?_)
  subst ey
  obtain rfl : u = Value.ref a := ry
  obtain ⟨t1, t2⟩ := dic_at S1 I1 hK hw h1 h2
  refine ⟨t1, t2, ?_⟩
  rw [m.trees]
  refine Calls.callWith_builtin rfl (Calls.evalArgs_plain (Calls.spliced_cons (thn (hk.run pins s1 σ H1 _ I1 q1) fun iv s2 ⟨x, H2, I2, rx, q2⟩ =>
    Calls.spliced_cons (thn (hf.run pins s2 σ H2 _ I2 q2) fun fv s3 ⟨z, H3, I3, rz, Z2, a', b, kvs, xd, zd, e1, e2, dk, rzd, fin⟩ => Calls.spliced_nil ?_))))
  subst e1
  cases e2
  obtain rfl : iv = Value.ref b := rx
  exact k_get2 dk I3 hK hw (by omega) rzd rz fun w' s4 vv I4 r1 r2 => ⟨vv, H3, I4, r2, fin vv r1⟩
theorem d_dlen (hK : X.K = G.K) (hw : X.w = G.w) {x : PySem.Str} {p pos : Pos} {e : Expr} {ee : E} (hg : L2.Gl X "len") (hm : X.mg "len" = Option.none) (hn : nst e = true) (he : PE X e (tE G cl Ex ee)) : PE X (.Call (.Name "len" p) [e] [] pos) (tE G cl Ex (.dlen ee)) := by
  have R : CallR X (.builtin "len") (fun xs H Q => ∃ (α : List Addr) (M : Ms) (Z : Hp) (i : Nat) (a : Addr) (kvs : List (D × D)), SR G α M Z H ∧ xs = [V.ref a] ∧ M[i]? = some (C.dic kvs) ∧ α[i]? = some a ∧ Q (.int kvs.length) H) := by
    intro pins s σ H xs us Q I r h
    obtain ⟨α, M, Z, i, a, kvs, S, rfl, h1, h2, q⟩ := h
    obtain ⟨u, rfl, ru⟩ := vals1 r
    cases ru
    obtain ⟨_, c⟩ := S.cell i _ a h1 rfl h2
    rcases c with ⟨xs, c1, c2⟩ | ⟨xs, c1, c2⟩
    · refine g_len (knd := tupleKind (mixKind X.prog X.w)) I c1 (by rw [← hw]; rfl) (ent_keys (fun d k b r h => rp_keyF I hK S.sub r h) c2) fun t s' I' => ⟨.int kvs.length, H, I', ⟨t, ?_⟩, q⟩
      rw [Paired.length c2]
    · refine g_len (knd := nestKind (mixKind X.prog X.w)) I c1 (by rw [← hw]; rfl) (ent_keys (fun d k b r h => rp_keyN I hK S.sub r h) c2) fun t s' I' => ⟨.int kvs.length, H, I', ⟨t, ?_⟩, q⟩
      rw [Paired.length c2]
  refine (pe_callB R hg hm (by decide +kernel) (pa_cons he pa_nil (star_cons hn)) (by decide) (by decide) (star_cons hn) rfl).imp fun σ H Q q => ?_
  obtain ⟨ρ, α, M, Z, S, er, P⟩ := q
  unfold evE at P
  refine one S er P fun w1 α1 M1 Z1 H1 v1 S1 x1 r1 P1 => ?_
  obtain ⟨kvs, e2, P2⟩ := Post.look dicOf_exc P1
  have e2 : dicOf M1 w1 = .ok kvs := e2
  obtain ⟨i, rfl, hi⟩ := dicOf_ok e2
  obtain ⟨a, ha, rfl⟩ := r1
  exact ⟨α1, M1, Z1, i, a, kvs, S1, rfl, hi, ha, P2.ok S1 _ (.int _)⟩
/-- o[k] = e -/
theorem d_dput (hK : X.K = G.K) (hw : X.w = G.w) (hu : X.A.units + 65 < cLine) {o k e : Expr} {eo ek ee : E} {p pos : Pos} (hs : swapsWith e (some (.Subscript o k p)) pos.line X.env = pure false)
    (he : PE X e (tE G cl Ex ee)) (ho : PE X o (tE G cl Ex eo)) (hk : PE X k (tE G cl Ex ek)) : PS X (.Assign [.Subscript o k p] e pos) (tS G cl wf Ex (.dput eo ek ee)) := by
  refine ⟨fun pins s σ H D I q => ?_⟩
  obtain ⟨ρ, α, M, Z, S, er, P⟩ := q
  unfold evS at P
  have q' : tE G cl Ex ee σ H fun v H1 => tE G cl Ex eo σ H1 fun y H2 => tE G cl Ex ek σ H2 fun x H3 => ∃ Z3 a b kvs xd vd, x = .ref b ∧ y = .ref a ∧ DicK G Z3 H3 a kvs xd b ∧ kvs.length < sizeLine ∧ Rp G Z3 vd v ∧
      ∀ o1, CellAt G Z3 (upd H3 a o1) a (.dic (dPut kvs xd vd)) → (∀ ps, o1 ≠ .tbl ps) → (∀ q, H3 a ≠ some (LamX.CodeO a q)) → D.nx σ (upd H3 a o1) := by
    refine one S er P fun w1 α1 M1 Z1 H1 v1 S1 x1 r1 P1 => ?_
    obtain ⟨vd, M', Z', S', x', r', P'⟩ := post_frz S1 r1 P1
    have er' := er.mono (x1.trans x').same (x1.trans x').pre
    refine one S' er' P' fun w2 α2 M2 Z2 H2 v2 S2 x2 r2 P2 => ?_
    have er2 := er'.mono x2.same x2.pre
    refine one S2 er2 P2 fun w3 α3 M3 Z3 H3 v3 S3 x3 r3 P3 => ?_
    have er3 := er2.mono x3.same x3.pre
    obtain ⟨xd, e1, P4a⟩ := Post.look dataOf_exc P3
    have e1 : dataOf w3 = .ok xd := e1
    clear P3
    obtain rfl := dataOf_ok e1
    have P4 : Post G Ex α3 M3 Z3 H3 ((dputM M3 w2 xd vd).bind fun M' => .ok ((Fl.nx, ρ), M')) (endK G D) := P4a
    clear P4a
    cases w2 with
    | d y => exact P4.elim
    | c i =>
      obtain ⟨a, ha, rfl⟩ := r2.mono x3.same x3.pre
      cases hc : M3[i]? with
      | none => simp only [dputM, hc] at P4; exact P4.elim
      | some c =>
        cases c with
        | dic kvs =>
          simp only [dputM, hc] at P4
          cases hok : (keyOk kvs xd && decide (kvs.length < sizeLine)) with
          | false => rw [hok] at P4; exact P4.elim
          | true =>
            rw [hok] at P4
            obtain ⟨h1, h2⟩ := Bool.and_eq_true_iff.mp hok
            obtain ⟨b, rfl, dk⟩ := dicK_of S3 hc ha r3 h1
            refine ⟨Z3, a, b, kvs, xd, vd, rfl, rfl, dk, of_decide_eq_true h2, r'.mono (x2.trans x3).same, fun o1 c1 nt nc => ?_⟩
            obtain ⟨S4, x4⟩ := S3.putC hc rfl ha (c1 := .dic (dPut kvs xd vd)) rfl c1 nt nc
            exact (show Post G Ex α3 M3 Z3 H3 (.ok ((Fl.nx, ρ), M3.set i (.dic (dPut kvs xd vd)))) (endK G D) from P4) α3 Z3 _ x4 S4 σ er3
        | lst _ => simp only [dputM, hc] at P4; exact P4.elim
        | fro _ => simp only [dputM, hc] at P4; exact P4.elim
  refine wpAny_Assign_Subscript (thn (he.run pins s σ H _ I q') fun r s1 ⟨v, H1, I1, rv, q1⟩ => thn (ho.run pins s1 σ H1 _ I1 q1) fun u s2 ⟨y, H2, I2, ry, q2⟩ => thn (hk.run pins s2 σ H2 _ I2 q2) fun iv s3 ⟨x, H3, I3, rx, Z3, a, b, kvs, xd, vd, e1, e2, dk, hl, rvd, fin⟩ => ?_) hs
  subst e1 e2
  obtain rfl : u = Value.ref a := ry
  obtain rfl : iv = Value.ref b := rx
  exact k_setItem dk I3 hK hw (by omega) hl rvd rv fun o1 s4 I4 c1 nt nc => ⟨σ, _, I4, fin o1 c1 nt nc⟩
end
end PyD

set_option Elab.async false
set_option linter.all false
set_option maxRecDepth 100000
set_option maxHeartbeats 4000000
/-! PyE1: zip over two lists, and a comprehension over it, while an error is handled. -/
namespace PySem
open HotX
section
variable {prog : Program} {w : World} {A : Around} {E : Value → Shared → Prop} {s : Shared}
/-- the end of a list, an error being handled -/
theorem nextOf_list_endH {it l x1 : Addr} {i : Nat} {items : Array Value} {Q : Value → Shared → Prop} (hot : HotAt A x1 s.heap) (hne : x1 ≠ it) (hit : s.heap.IsListIter it l i) (hl : s.heap.IsList l items) (hx : items[i]? = none)
    (hE : ∀ h' e, Heap.ExtBut it s.heap h' → (∃ o, h'.get? e = some o ∧ o.cls = .type "StopIteration") → E (.ref e) { s with heap := h' }) : wpAny (model prog w) A (Builtin.SmallTypes.nextOf (.ref it)) Q E s := by
  obtain ⟨o, ho, -, hd⟩ := id hit
  obtain ⟨ol, hol, -, nl, hdl⟩ := hl
  obtain ⟨hh, o1, v1, g1, d1, c1⟩ := hot
  unfold Builtin.SmallTypes.nextOf
  apply wpAny_bind
  apply wpAny_callSpecial?_slot (name := Str.ofString "__next__") hit.typeIs slot_listiter_next
  apply wpAny_call_entry slot_listiter_next hit.typeIs entry_listiter_next _ (args_listiter_next _)
  show wpAny _ _ ((field (.ref it) 0) >>= _) _ _ s
  apply wpAny_bind
  apply wpAny_field ho hd (x := .ref l) rfl
  show wpAny _ _ (if (Value.ref l == Value.none) = true then _ else _) _ _ s
  rw [if_neg (by simp)]
  show wpAny _ _ ((field (.ref it) 1) >>= _) _ _ s
  apply wpAny_bind
  apply wpAny_field ho hd (x := .int i 0) rfl
  show wpAny _ _ ((seqItems? (.ref l)) >>= _) _ _ s
  apply wpAny_bind
  apply wpAny_seqItems hol hdl
  simp only [Int.toNat_natCast, hx]
  apply wpAny_bind
  apply wpAny_rule
  apply wpAny_bind
  apply wpAny_setField ho hd (by simp)
  show wpAny _ _ ((newExc (.type "StopIteration") []) >>= _) _ _ _
  apply wpAny_bind
  simp only [newExc, newTuple]
  apply wpAny_bind
  apply wpAny_newObj_type _ (by size_fits)
  apply wpAny_bind (m := firstArgMember _ _)
  apply wpAny_of_eq (a := Value.none) (by first | rfl | (simp only [firstArgMember]; rfl))
  apply wpAny_newObj_type _ (by size_fits)
  have k1 : ∀ c u o', c ≠ it → s.heap.get? c = some u → (s.heap.update it o').get? c = some u := fun c u o' n e => by rw [Heap.get?_update_other _ _ (Ne.symm n)]; exact e
  refine raiseNew_hot (x1 := x1) ⟨hh, o1, v1, Heap.get?_push_of_some _ (Heap.get?_push_of_some _ (k1 _ _ _ hne g1)), d1, c1⟩ (Nat.ne_of_lt (Heap.lt_size (Heap.get?_push_of_some _ (k1 _ _ _ hne g1)))) (Heap.get?_push_size _ rfl) rfl
    (by first | (simp; done) | (simp; omega) | (simp only [Array.size_append]; simp; omega)) ?_
  refine hE _ _ (fun c u n e => ?_) ⟨_, Heap.get?_update_self _ (Heap.get?_push_size _ rfl) rfl, rfl⟩
  have q := Heap.get?_push_of_some { cls := .type "tuple", data := .seq #[] } (k1 c u (Obj.mapFields (·.setIfInBounds 0 .none)) n e)
  rw [Heap.get?_update_other _ _ (Nat.ne_of_gt (Heap.lt_size (Heap.get?_push_of_some _ (k1 c u _ n e))))]
  exact Heap.get?_push_of_some _ (Heap.get?_push_of_some _ (k1 c u _ n e))
end
section
open PyProof.Rows
variable {prog : Program} {w : World} {A : Around} {E : Value → Shared → Prop} {s : Shared}
/-- the end of a tuple, an error being handled -/
theorem next_tuple_endH {it t x1 : Addr} {i : Nat} {items : Array Value} {Q : Option Value → Shared → Prop} (hot : HotAt A x1 s.heap) (hne : x1 ≠ it) (hit : IsTupIter s.heap it t i) (ht : IsTup s.heap t items) (hx : items[i]? = none)
    (hQ : ∀ h', Heap.ExtBut it s.heap h' → Q none { s with heap := h' }) : wpAny (model prog w) A (pyNext (.ref it)) Q E s := by
  obtain ⟨o, ho, -, hd⟩ := id hit
  obtain ⟨ol, hol, -, nl, hdl⟩ := ht
  obtain ⟨hh, o1, v1, g1, d1, c1⟩ := hot
  unfold pyNext
  apply wpAny_bind
  apply wpAny_attempt
  apply wpAny_callSpecial?_slot (name := Str.ofString "__next__") hit.typeIs slot_tupleiter_next
  apply wpAny_call_entry slot_tupleiter_next hit.typeIs entry_tupleiter_next _ (args_tupleiter_next _)
  show wpAny _ _ ((field (.ref it) 0) >>= _) _ _ s
  apply wpAny_bind
  apply wpAny_field ho hd (x := .ref t) rfl
  show wpAny _ _ (if (Value.ref t == Value.none) = true then _ else _) _ _ s
  rw [if_neg (by simp)]
  show wpAny _ _ ((field (.ref it) 1) >>= _) _ _ s
  apply wpAny_bind
  apply wpAny_field ho hd (x := .int i 0) rfl
  show wpAny _ _ ((seqItems? (.ref t)) >>= _) _ _ s
  apply wpAny_bind
  apply wpAny_seqItems hol hdl
  simp only [Int.toNat_natCast, hx]
  apply wpAny_bind
  apply wpAny_rule
  apply wpAny_bind
  apply wpAny_setField ho hd (by simp)
  show wpAny _ _ ((newExc (.type "StopIteration") []) >>= _) _ _ _
  apply wpAny_bind
  simp only [newExc, newTuple]
  apply wpAny_bind
  apply wpAny_newObj_type _ (by size_fits)
  apply wpAny_bind (m := firstArgMember _ _)
  apply wpAny_of_eq (a := Value.none) (by first | rfl | (simp only [firstArgMember]; rfl))
  apply wpAny_newObj_type _ (by size_fits)
  have k1 : ∀ c u o', c ≠ it → s.heap.get? c = some u → (s.heap.update it o').get? c = some u := fun c u o' n e => by rw [Heap.get?_update_other _ _ (Ne.symm n)]; exact e
  refine raiseNew_hot (x1 := x1) ⟨hh, o1, v1, Heap.get?_push_of_some _ (Heap.get?_push_of_some _ (k1 _ _ _ hne g1)), d1, c1⟩ (Nat.ne_of_lt (Heap.lt_size (Heap.get?_push_of_some _ (k1 _ _ _ hne g1)))) (Heap.get?_push_size _ rfl) rfl
    (by first | (simp; done) | (simp; omega) | (simp only [Array.size_append]; simp; omega)) ?_
  refine wpAny_bind (wpAny_isInstance (T := "StopIteration") (b := true) ⟨_, Heap.get?_update_self _ (Heap.get?_push_size _ rfl) rfl, rfl⟩ isSubtype_stop ?_)
  refine wpAny_pure (hQ _ fun c u n e => ?_)
  rw [Heap.get?_update_other _ _ (Nat.ne_of_gt (Heap.lt_size (Heap.get?_push_of_some _ (k1 c u _ n e))))]
  exact Heap.get?_push_of_some _ (Heap.get?_push_of_some _ (k1 c u _ n e))
theorem assign_tupleH {env : Env} {elts : List Expr} {kk : Nat} {pos : Pos} {t x1 : Addr} {items : Array Value} {Q : Unit → Shared → Prop} (hot : HotAt A x1 s.heap) (ht : IsTup s.heap t items) (hn : (assignEach elts env).length = items.size) (hstar : (assignEach elts env).findIdx? (·.1) = none)
    (h : ∀ h', Heap.ExtBut s.heap.objs.size s.heap h' → wpAny (model prog w) A (assignInOrder ((assignEach elts env).map (·.2)) items.toList) Q E { s with heap := h' }) : wpAny (model prog w) A (assign (.Tuple elts kk pos) env (.ref t)) Q E s := by
  obtain ⟨hh, o1, v1, g1, d1, c1⟩ := hot
  have tlt : t ≠ s.heap.objs.size := by obtain ⟨o, ho, -⟩ := ht; exact Nat.ne_of_lt (Heap.lt_size ho)
  have xlt : x1 ≠ s.heap.objs.size := Nat.ne_of_lt (Heap.lt_size g1)
  rw [assign_Tuple]
  apply wpAny_bind
  apply wpAny_standAt
  unfold unpack
  rw [hn, hstar]
  apply wpAny_bind
  apply wpAny_holding
  unfold unpackItems
  apply wpAny_bind
  unfold notIterableAtAll
  apply wpAny_bind
  apply wpAny_specialOf ht.typeIs slot_tuple_iter.lookup
  apply wpAny_pure
  simp only [Bool.false_eq_true, if_false]
  apply wpAny_bind
  apply wpAny_holding
  apply iter_tuple ht
  apply wpAny_bind
  apply wpAny_holding
  refine draw_tuple tlt items.size 0 _ _ ⟨_, Heap.get?_push_size _ rfl, rfl, rfl⟩ (ht.push _) (by omega) fun h1 it1 sb1 => ?_
  rw [List.drop_zero, List.take_of_length_le (by simp), if_neg (by simp)]
  apply wpAny_bind
  apply wpAny_holding
  refine next_tuple_endH (x1 := x1) ⟨hh, o1, v1, sb1.extBut _ _ xlt (Heap.get?_push_of_some _ g1), d1, c1⟩ xlt it1 ((ht.push _).extBut sb1.extBut tlt) (by simp) fun h2 eb2 => ?_
  simp only [Option.isSome_none, Bool.false_eq_true, if_false]
  exact wpAny_pure (h h2 fun b o hb e => eb2 b o hb (sb1.extBut b o hb (Heap.get?_push_of_some _ e)))
end
/-- a list that is drawn from while an error is handled -/
def HotO (x1 : Addr) (o1 : Obj) (h : Heap) : Prop := h.get? x1 = some o1 ∧ ∃ vs : Array Value, o1.data = .fields vs ∧ vs[2]? = some .none
theorem drawsH {prog : Program} {w : World} {A : Around} {x1 : Addr} {o1 : Obj} (hh : A.handled = some (.ref x1)) (it l : Addr) (hne : l ≠ it) (hx : x1 ≠ it) (its : Array Value) :
    Draws prog w A it [it, l, x1] its.size (fun i v => its[i]? = some v) (fun i h => (h.IsListIter it l i ∧ h.IsList l its) ∧ HotO x1 o1 h) where
  live := fun i h st => let ⟨o, e, _⟩ := st.1.1; ⟨o, e⟩
  frame := fun i h h' st k => ⟨⟨st.1.1.at fun o e => k it (by simp) o e, st.1.2.at fun o e => k l (by simp) o e⟩, k x1 (by simp) _ st.2.1, st.2.2⟩
  item := fun i s Q E hi st hQ => by
    obtain ⟨⟨h1, h2⟩, h3⟩ := st
    refine wpAny_nextOf_list_item (x := its[i]) h1 h2 (by simp [hi]) fun h' st' sb => ?_
    refine hQ _ h' s.toks (by simp [hi]) ⟨⟨st', ?_⟩, ?_, h3.2⟩ sb
    · exact h2.at fun o e => sb.extBut _ _ hne e
    · exact sb.extBut _ _ hx h3.1
  done := fun s Q E st hE => by
    obtain ⟨⟨h1, h2⟩, h3, vs, d, c⟩ := st
    exact nextOf_list_endH ⟨hh, o1, vs, h3, d, c⟩ hx h1 h2 (by simp) hE
end PySem
namespace PyD
open PySem PySem.Spec PyProof.Rows L2
/-- zip over two lists while an error is handled -/
theorem turn_zipL {P : Program} {w : World} {K : PySem.W.Frag} {elts : List Expr} {kk : Nat} {tpos : Pos} (a b z TI TO i1 i2 : Addr) (ne : z ≠ TI ∧ z ≠ TO ∧ z ≠ i1 ∧ z ≠ i2 ∧ TI ≠ TO ∧ TI ≠ i1 ∧ TI ≠ i2 ∧ TO ≠ i1 ∧ TO ≠ i2 ∧ i1 ≠ i2) :
    L2H.TurnH P w K (.Tuple elts kk tpos) (ItZ K (.l a) (.l b)) [z, TI, TO, i1, i2] z (fun i h => IsZip h z TI TO .none ∧ IsTupOf2 h TI (.ref i1) (.ref i2) ∧ (∃ a1 a2, IsTupOf2 h TO a1 a2) ∧ h.IsListIter i1 a i ∧ h.IsListIter i2 b i) := by
  have sep : ∀ (X : Cx) (pins : List (Addr × Obj)) (s : Shared) (σ : L2.St) (H : Hp) (p : Addr × Obj), Inv X pins σ H s → p ∈ X.pn → (∀ c ∈ [z, TI, TO, i1, i2], FpOk X pins H c) → ∀ xs ys, SqL X.K H a xs → SqL X.K H b ys →
      ZipSep2 z TI TO i1 i2 [i1, a, p.1] [i2, b, p.1] ∧ a ≠ i1 ∧ b ≠ i2 ∧ p.1 ≠ i1 ∧ p.1 ≠ i2 := by
    intro X pins s σ H p I hp hf xs ys hx hy
    have ax : ∀ c ∈ [z, TI, TO, i1, i2], a ≠ c := fun c hc => Src.apart (x := .l a) I hx (hf c hc) (fp_base I (hf c hc)) a (List.mem_singleton.mpr rfl)
    have ay : ∀ c ∈ [z, TI, TO, i1, i2], b ≠ c := fun c hc => Src.apart (x := .l b) I hy (hf c hc) (fp_base I (hf c hc)) b (List.mem_singleton.mpr rfl)
    have ap : ∀ c ∈ [z, TI, TO, i1, i2], p.1 ≠ c := fun c hc => (hf c hc).2.2.2.2.2 p (List.mem_append_left _ hp)
    obtain ⟨n1, n2, n3, n4, n5, n6, n7, n8, n9, n10⟩ := ne
    have out : ∀ (c d e f : Addr), c ≠ d → e ≠ c → f ≠ c → c ∉ [d, e, f] := fun c d e f h1 h2 h3 q => by
      simp only [List.mem_cons, List.not_mem_nil, or_false] at q
      rcases q with q | q | q
      · exact h1 q
      · exact h2 q.symm
      · exact h3 q.symm
    refine ⟨⟨n1.symm, n2.symm, n5, n6, List.mem_cons_self, out _ _ _ _ n3 (ax z (by simp)) (ap z (by simp)), out _ _ _ _ n8 (ax TO (by simp)) (ap TO (by simp)), n7, List.mem_cons_self, out _ _ _ _ n4 (ay z (by simp)) (ap z (by simp)),
      out _ _ _ _ n9 (ay TO (by simp)) (ap TO (by simp)), out _ _ _ _ n10 (ay i1 (by simp)) (ap i1 (by simp)), out _ _ _ _ n10.symm (ax i2 (by simp)) (ap i2 (by simp))⟩, ax i1 (by simp), ay i2 (by simp), ap i1 (by simp), ap i2 (by simp)⟩
  refine { mem := by simp, obj := fun i h st c hc => ?_, keep := fun i h h' st k => ?_, item := ?_, done := ?_, self := fun A i s Q E st h => wpAny_pyIter_zip st.1 h }
  · obtain ⟨hz, hTI, ⟨a1, a2, hTO⟩, h1, h2⟩ := st
    have e' : c = z ∨ c = TI ∨ c = TO ∨ c = i1 ∨ c = i2 := by simpa using hc
    rcases e' with q | q | q | q | q
    · rw [q]; exact ⟨_, hz, fun v q => nomatch q⟩
    · rw [q]; exact ⟨_, hTI, fun v q => nomatch q⟩
    · rw [q]; exact ⟨_, hTO, fun v q => nomatch q⟩
    · rw [q]; exact Src.obj (x := .l a) h1
    · rw [q]; exact Src.obj (x := .l b) h2
  · obtain ⟨hz, hTI, ⟨a1, a2, hTO⟩, h1, h2⟩ := st
    exact ⟨k z (by simp) _ hz, k TI (by simp) _ hTI, ⟨a1, a2, k TO (by simp) _ hTO⟩, Src.keep (x := .l a) h1 fun o q => k i1 (by simp) o q, Src.keep (x := .l b) h2 fun o q => k i2 (by simp) o q⟩
  · intro X hP hw hK hc i pins s σ H E I hf st hg
    subst hP hw hK
    obtain ⟨p, ⟨hh, v1, dv, cv⟩, hp⟩ := hc
    obtain ⟨xs, ys, x, y, hqx, hqy, hx, hy⟩ := hg
    obtain ⟨S2, nx, ny, px, py⟩ := sep X pins s σ H p I hp hf xs ys hqx hqy
    obtain ⟨its, hb, hn, hr⟩ := Src.get (x := .l a) I hqx
    obtain ⟨its2, hb2, hn2, hr2⟩ := Src.get (x := .l b) I hqy
    obtain ⟨hz, hTI, hTO, h1, h2⟩ := st
    have hpin : HotO p.1 p.2 s.heap := ⟨(I.pin p (List.mem_append_left _ hp)).1, v1, dv, cv⟩
    have D1 := drawsH (prog := X.prog) (w := X.w) (A := X.A.in1) (o1 := p.2) hh i1 a nx px its
    have D2 := drawsH (prog := X.prog) (w := X.w) (A := X.A.in1) (o1 := p.2) hh i2 b ny py its2
    have WT := WalksT.zipD2 S2 D1 D2
    have hi : i < min its.size its2.size := by
      have q1 := (List.getElem?_eq_some_iff.mp hx).1
      have q2 := (List.getElem?_eq_some_iff.mp hy).1
      have q3 : its.size = xs.length := hn
      have q4 : its2.size = ys.length := hn2
      omega
    refine WT.item i s _ _ hi ⟨hz, hTI, hTO, ⟨⟨h1, hb⟩, hpin⟩, ⟨⟨h2, hb2⟩, hpin⟩⟩ fun T vals h' tk hP hT htup hm hk => ?_
    refine ⟨.ref T, rfl, WT.go elts kk tpos i T { s with heap := h', toks := tk } _ _ hm fun h3 st2 hk2 => ?_⟩
    obtain ⟨u1, u2, hu1, hu2, rfl⟩ := hP
    have ru1 := hr i x u1 hx hu1
    have ru2 := hr2 i y u2 hy hu2
    have Tne : T ∉ [z, TO, i1, i2] := WT.apart i T h' hm
    have hT2 : h3.IsTuple T #[u1, u2] := htup.at fun o q => hk2 T o Tne q
    have sub : ∀ c, c ∈ [z, TO, i1, i2] → c ∈ [z, TI, TO, i1, i2] := fun c hc => by
      have e' : c = z ∨ c = TO ∨ c = i1 ∨ c = i2 := by simpa using hc
      rcases e' with q | q | q | q <;> (rw [q]; simp)
    have new : ObjOk X.prog X.w (upd H T (.tup [x, y])) h3 T (.tup [x, y]) := ⟨by show 2 ≤ sizeLine; decide, [u1, u2], .cons ru1 (.cons ru2 .nil), hT2⟩
    have I1 : Inv X pins σ (upd H T (.tup [x, y])) { s with heap := h3, toks := tk } :=
      I.turnedNew (ch := [z, TO, i1, i2]) (fun c ob nb q => hk2 c ob nb (hk c ob nb q)) (fun c hc => hf c (sub c hc)) hT new
    refine ⟨.ref T, _, I1, rfl, ⟨T, x, y, rfl, I.hok.fresh hT, rfl, fun l hl => by rw [Src.inj (x := .l a) I hl hqx]; exact hx, fun l hl => by rw [Src.inj (x := .l b) I hl hqy]; exact hy⟩, ⟨st2.1, st2.2.1, st2.2.2.1, st2.2.2.2.1.1.1, st2.2.2.2.2.1.1⟩, fun c hcm => ?_⟩
    have lt : c < s.heap.objs.size := by
      have e' : c = z ∨ c = TI ∨ c = TO ∨ c = i1 ∨ c = i2 := by simpa using hcm
      rcases e' with q | q | q | q | q
      · rw [q]; exact Heap.lt_size hz
      · rw [q]; exact Heap.lt_size hTI
      · rw [q]; obtain ⟨_, _, hTO⟩ := hTO; exact Heap.lt_size hTO
      · rw [q]; obtain ⟨o, ho, _⟩ := Src.obj (x := .l a) h1; exact Heap.lt_size ho
      · rw [q]; obtain ⟨o, ho, _⟩ := Src.obj (x := .l b) h2; exact Heap.lt_size ho
    rw [upd_ne (Nat.ne_of_lt (Nat.lt_of_lt_of_le lt hT))]
    exact (hf c hcm).1
  · intro X hP hw hK hc i pins s σ H E I hf st hg
    subst hP hw hK
    obtain ⟨p, ⟨hh, v1, dv, cv⟩, hp⟩ := hc
    obtain ⟨xs, ys, hqx, hqy, he⟩ := hg
    obtain ⟨S2, nx, ny, px, py⟩ := sep X pins s σ H p I hp hf xs ys hqx hqy
    obtain ⟨its, hb, hn, hr⟩ := Src.get (x := .l a) I hqx
    obtain ⟨its2, hb2, hn2, hr2⟩ := Src.get (x := .l b) I hqy
    obtain ⟨hz, hTI, hTO, h1, h2⟩ := st
    have hpin : HotO p.1 p.2 s.heap := ⟨(I.pin p (List.mem_append_left _ hp)).1, v1, dv, cv⟩
    have D1 := drawsH (prog := X.prog) (w := X.w) (A := X.A.in1) (o1 := p.2) hh i1 a nx px its
    have D2 := drawsH (prog := X.prog) (w := X.w) (A := X.A.in1) (o1 := p.2) hh i2 b ny py its2
    have WT := WalksT.zipD2 S2 D1 D2
    have en : min its.size its2.size = i := by
      have q3 : its.size = xs.length := hn
      have q4 : its2.size = ys.length := hn2
      rw [q3, q4]; exact he
    have sub : ∀ c, c ∈ [z, TO, i1, i2] → c ∈ [z, TI, TO, i1, i2] := fun c hc => by
      have e' : c = z ∨ c = TO ∨ c = i1 ∨ c = i2 := by simpa using hc
      rcases e' with q | q | q | q <;> (rw [q]; simp)
    refine WT.done s _ _ (by rw [en]; exact ⟨hz, hTI, hTO, ⟨⟨h1, hb⟩, hpin⟩, ⟨⟨h2, hb2⟩, hpin⟩⟩) fun h' tk hk => ⟨rfl, ?_⟩
    exact I.turnedL (ch := [z, TO, i1, i2]) (fun c ob nb q => hk c ob nb q) fun c hc => hf c (sub c hc)
section
variable {X : Cx}
def iZpL (K : PySem.W.Frag) (ta tb : TE) : TI := fun σ H R => ta σ H fun x H1 => tb σ H1 fun y H2 => ∃ a b xs ys, x = .ref a ∧ y = .ref b ∧ SqL K H2 a xs ∧ SqL K H2 b ys ∧ R (ItZ K (.l a) (.l b)) H2
theorem pi_zpL {e e2 : Expr} {ta tb : TE} {p pos tpos : Pos} {elts : List Expr} {kk : Nat} (hg : L2.Gl X "zip") (hm : X.mg "zip" = none) (hn : nst e = true) (hn2 : nst e2 = true) (he : PE X e ta) (he2 : PE X e2 tb) :
    L2H.PIH X (.Tuple elts kk tpos) (.Call (.Name "zip" p) [e, e2] [] pos) (iZpL X.K ta tb) := by
  refine ⟨fun pins s σ H R I h => ?_⟩
  refine Call_ (ld_blt I hg hm PyProof.Rows.boot_zip (PyProof.Rows.callWith_type1 (args_cons (thn (he.run pins s σ H _ I h) fun u s1 ⟨x, H1, I1, r1, q1⟩ => args_cons (thn (he2.run pins s1 σ H1 _ I1 q1) fun u2 s2 ⟨y, H2, I2, r2, a, b, xs, ys, ex, ey, hk, hk2, q⟩ => args_nil ?_) (star_cons hn2)) (star_cons hn)) (star_cons hn) (star_any (es := [e2]) (by simp [hn2]))))
  obtain ⟨tk, o, Hc, B, h1, hi⟩ := sk_begins (k := .l a) I2 ⟨ex, xs, hk⟩ r1
  obtain ⟨tk2, o2, Hc2, B2, h2, hi2⟩ := sk_begins (k := .l b) I2 ⟨ey, ys, hk2⟩ r2
  refine zip_begins2 B B2 h1 h2 fun h' hz hTI hTO ho1 ho2 hsz hkp => wpAny_pyIter_zip hz ?_
  have I3 : Inv X pins σ H2 { s2 with heap := h' } := I2.kept (t' := s2.toks) hkp
  refine ⟨s2.heap.objs.size + 4, [s2.heap.objs.size + 4, s2.heap.objs.size + 2, s2.heap.objs.size + 3, s2.heap.objs.size, s2.heap.objs.size + 1], _, _, H2, rfl, I3,
    turn_zipL a b _ _ _ _ _ (zip_ne s2.heap.objs.size), ⟨hz, hTI, ⟨_, _, hTO⟩, hi _ _ ho1, hi2 _ _ ho2⟩, fun c hcm => ?_, q⟩
  have e' : c = s2.heap.objs.size + 4 ∨ c = s2.heap.objs.size + 2 ∨ c = s2.heap.objs.size + 3 ∨ c = s2.heap.objs.size ∨ c = s2.heap.objs.size + 1 := by simpa using hcm
  have hle : s2.heap.objs.size ≤ c := zip_le e'
  exact I2.fpOk hle (I2.hok.fresh hle)
end
end PyD
namespace PyD
open PySem PySem.Spec PyProof.Rows L2
theorem pg_tupH {X : Cx} {es : List Expr} {k : Nat} {t : TGs} {n : Nat} {pos : Pos} (hot : L2H.HotC X) (h : PGs X es t) (hn : (assignEach es X.env).length = n) (hst : (assignEach es X.env).findIdx? (·.1) = none) : PG X (.Tuple es k pos) (gTup X.K n t) := by
  refine ⟨fun pins s σ H v u Q I r hw => ?_⟩
  obtain ⟨a, xs, rfl, hq, hl, hw⟩ := hw
  cases r
  obtain ⟨its, rv, ht, hz⟩ := I.tuple hq
  obtain ⟨x1, hx1⟩ := hot.at I
  refine assign_tupleH hx1 ht (by simp [hn, ← hl, rv.length]) hst fun h' hx => ?_
  exact h.run pins _ σ H xs _ Q (I.kept (t' := s.toks) fun b o e => hx b o (Nat.ne_of_lt (Heap.lt_size e)) e) (by simpa using rv) hw
end PyD
namespace PyD
open PySem PySem.Spec PyProof.Rows L2
/-- a comprehension's block while an error is handled: its record stays known -/
abbrev blkP (X : Cx) (s : Shared) (H : Hp) (scope : Scope) (ce : PySem.Env) (fp : List Addr) (pn : List (Addr × Obj)) : Cx := (X.blk s H scope ce fp).tr pn fun _ _ => False
section
variable {X : Cx}
theorem pe_lcH {elt tg iter : Expr} {ifs : List Expr} {scope : Scope} {own : List (PySem.Str × Nat)} {pos : Pos} {wi : TI} {g : TG} {tt : TT} {te : TE} (hot : L2H.HotC X) (nd : X.N.Nodup) (walk : L2H.PIH X tg iter wi) (ok : BlkOk X.N X.env.scope scope own)
    (store : ∀ (s : Shared) (H : Hp) (C : Addr) (c' : List (PySem.Str × Addr)) (fp : List Addr) (pn : List (Addr × Obj)), L2H.HotC (blkP X s H scope (compEnvC scope c' C X.env) fp pn) → PG (blkP X s H scope (compEnvC scope c' C X.env) fp pn) tg g)
    (test : ∀ (s : Shared) (H : Hp) (C : Addr) (c' : List (PySem.Str × Addr)) (fp : List Addr) (pn : List (Addr × Obj)), PTs (blkP X s H scope (compEnvC scope c' C X.env) fp pn) ifs tt)
    (value : ∀ (s : Shared) (H : Hp) (C : Addr) (c' : List (PySem.Str × Addr)) (fp : List Addr) (pn : List (Addr × Obj)), PE (blkP X s H scope (compEnvC scope c' C X.env) fp pn) elt te) (plain : notSet iter = true) :
    PE X (.ListComp elt [⟨tg, iter, ifs, 0⟩] scope pos) (tLc wi g tt te (own.map Prod.snd)) := by
  obtain ⟨p, hp1, hp2⟩ := hot
  refine ⟨fun pins s σ H Q I wish => ?_⟩
  rw [eval_ListComp]
  have caught : ∀ y ∈ scope.names, y.2 = .free → ∃ c, X.env.cells.lookup y.1 = some c := fun y hy e => (ok.free y hy e).elim (fun k => I.ok.has _ (.inl k)) fun k => I.ok.has _ (.inr k)
  refine wpAny_comprehension_free rfl (fsi plain) (closure_ok caught) ok.kind (fun y hy e => (ok.uniq y hy).trans (congrArg some e)) ?_
  refine thn (walk.run pins s σ H _ I wish) fun _ _ hx => thn hx fun _ t ht => ?_
  obtain ⟨it, fp, tn, J, H2, rfl, I2, T, st2, f2, wish2⟩ := ht
  refine wpAny_newObj_type (newEnv_comp ?_) (Nat.zero_le _)
  obtain ⟨D, hD⟩ : ∃ D, D = t.heap.objs.size := ⟨_, rfl⟩
  obtain ⟨W, ⟨m0, w0⟩, turn⟩ := wish2 D (I2.hok.fresh (Nat.le_of_eq hD.symm))
  rw [← hD]
  obtain ⟨u, hu⟩ : ∃ u : Shared, u = { t with heap := t.heap.push { cls := .type "list", data := .seq ([] : List Value).toArray } } := ⟨_, rfl⟩
  obtain ⟨H3, hH3⟩ : ∃ H3, H3 = upd H2 D (.lst []) := ⟨_, rfl⟩
  have kpu : ∀ b o, t.heap.get? b = some o → u.heap.get? b = some o := fun b o e => by rw [hu]; exact Heap.get?_push_of_some _ e
  have I3 : Inv X pins σ H3 u := by
    rw [hu, hH3]
    exact I2.laid (t' := t.toks) (fun _ _ e => Heap.get?_push_of_some _ e) (Nat.le_of_eq hD.symm) ⟨Nat.zero_le _, [], 0, .nil, by rw [hD]; exact Heap.get?_push_size _ rfl⟩
  have inT : ∀ b ∈ fp, b < t.heap.objs.size := fun b hb => (T.obj _ _ st2 b hb).elim fun o e => Heap.lt_size e.1
  have f3 : ∀ b ∈ fp, FpOk X pins H3 b ∧ b < u.heap.objs.size := fun b hb => by
    refine ⟨⟨?_, (f2 b hb).2⟩, by rw [hu]; exact Nat.lt_of_lt_of_le (inT b hb) (by rw [Heap.size_push]; exact Nat.le_succ _)⟩
    rw [hH3, upd_ne (by rw [hD]; exact Nat.ne_of_lt (inT b hb))]
    exact (f2 b hb).1
  have st3 := T.keep _ _ u.heap st2 fun b _ => kpu b
  rw [← hH3] at w0
  have pinp := I3.pin p (List.mem_append_left _ hp2)
  obtain ⟨ce, hce⟩ : ∃ ce, ce = compEnvC scope (cellsFrom (u.heap.objs.size + 1) scope.names (cloFrom X.env.cells scope.names [])) u.heap.objs.size X.env := ⟨_, rfl⟩
  obtain ⟨v, hv⟩ : ∃ v : Shared, v = { u with heap := pushCells (u.heap.push { cls := .type "dict", data := .dict #[] }) scope.names } := ⟨_, rfl⟩
  have kpv : ∀ b o, u.heap.get? b = some o → v.heap.get? b = some o := fun b o e => by rw [hv]; exact pushCells_keeps _ _ _ _ (Heap.get?_push_of_some _ e)
  have I4a : Inv (X.blk u H3 scope ce fp) [] (wipe σ (own.map Prod.snd)) H3 v := by rw [hce, hv]; exact block_start I3 ok nd f3
  have I4 : Inv (blkP X u H3 scope ce fp [p]) [] (wipe σ (own.map Prod.snd)) H3 v := by
    refine ⟨I4a.ok.toTry _ _, I4a.os, I4a.bare, I4a.base, I4a.loc, I4a.cell, I4a.free, I4a.freeC, fun q hq => ?_, I4a.hok, I4a.len⟩
    have eq : q = p := by simpa using hq
    rw [eq]
    refine ⟨kpv _ _ pinp.1, pinp.2.1, ?_, fun hm => (List.mem_cons.mp (I3.stkSub p.1 hm)).elim pinp.2.2.1 pinp.2.2.2.1, pinp.2.2.2.2⟩
    rw [hce]
    exact Nat.ne_of_lt (Heap.lt_size pinp.1)
  have cL : ce.locals = u.heap.objs.size := by rw [hce]; rfl
  have pg := store u H3 u.heap.objs.size (cellsFrom (u.heap.objs.size + 1) scope.names (cloFrom X.env.cells scope.names [])) fp [p] ⟨p, hp1, List.mem_singleton.mpr rfl⟩
  have pt := test u H3 u.heap.objs.size (cellsFrom (u.heap.objs.size + 1) scope.names (cloFrom X.env.cells scope.names [])) fp [p]
  have pe := value u H3 u.heap.objs.size (cellsFrom (u.heap.objs.size + 1) scope.names (cloFrom X.env.cells scope.names [])) fp [p]
  rw [← hce] at pg pt pe
  have hotY : L2H.HotC (blkP X u H3 scope ce fp [p]) := ⟨p, hp1, List.mem_singleton.mpr rfl⟩
  have stat : ∀ {σ' : L2.St} {H' : Hp} {s' : Shared}, Inv (blkP X u H3 scope ce fp [p]) [] σ' H' s' → (∀ b ∈ fp, H' b = none) → ∀ b ∈ fp, FpOk (blkP X u H3 scope ce fp [p]) [] H' b := fun {σ' H' s'} I' hn b hb =>
    ⟨hn b hb, (I'.ok.exf b hb).1, I'.ok.exfs b hb, .inl hb, fun x c e => (I'.ok.exf b hb).2 x c e, fun q hq => by
      have eq : q = p := by simpa using hq
      rw [eq]
      exact (f3 b hb).1.2.2.2.2.2 p (List.mem_append_left _ hp2)⟩
  have st4 := T.keep _ _ v.heap st3 fun b _ => kpv b
  have empty : ∀ b ∈ fp, H3 b = none := fun b hb => (f3 b hb).1.1
  have main : codeAny (model X.prog X.w) X.A (.compLoop (.ListComp elt [⟨tg, iter, ifs, 0⟩] scope pos) 0 (.ref it) (.ref D) ce) (compPost (model X.prog X.w) X.A X.xe none (EP X pins σ Q) (.ref D) u.heap.objs.size) v := by
    refine compLoop_any (fun n s' => ∃ i H', Inv (blkP X u H3 scope ce fp [p]) [] (wipe σ (own.map Prod.snd)) H' s' ∧ tn i s'.heap ∧ (∀ b ∈ fp, H' b = none) ∧ W i n H') ?_ m0 ⟨0, H3, I4, st4, empty, w0⟩
    intro n s5 inv5
    obtain ⟨i, H5, I5, st5, n5, w5⟩ := inv5
    rcases turn i n H5 w5 with ⟨stop, fine⟩ | ⟨go, Nx, hNx, step⟩
    · refine thnF (T.done (blkP X u H3 scope ce fp [p]) rfl rfl rfl hotY i [] s5 _ H5 (fun _ _ => False) I5 (stat I5 n5) st5 stop) fun r s6 ⟨hr, I6⟩ => ?_
      rw [hr]
      have I7 : Inv X pins σ H5 s6 := I3.call' (ch := fp) I6.os I6.base I6.hok I6.bare fun b hb => let f := (f3 b hb).1; ⟨f.2.2.2.1, f.2.1, f.2.2.2.2.1, f.2.2.2.2.2⟩
      have nC : H5 u.heap.objs.size = none := by rw [← cL]; exact I6.free
      obtain ⟨m, hn, -⟩ := I6.loc
      have hn : s6.heap.Ns ce.locals m := hn
      rw [cL] at hn
      have f := I3.fpOk (H' := H5) (Nat.le_refl _) nC
      refine ⟨m, hn, fun h'' sb => ?_⟩
      exact ⟨.ref D, H5, I7.turned (t' := s6.toks) (fun b o hb e => (sb.2 b hb).trans e) f.1 f.2.1 f.2.2.2.1 f.2.2.2.2.1 f.2.2.2.2.2, rfl, fine⟩
    · refine thnF (T.item (blkP X u H3 scope ce fp [p]) rfl rfl rfl hotY i [] s5 _ H5 (fun _ _ => False) I5 (stat I5 n5) st5 go) fun r s6 ⟨uu, hr, h6⟩ => ?_
      rw [hr]
      refine thnF h6 fun _ s7 ⟨x, H7, I7, r7, y7, st7, n7⟩ => ?_
      refine thnF (pg.run _ s7 _ H7 x uu _ (I7.pinned (stat I7 n7) (T.obj _ _ st7)) r7 (step x H7 y7)) fun _ s8 ⟨σ8, H8, I8, hw8, q8⟩ => ?_
      refine thnF (pt.run _ s8 σ8 H8 _ I8 q8) fun b s9 ⟨H9, I9, q9⟩ => ?_
      have fin : ∀ {s' : Shared} {H' : Hp}, Inv (blkP X u H3 scope ce fp [p]) ([] ++ pinsAt fp s7.heap) σ8 H' s' → Nx H' → ∃ m, m < n ∧ ∃ i H', Inv (blkP X u H3 scope ce fp [p]) [] (wipe σ (own.map Prod.snd)) H' s' ∧ tn i s'.heap ∧ (∀ b ∈ fp, H' b = none) ∧ W i m H' := fun {s' H'} I' nx => by
        obtain ⟨m', hm, w'⟩ := hNx H' nx
        have at7 : ∀ b ∈ fp, ∀ o, s7.heap.get? b = some o → s'.heap.get? b = some o ∧ H' b = none := fun b hb o e =>
          have z := I'.pin (b, o) (List.mem_append_right _ (List.mem_append_right _ (mem_pinsAt hb e)))
          ⟨z.1, z.2.1⟩
        refine ⟨m', hm, i + 1, H', (I'.unpinned (pins := [])).weak (by rw [← hw8, wipe_length]) (fun j v e => (wipe_some (hw8 ▸ e : (wipe σ8 (own.map Prod.snd))[j]? = _)).1), T.keep _ _ _ st7 fun b hb o e => (at7 b hb o e).1, fun b hb => ?_, w'⟩
        exact (T.obj _ _ st7 b hb).elim fun o e => (at7 b hb o e.1).2
      cases b with
      | false =>
        simp only [Bool.false_eq_true, if_false] at q9 ⊢
        exact fin I9 q9
      | true =>
        simp only [if_true] at q9 ⊢
        refine thnF (pe.run _ s9 σ8 H9 _ I9 q9) fun z s10 ⟨yv, H10, I10, r10, acc, a1, a2, nx⟩ => ?_
        exact app_ok (X := blkP X u H3 scope ce fp [p]) I10 a1 a2 r10 fun s11 I11 => fin I11 nx
  have start := codeAny_compStart_list main (T.self X.A 0 _ _ _ st4 main)
  subst hce hv hu
  exact start
end
end PyD

set_option Elab.async false
set_option linter.all false
set_option maxRecDepth 100000
set_option maxHeartbeats 4000000
/-! PyE2: _law_names(e), called while e is handled. -/
namespace PyD
open PySem PySem.Spec PyProof.Rows L2
/-- a def called while the error p is handled: its promise may tell of p -/
theorem fnP_run {P : Program} {w : World} {K : PySem.W.Frag} {mg : PySem.Str → Option Value} {base : Heap} {k : Nat} {f : Addr} {fd : FuncData} {nm qual : PySem.Str} {pa : Arguments} {bd : List Stmt} {sc : Scope} {N ps : List PySem.Str} (F : FunD K nm qual pa bd sc [] [] f fd) (S : FnScope N ps sc)
    {p : Addr × Obj} {A : Around} {outer : List PySem.Env} {s : Shared} {H : Hp} {us : List Value} {vs : List V} {Q : VK} (hr : L2H.RoomH (k + 1) A) (hot : L2H.Hot1 A p) (hpin : L2H.PinOk outer H s p) (e0 : Env0 P w K mg base A outer s H) (hb : BindsTo s fd ⟨us, []⟩ (ps.zip us)) (rv : Vals vs us) (hl : vs.length = ps.length)
    (hbody : ∀ cdv, ∃ t, PSs (L2H.cxH C8.CX0 P w K mg base N qual sc f cdv A outer s H C8.E0 p) bd t ∧ t { nx := fun _ H' => Q .non H', rt := Q } (L2.start N vs) H) :
    codeAny (model P w) A (.call (.ref f) ⟨us, []⟩) (CR C8.CX0 outer P w H s Q C8.E0) s := by
  obtain ⟨oc, od, dV, kV, doc, pm, an, cdv, ct, osl, rfl, lk, hcd, -, -⟩ := F.ex
  have inB := e0.mod.kin.keeps fun b o e => (e0.bs b o e).1
  have lim := e0.mod.nolimit.keeps fun b o e => (e0.bs b o e).1
  refine codeAny_call_function hr.depth (inB _ _ lk) rfl S.co S.gen rfl (PySem.W.codeRec_of inB hcd) (hb _ _ _ _ ?_)
  refine wpAny_newFunctionEnv_cells S.kind (fun y hy => ?_) fun env he s1 x => ?_
  · rcases S.par y.1 (List.of_mem_zip (show (y.1, y.2) ∈ _ from hy)).1 with q | q
    · exact .inl q
    · exact .inr ⟨q, PySem.W.cellsFrom_some _ _ _ (.inl q)⟩
  · subst he
    refine ⟨lim.keeps x.toInCall.keep, codeAny_func ?_⟩
    obtain ⟨t, ht, hq⟩ := hbody cdv
    have I := L2H.inv_startH (CX := C8.CX0) (E := C8.E0) S hpin e0 hl rv x
    refine wpAny_mono (ht.run [] s1 (L2.start N vs) H _ I hq) (fun fl s' hs => ?_) fun e s' hs => hs
    cases fl with
    | next => obtain ⟨σ', H', J, q⟩ := hs; exact ⟨V.non, H', J.os, J.bare, J.base, J.hok, rfl, q⟩
    | ret u => obtain ⟨v, σ', H', J, r, q⟩ := hs; exact ⟨v, H', J.os, J.bare, J.base, J.hok, r, q⟩
    | brk => obtain ⟨_, _, _, q⟩ := hs; exact q.elim
    | cont => obtain ⟨_, _, _, q⟩ := hs; exact q.elim
/-- isinstance(e, c), e the known error -/
theorem call_isP {X : Cx} {D : Addr} {p : Addr × Obj} (C : ExcC X.K D) (hz : L2N.Zn (.ref D) none p.2) (hf : ∃ vs, p.2.data = .fields vs) (hp : p ∈ X.pn) : CallR X (.builtin "isinstance") (rIsE X.K D p.1) := by
  intro pins s σ H xs us Q I r h
  obtain ⟨c, cv, b, rfl, hcv, e, q⟩ := h
  obtain ⟨u1, u2, rfl, r1, r2⟩ := vals2 r
  cases r1
  have ec := hcv _ r2
  subst ec
  have hget := (I.pin p (List.mem_append_left _ hp)).1
  obtain ⟨a, ⟨oc, od, oda, osl⟩⟩ := p
  obtain ⟨vs, hv⟩ := hf
  obtain ⟨h1, h2, -⟩ := hz
  dsimp only at h1 h2 hv
  subst h1 h2 hv
  have J : PySem.W.InstAt s.heap a _ D none := ⟨hget, rfl, rfl, trivial⟩
  exact PySem.W.kia_one (PySem.W.handS_kitx_exc C.hg C.hk C.hs C.hd C.ha C.hn C.ht C.hm) I.kIn J e (fun z => nomatch z) fun tk => ⟨.bl b, H, I.kept (t' := tk) fun _ _ z => z, rfl, q⟩
/-- [isinstance(e, C), ..] -/
inductive IsiEs (X : Cx) (D a : Addr) : List Expr → List Bool → Prop
  | nil : IsiEs X D a [] []
  | cons {x : PySem.Str} {v : V} {u : Value} {b : Bool} {p1 p2 p3 p4 : Pos} {es : List Expr} {bs : List Bool} (pe : PE X (.Name x p3) (tC v)) (ru : ∀ z, RelV v z → z = u) (k : PySem.W.kitOne X.K (.ref D) u = some b) (r : IsiEs X D a es bs) :
      IsiEs X D a (.Call (.Name "isinstance" p1) [.Name "e" p2, .Name x p3] [] p4 :: es) (b :: bs)
def tIsis (a : Addr) (bs : List Bool) : TA := fun σ H Q => σ[0]? = some (some (.ref a)) ∧ Q (bs.map V.bl) H
theorem pa_isis {X : Cx} {D : Addr} {p : Addr × Obj} (C : ExcC X.K D) (hz : L2N.Zn (.ref D) none p.2) (hf : ∃ vs, p.2.data = .fields vs) (hp : p ∈ X.pn) (hg : L2.Gl X "isinstance") (hm : X.mg "isinstance" = none) (h0 : X.N[0]? = some ("e" : PySem.Str)) (v0 : Vis X.env.scope "e") :
    ∀ {es : List Expr} {bs : List Bool}, IsiEs X D p.1 es bs → PA X es (tIsis p.1 bs)
  | _, _, .nil => pa_nil.imp fun σ H Q q => q.2
  | _, _, .cons pe ru k r => (pa_cons (pe_callB (call_isP C hz hf hp) hg hm (by decide +kernel) (pa_cons (pe_var (i := 0) h0 v0) (pa_cons pe pa_nil))) (pa_isis C hz hf hp hg hm h0 v0 r)).imp fun σ H Q q =>
      ⟨_, q.1, ⟨_, _, _, rfl, ru, k, q.1, q.2⟩⟩
end PyD
namespace PyD
open PySem PySem.Spec PyProof.Rows L2
/-- the words whose flag is set -/
def pick : List PySem.Str → List Bool → List PySem.Str
  | w :: ws, b :: bs => if b = true then w :: pick ws bs else pick ws bs
  | _, _ => []
theorem pick_snoc : ∀ {ws : List PySem.Str} {bs : List Bool} {i : Nat} {w : PySem.Str} {b : Bool}, ws[i]? = some w → bs[i]? = some b → pick (ws.take (i + 1)) (bs.take (i + 1)) = pick (ws.take i) (bs.take i) ++ (if b = true then [w] else [])
  | _ :: _, _ :: _, 0, w, b, h1, h2 => by
    simp at h1 h2
    subst h1 h2
    simp only [List.take_succ_cons, List.take_zero, pick, List.nil_append]
  | x :: xs, y :: ys, i + 1, w, b, h1, h2 => by
    have ih := pick_snoc (ws := xs) (bs := ys) (i := i) (by simpa using h1) (by simpa using h2)
    show pick (x :: xs.take (i + 1)) (y :: ys.take (i + 1)) = pick (x :: xs.take i) (y :: ys.take i) ++ _
    unfold pick
    rw [ih]
    split <;> simp
/-- an error's names -/
def namesOf (l1 l2 : PySem.Str) (bs : List Bool) : PySem.Str := Txt.join " " (pick (Txt.split (l1 ++ l2) " ") bs)
theorem wk_zl {K : PySem.W.Frag} {a b : Addr} {xs ys : List V} : Walk (ItZ K (.l a) (.l b)) (min xs.length ys.length) (fun H => H a = some (.lst xs) ∧ H b = some (.lst ys))
    (fun i H v H' => ∃ T x y, v = .ref T ∧ H T = none ∧ H' = upd H T (.tup [x, y]) ∧ xs[i]? = some x ∧ ys[i]? = some y) := by
  refine ⟨fun i H hi g => ?_, fun H g => ⟨xs, ys, SqL.of g.1, SqL.of g.2, rfl⟩, fun i H v H' _ g y => ?_⟩
  · have h1 : i < xs.length := by omega
    have h2 : i < ys.length := by omega
    exact ⟨xs, ys, xs[i], ys[i], SqL.of g.1, SqL.of g.2, by simp [h1], by simp [h2]⟩
  · obtain ⟨T, x, y, e1, e2, e3, e4, e5⟩ := y
    exact ⟨T, x, y, e1, e2, e3, e4 xs (SqL.of g.1), e5 ys (SqL.of g.2)⟩
/-- the body of _law_names, but for the places -/
structure NmBody (bd : List Stmt) (es : List Expr) (l1 l2 : PySem.Str) (cs : Scope) : Prop where
  ex : ∃ (p1 p2 p3 p4 p5 p6 p7 p8 p9 p10 p11 p12 p13 p14 p15 p16 p17 p18 p19 p20 p21 p22 p23 p24 p25 p26 p27 p28 : Pos) (j1 j2 j3 j4 k1 : Nat), (p13.endLine == p25.line) = true ∧ (p21.endLine == p22.line) = true ∧
    bd = [.Assign [.Name "some" p1] (.List es p2) p3, .Assign [.Name "labels" p4] (.Constant (.str l1) j1 p5) p6, .Assign [.Name "labels" p7] (.BinOp (.Name "labels" p8) .Add (.Constant (.str l2) j2 p9) p10) p11,
      .Return (some (.Call (.Attribute (.Constant (.str " ") j3 p12) "join" p13) [.ListComp (.Name "word" p14) [⟨.Tuple [.Name "word" p15, .Name "good" p16] k1 p17, .Call (.Name "zip" p18) [.Call (.Attribute (.Name "labels" p19) "split" p21) [.Constant (.str " ") j4 p20] [] p22, .Name "some" p23] [] p24, [.Name "good" p26], 0⟩] cs p27] [] p25)) p28]
section
variable {X : Cx} {D : Addr} {p : Addr × Obj}
theorem names_body {bd : List Stmt} {es : List Expr} {l1 l2 : PySem.Str} {cs : Scope} {bs : List Bool} (hot : L2H.HotC X) (C : ExcC X.K D) (hz : L2N.Zn (.ref D) none p.2) (hf : ∃ vs, p.2.data = .fields vs) (hp : p ∈ X.pn) (B : NmBody bd es l1 l2 cs) (hes : IsiEs X D p.1 es bs)
    (hN : X.N = (["e", "some", "labels", "word", "good"] : List PySem.Str)) (hloc : ∀ x ∈ (["e", "some", "labels"] : List PySem.Str), X.env.scope.names.lookup x = some .local) (hgi : L2.Gl X "isinstance") (hgz : L2.Gl X "zip") (hmi : X.mg "isinstance" = none) (hmz : X.mg "zip" = none)
    (ok : BlkOk X.N X.env.scope cs [("word", 3), ("good", 4)]) (hcs : ∀ x ∈ (["word", "good"] : List PySem.Str), cs.names.lookup x = some .local) (hl : l1.length + l2.length + 2 ≤ sizeLine) (hlen : (Txt.split (l1 ++ l2) " ").length = bs.length) (hbl : bs.length ≤ 1000) (hj : ((pick (Txt.split (l1 ++ l2) " ") bs).map (·.length)).sum + (pick (Txt.split (l1 ++ l2) " ") bs).length * 1 ≤ 16777216)
    (hpl : (pick (Txt.split (l1 ++ l2) " ") bs).length ≤ 1000) :
    ∃ t, PSs X bd t ∧ ∀ H Q, (∀ H', Same H H' → Q (.str (namesOf l1 l2 bs)) H') → ∀ nx : L2.St → Hp → Prop, t { nx := nx, rt := Q } (L2.start (["e", "some", "labels", "word", "good"] : List PySem.Str) [.ref p.1]) H := by
  obtain ⟨p1, p2, p3, p4, p5, p6, p7, p8, p9, p10, p11, p12, p13, p14, p15, p16, p17, p18, p19, p20, p21, p22, p23, p24, p25, p26, p27, p28, j1, j2, j3, j4, k1, hl1, hl2, rfl⟩ := B.ex
  have nd : X.N.Nodup := by rw [hN]; decide +kernel
  have n0 : X.N[0]? = some ("e" : PySem.Str) := by rw [hN]; rfl
  have n1 : X.N[1]? = some ("some" : PySem.Str) := by rw [hN]; rfl
  have n2 : X.N[2]? = some ("labels" : PySem.Str) := by rw [hN]; rfl
  have n3 : X.N[3]? = some ("word" : PySem.Str) := by rw [hN]; rfl
  have n4 : X.N[4]? = some ("good" : PySem.Str) := by rw [hN]; rfl
  have v0 := hloc "e" (by decide +kernel)
  have v1 := hloc "some" (by decide +kernel)
  have v2 := hloc "labels" (by decide +kernel)
  have w3 := hcs "word" (by decide +kernel)
  have w4 := hcs "good" (by decide +kernel)
  have r1 : PS X (.Assign [.Name "some" p1] (.List es p2) p3) _ := ps_set nd n1 (.inl v1) (pe_lst (pa_isis C hz hf hp hgi hmi n0 (.inl v0) hes)) rfl (.inr v1)
  have r2 : PS X (.Assign [.Name "labels" p4] (.Constant (.str l1) j1 p5) p6) _ := ps_set nd n2 (.inl v2) pe_str rfl (.inr v2)
  have r3 : PS X (.Assign [.Name "labels" p7] (.BinOp (.Name "labels" p8) .Add (.Constant (.str l2) j2 p9) p10) p11) _ := ps_set nd n2 (.inl v2) (pe_op op_add_str (pe_var n2 (.inl v2)) pe_str) rfl (.inr v2)
  have z := pi_zpL (X := X) (p := p18) (pos := p24) (tpos := p17) (elts := [.Name "word" p15, .Name "good" p16]) (kk := k1) hgz hmz rfl rfl (pe_split (pos := p22) (pe_var (pos := p19) n2 (.inl v2)) (pe_str (x := " ") (j := j4) (pos := p20)) rfl rfl hl2) (pe_var (pos := p23) n1 (.inl v1))
  have keep : ∀ {x : PySem.Str} (s : Shared) (H : Hp) (Cc : Addr) (c' : List (PySem.Str × Addr)) (fp : List Addr) (pn : List (Addr × Obj)), cs.names.lookup x = some .local → (blkP X s H cs (compEnvC cs c' Cc X.env) fp pn).env.scope.names.lookup x = some .local := fun s H Cc c' fp pn h => lookup_relS_keep (by simp) h
  have lc := pe_lcH (pos := p27) (own := [("word", 3), ("good", 4)]) hot nd z ok
    (g := gTup X.K 2 (gCons (gName 3) (gCons (gName 4) gNil))) (fun s H Cc c' fp pn hotY => ?_) (fun s H Cc c' fp pn => pts_one (pt_val (pe_var (i := 4) (pos := p26) n4 (.inl (keep s H Cc c' fp pn w4))) fun _ => rfl)) (fun s H Cc c' fp pn => pe_var (i := 3) (pos := p14) n3 (.inl (keep s H Cc c' fp pn w3))) rfl
  · have r4 := ps_ret (pos := p28) (pe_join (pos := p25) (pe_str (x := " ") (j := j3) (pos := p12)) lc rfl rfl hl1)
    refine ⟨_, pss_cons r1 (pss_cons r2 (pss_cons r3 (pss_one r4))), fun H Q q nx => ?_⟩
    refine ⟨rfl, by rw [List.length_map]; exact Nat.le_trans hbl (by rw [sizeLine_eq]; omega), fun a1 f1 => ?_⟩
    refine ⟨.str l1, rfl, l1, l2, rfl, rfl, by omega, ?_⟩
    refine ⟨⟨_, rfl⟩, .str (l1 ++ l2), rfl, ⟨_, rfl⟩, _, _, rfl, rfl, rfl, ?_, fun a2 f2 => ?_⟩
    · rw [Str.length_append]; omega
    have ws := (Txt.split (l1 ++ l2) " ")
    obtain ⟨H2, hH2⟩ : ∃ H2, H2 = upd (upd H a1 (.lst (bs.map V.bl))) a2 (.lst ((Txt.split (l1 ++ l2) " ").map V.str)) := ⟨_, rfl⟩
    have e1 : H2 a1 = some (.lst (bs.map V.bl)) := by rw [hH2, upd_ne (ne_of_none upd_same f2)]; exact upd_same
    have e2 : H2 a2 = some (.lst ((Txt.split (l1 ++ l2) " ").map V.str)) := by rw [hH2]; exact upd_same
    have sm : Same H H2 := by
      rw [hH2]
      exact (same_upd f1).trans (same_upd f2)
    rw [← hH2]
    refine ⟨.ref a1, rfl, a2, a1, _, _, rfl, rfl, SqL.of e2, SqL.of e1, fun Dn fD => ?_⟩
    have lens : min ((Txt.split (l1 ++ l2) " ").map V.str).length (bs.map V.bl).length = bs.length := by rw [List.length_map, List.length_map, hlen]; omega
    have nD : ∀ {b o}, H2 b = some o → b ≠ Dn := fun e => ne_of_none e fD
    refine lc_it (wk_zl (xs := (Txt.split (l1 ++ l2) " ").map V.str) (ys := bs.map V.bl)) (fun i H' => (∀ b o, H2 b = some o → H' b = some o) ∧ H' Dn = some (.lst ((pick ((Txt.split (l1 ++ l2) " ").take i) (bs.take i)).map V.str))) ⟨fun b o e => by rw [upd_ne (nD e)]; exact e, by rw [upd_same]; simp [pick]⟩
      (fun i H' _ h => ⟨h.1 _ _ e2, h.1 _ _ e1⟩) (fun i x H' H'' hi h hy => ?_) fun H' h => ?_
    · obtain ⟨T, w, g, rfl, hT, rfl, hw, hg⟩ := hy
      obtain ⟨hk, hD⟩ := h
      rw [List.getElem?_map] at hw hg
      obtain ⟨w', ew, rfl⟩ := Option.map_eq_some_iff.mp hw
      obtain ⟨g', eg, rfl⟩ := Option.map_eq_some_iff.mp hg
      have nT : ∀ {b o}, H' b = some o → b ≠ T := fun e => ne_of_none e hT
      have kT : ∀ b o, H2 b = some o → upd H' T (.tup [.str w', .bl g']) b = some o := fun b o e => by rw [upd_ne (nT (hk b o e))]; exact hk b o e
      have dT : upd H' T (.tup [.str w', .bl g']) Dn = some (.lst ((pick ((Txt.split (l1 ++ l2) " ").take i) (bs.take i)).map V.str)) := by rw [upd_ne (nT hD)]; exact hD
      have ps := pick_snoc ew eg
      refine ⟨T, _, rfl, SqT.of upd_same, rfl, _, _, rfl, _, _, rfl, rfl, rfl, .bl g', rfl, g', rfl, ?_⟩
      cases g' with
      | false =>
        rw [if_neg Bool.false_ne_true]
        exact ⟨kT, by rw [ps]; simpa using dT⟩
      | true =>
        rw [if_pos rfl]
        refine ⟨.str w', rfl, _, dT, ?_, fun b o e => by rw [upd_ne (nD e)]; exact kT b o e, by rw [upd_same, ps]; simp⟩
        rw [List.length_map]
        have : (pick ((Txt.split (l1 ++ l2) " ").take i) (bs.take i)).length ≤ i := by
          have go : ∀ (a : List PySem.Str) (b : List Bool), (pick a b).length ≤ b.length := by
            intro a
            induction a with
            | nil => intro b; simp [pick]
            | cons x a ih =>
              intro b
              cases b with
              | nil => simp [pick]
              | cons y b => unfold pick; split <;> (have := ih b; simp; omega)
          have := go ((Txt.split (l1 ++ l2) " ").take i) (bs.take i)
          rw [List.length_take] at this
          omega
        have := sizeLine_eq
        omega
    · obtain ⟨hk, hD⟩ := h
      rw [lens, List.take_of_length_le (by omega), List.take_of_length_le (by omega)] at hD
      exact ⟨" ", Dn, _, rfl, rfl, .inl (SqL.of hD), hj, q H' (sm.trans hk)⟩
  · exact pg_tupH (X := blkP X s H cs (compEnvC cs c' Cc X.env) fp pn) hotY (pgs_cons (pg_name nd n3 (.inl (keep s H Cc c' fp pn w3)) (.inr (keep s H Cc c' fp pn w3))) (pgs_cons (pg_name nd n4 (.inl (keep s H Cc c' fp pn w4)) (.inr (keep s H Cc c' fp pn w4))) pgs_nil)) rfl rfl
end
end PyD

set_option Elab.async false
set_option linter.all false
set_option maxRecDepth 100000
set_option maxHeartbeats 4000000
/-! PyE3: _law_error: try: call() except FateError as e: return _law_names(e); return "". -/
namespace PyD
open PySem PySem.Spec PyProof.Rows L2
abbrev nmN : List PySem.Str := ["e", "some", "labels", "word", "good"]
def isiNames : List Expr → Option (List PySem.Str)
  | [] => some []
  | .Call (.Name i _) [.Name e _, .Name x _] [] _ :: r => if (i == ("isinstance" : PySem.Str)) && (e == ("e" : PySem.Str)) && !(x == ("__debug__" : PySem.Str)) && !(x == ("__name__" : PySem.Str)) then (isiNames r).map fun xs => x :: xs else none
  | _ => none
/-- a name of a class, and whether the class D is below it -/
def KitN (K : PySem.W.Frag) (mg : PySem.Str → Option Value) (D : Addr) (x : PySem.Str) (b : Bool) : Prop :=
  (∃ C, mg x = some (.ref C) ∧ PySem.W.kitOne K (.ref D) (.ref C) = some b) ∨ ∃ T, mg x = none ∧ bootBuiltins x = some (.type T) ∧ PySem.W.kitOne K (.ref D) (.type T) = some b
inductive KitNs (K : PySem.W.Frag) (mg : PySem.Str → Option Value) (D : Addr) : List PySem.Str → List Bool → Prop
  | nil : KitNs K mg D [] []
  | cons {x : PySem.Str} {b : Bool} {xs : List PySem.Str} {bs : List Bool} : KitN K mg D x b → KitNs K mg D xs bs → KitNs K mg D (x :: xs) (b :: bs)
theorem isi_es {X : Cx} {D a : Addr} : ∀ {es : List Expr} {xs : List PySem.Str} {bs : List Bool}, isiNames es = some xs → KitNs X.K X.mg D xs bs → (∀ x ∈ xs, L2.Gl X x) → IsiEs X D a es bs
  | [], _, _, h, k, _ => by cases h; cases k; exact .nil
  | e :: es, _, _, h, k, hg => by
    unfold isiNames at h
    split at h
    · rename_i h0; cases h0
    · rename_i i p1 e0 p2 x p3 p4 r h0
      cases h0
      obtain ⟨hc, h⟩ := oi h
      obtain ⟨hc, hn⟩ := an hc
      obtain ⟨hc, hd⟩ := an hc
      obtain ⟨hi, he⟩ := an hc
      obtain ⟨xs', h1, rfl⟩ := om h
      have hi := seqe hi
      have he := seqe he
      subst hi he
      cases k with
      | cons k ks =>
        have ih := isi_es (a := a) h1 ks fun y hy => hg y (List.mem_cons_of_mem _ hy)
        have gx := hg x List.mem_cons_self
        rcases k with ⟨C, m, q⟩ | ⟨T, m, v, q⟩
        · exact .cons (v := .ref C) (pe_glob gx m rfl (by simpa using hd)) (fun z hz => hz) q ih
        · exact .cons (v := .ty T) (pe_bltn gx m v rfl (by intro z; rw [z] at hn; simp at hn) (by simpa using hd)) (fun z hz => hz) q ih
    · cases h
/-- what is known of the errors of a text: nC classes, their names -/
structure ErrF (K : PySem.W.Frag) (mg : PySem.Str → Option Value) (G : Gl) (nC : Nat) (l1 l2 : PySem.Str) (bits : Nat → List Bool) (fN CS : Addr) (fdN : FuncData) (stN : Stmt) (xs : List PySem.Str) (es : List Expr) (cs : Scope) : Prop where
  mgN : mg "_law_names" = some (.ref fN)
  kpN : PySem.W.keepIn K (.ref fN) = true
  FN : ∃ nm qual, FunD K nm qual (defArgs stN) (defBody stN) (defScope stN) [] [] fN fdN
  bN : Binds K fdN ["e"] []
  SN : FnScope nmN ["e"] (defScope stN)
  body : NmBody (defBody stN) es l1 l2 cs
  names : isiNames es = some xs
  loc : ∀ x ∈ (["e", "some", "labels"] : List PySem.Str), (defScope stN).names.lookup x = some .local
  glo : ∀ x ∈ ("isinstance" : PySem.Str) :: "zip" :: xs, (defScope stN).names.lookup x = some .globalImplicit
  blk : BlkOk nmN (defScope stN) cs [("word", 3), ("good", 4)]
  csl : ∀ x ∈ (["word", "good"] : List PySem.Str), cs.names.lookup x = some .local
  mgi : mg "isinstance" = none
  mgz : mg "zip" = none
  hl : l1.length + l2.length + 2 ≤ sizeLine
  ok : ∀ c, c < nC → ExcC K (G.ca c) ∧ KitNs K mg (G.ca c) xs (bits c) ∧ PySem.W.exmOne K (.ref (G.ca c)) (.ref CS) = some true ∧ (Txt.split (l1 ++ l2) " ").length = (bits c).length ∧ (bits c).length ≤ 1000 ∧
    ((pick (Txt.split (l1 ++ l2) " ") (bits c)).map (·.length)).sum + (pick (Txt.split (l1 ++ l2) " ") (bits c)).length * 1 ≤ 16777216 ∧ (pick (Txt.split (l1 ++ l2) " ") (bits c)).length ≤ 1000
  mgF : mg "FateError" = some (.ref CS)
section
variable {X : Cx} {G : Gl} {nC : Nat} {l1 l2 : PySem.Str} {bits : Nat → List Bool} {fN CS : Addr} {fdN : FuncData} {stN : Stmt} {xs : List PySem.Str} {es : List Expr} {cs : Scope}
/-- return _law_names(e) in the suite -/
theorem names_suite (F : ErrF X.K X.mg G nC l1 l2 bits fN CS fdN stN xs es cs) {k : Nat} (hr : L2H.RoomH (k + 1) X.A) {a : Addr} {oe : Obj} {cls : Value} {d : Option Addr} {pn : List (Addr × Obj)} (hz : L2N.Zn cls d oe) (hf : ∃ vs, oe.data = .fields vs) (hgn : L2.Gl X "_law_names") (he : X.N[1]? = some ("e" : PySem.Str))
    (hv : Vis X.env.scope "e") {p1 p2 p3 p4 : Pos} : PSs (X.suite a ((a, oe) :: pn)) [.Return (some (.Call (.Name "_law_names" p1) [.Name "e" p2] [] p3)) p4]
      (fun D σ H => ∃ c, c < nC ∧ cls = .ref (G.ca c) ∧ d = none ∧ (∃ σ0 : L2.St, σ = σ0.set 1 (some (.ref a))) ∧ ∀ H', Same H H' → D.rt (.str (namesOf l1 l2 (bits c))) H') := by
  have pe : PE (X.suite a ((a, oe) :: pn)) (.Call (.Name "_law_names" p1) [.Name "e" p2] [] p3) (fun σ H Q => ∃ c, c < nC ∧ cls = .ref (G.ca c) ∧ d = none ∧ (∃ σ0 : L2.St, σ = σ0.set 1 (some (.ref a))) ∧ ∀ H', Same H H' → Q (.str (namesOf l1 l2 (bits c))) H') := by
    refine ⟨fun pins s σ H Q I h => ?_⟩
    obtain ⟨c, hc, rfl, rfl, ⟨σ0, eσ⟩, hQ⟩ := h
    have hσ : σ[1]? = some (some (.ref a)) := by
      have hl : σ.length = X.N.length := I.len
      have h1 := (List.getElem?_eq_some_iff.mp he).1
      rw [eσ, List.length_set] at hl
      rw [eσ, List.getElem?_set_self (by omega)]
    refine wpAny_Call_Name_kw (ld_glob (X := X.suite a ((a, oe) :: pn)) I hgn F.mgN ?_ (by decide +kernel))
    have ha : PA (X.suite a ((a, oe) :: pn)) [.Name "e" p2] (tCons (tVar 1) tNil) := pa_cons (pe_var (X := X.suite a ((a, oe) :: pn)) (i := 1) he hv) pa_nil
    refine PySem.W.callWith_K (h₀ := X.base) I.ok.mod.kin F.kpN (thn (ha.run p3 pins s σ H (fun vs H1 => vs = [.ref a] ∧ H1 = H) I ⟨_, hσ, rfl, rfl⟩) fun us s1 ⟨vs, H1, I1, r, q⟩ => ⟨I1.kIn, ?_⟩) rfl rfl
    obtain ⟨rfl, rfl⟩ := q
    obtain ⟨u, rfl, ru⟩ := r.one
    obtain rfl : u = Value.ref a := ru
    obtain ⟨eC, kits, exm, q1, q2, q3, q4⟩ := F.ok c hc
    obtain ⟨nm, qual, FD⟩ := F.FN
    have P1 := I1.pin (a, oe) (List.mem_append_left _ List.mem_cons_self)
    obtain ⟨vs, hvs⟩ := hf
    have hot : L2H.Hot1 (X.suite a ((a, oe) :: pn)).A (a, oe) := ⟨rfl, vs, hvs, hz.2.2 vs hvs⟩
    have hpin : L2H.PinOk X.stack H1 s1 (a, oe) := ⟨P1.1, P1.2.1, fun hm => (List.mem_cons.mp (I1.stkSub a hm)).elim P1.2.2.1 P1.2.2.2.1, P1.2.2.2.2⟩
    have hb := F.bN s1 [.ref a] I1.kIn rfl
    rw [List.append_nil] at hb
    have run := fnP_run (P := X.prog) (w := X.w) (mg := X.mg) (base := X.base) (A := (X.suite a ((a, oe) :: pn)).A) (k := k) (us := [.ref a]) (vs := [.ref a]) (Q := Q) FD F.SN ⟨hr.dp, hr.un⟩ hot hpin I1.env0 hb (.cons rfl .nil) rfl fun cdv => by
      obtain ⟨t, h1, h2⟩ := names_body (X := L2H.cxH C8.CX0 X.prog X.w X.K X.mg X.base nmN qual (defScope stN) fN cdv (X.suite a ((a, oe) :: pn)).A X.stack s1 H1 C8.E0 (a, oe)) (D := G.ca c) (p := (a, oe)) (bs := bits c) ⟨(a, oe), hot, List.mem_singleton.mpr rfl⟩ eC hz ⟨vs, hvs⟩ (List.mem_singleton.mpr rfl) F.body
        (isi_es F.names kits fun x hx => F.glo x (List.mem_cons_of_mem _ (List.mem_cons_of_mem _ hx))) rfl F.loc (F.glo _ List.mem_cons_self) (F.glo _ (List.mem_cons_of_mem _ List.mem_cons_self)) F.mgi F.mgz F.blk F.csl F.hl q1 q2 q3 q4
      exact ⟨t, h1, h2 H1 Q hQ _⟩
    refine wpAny_call (codeAny_mono run fun r s2 hq => ?_)
    cases r with
    | error e => exact hq.elim
    | ok fl =>
      cases fl with
      | ret u => exact I1.after hq
      | next => exact hq.elim
      | brk => exact hq.elim
      | cont => exact hq.elim
  exact (pss_one (ps_ret pe)).imp fun D σ H q => q
end
end PyD
namespace PyD
open PySem PySem.Spec PyProof.Rows L2
/-- the lambda's context, its errors with no context of their own -/
abbrev lamN (X : Cx) (A : Around) (outer : List PySem.Env) (s : Shared) (H : Hp) (E : XK) (scope : Scope) (f c' : Addr) : Cx :=
  (LamX.lamCx X A outer s H E scope f c').tr [] fun e s' => wpAny (model X.prog X.w) (A.deeper (LamX.lamEnv X scope s.heap.objs.size f c')) (leaving (LamX.lamEnv X scope s.heap.objs.size f c') e) (fun _ s'' => L2N.CX X.prog X.w outer H s E e s'') (fun e' s'' => L2N.CX X.prog X.w outer H s E e' s'') s'
section
variable {X : Cx}
/-- x(), x the def's parameter that holds the lambda -/
theorem act_ok {Ng : List PySem.Str} {qg : PySem.Str} {sg : Scope} {g f c' : Addr} {cdg pm ctv : Value} {params : Arguments} {body : Expr} {scope : Scope} {k : Nat} {a : PySem.Str} {pn : List (Addr × Obj)} {xe : Value → Shared → Prop} {W : WX} {E : XK} {tb : TE} {p1 p2 : Pos} {pins : List (Addr × Obj)} {σ : L2.St} {H : Hp} {s : Shared}
    (I : Inv X pins σ H s) (L : LamX.LamS X.env.scope scope) (hf : s.heap.get? f = some (PySem.W.kla_obj "<lambda>" (X.env.qual ++ "<lambda>") params body scope (cloFrom X.env.cells scope.names []) pm c' ctv)) (hfn : H f = none) (hfr : f ∉ frs X.stack)
    (hbind : bindArgs (PySem.W.kla_fn "<lambda>" (X.env.qual ++ "<lambda>") params body scope (cloFrom X.env.cells scope.names []) pm (.ref c') ctv) ⟨[], []⟩ = pure [])
    (tk : L2N.Takes ((cxOf C8.CX0 X.prog X.w X.K X.mg X.base Ng qg sg g cdg X.A X.stack s H C8.E0).tr pn xe) W) (hW : ∀ cls d σ' H', E cls d H' → W cls d σ' H') (room : Room (k + 1) (X.A.deeper (envOfC qg sg s.heap.objs.size g cdg)))
    (inner : ∀ (A : Around) (outer : List PySem.Env) (s : Shared) (H : Hp), Room k (A.deeper (LamX.lamEnv X scope s.heap.objs.size f c')) → PE (lamN X A outer s H E scope f c') body tb)
    (hN : Ng[0]? = some a) (hv : Vis sg a) (hd : (a == ("__debug__" : PySem.Str)) = false) (hcd : (a == ("__classdict__" : PySem.Str)) = false) :
    PE ((cxOf C8.CX0 X.prog X.w X.K X.mg X.base Ng qg sg g cdg X.A X.stack s H C8.E0).tr pn xe) (.Call (.Name a p1) [] [] p2)
      (fun σZ HZ Q => σZ[0]? = some (some (.ref f)) ∧ HZ c' = some (LamX.CodeO c' (X.env.qual ++ "<lambda>")) ∧ tb σ HZ Q) := by
  refine ⟨fun pz sz σz Hz Q Iz ⟨w1, w2, w3⟩ => ?_⟩
  refine wpAny_Call_Name_kw (thn ((pe_var (pos := p1) (i := 0) hN hv hd hcd).run pz sz σz Hz (fun v H1 => v = .ref f ∧ H1 = Hz) Iz ⟨_, w1, rfl, rfl⟩) fun u s1 ⟨v, H1, I1, r1, ev, eH⟩ => ?_)
  subst ev
  rw [eH] at I1
  cases r1
  have at1 := I1.base.keep f _ hf hfn hfr fun z => nomatch (show f ∈ ([] : List Addr) from z)
  refine PySem.W.callWith_F0 ⟨_, _, _, _, at1⟩ ?_
  obtain ⟨⟨oc, vs, t, g1, g2, g3⟩, -, -⟩ := I1.hok c' _ w2
  have called : codeAny (model X.prog X.w) (X.A.deeper (envOfC qg sg s.heap.objs.size g cdg)) (.call (.ref f) ⟨[], []⟩) (CR (L2N.CX X.prog X.w) (envOfC qg sg s.heap.objs.size g cdg :: X.stack) X.prog X.w Hz s1 Q E) s1 := by
    refine PySem.W.kla_callFunE room.depth at1 rfl L.co L.gen rfl ⟨c', oc, vs, t, rfl, g1, g2, g3⟩ ?_
    rw [hbind]
    refine wpAny_pure (wpAny_newFunctionEnv (fun y hy => (L.own y hy).2) (fun y hy => (List.not_mem_nil hy).elim) (fun h₁ ns sb => ⟨I1.nolimit.fresh _ sb, ?_⟩) L.kind)
    have J := LamX.lam_start2 (E := E) (f := f) (c' := c') (tk := s1.toks) I L I1.env0 room.hd I1.base ns fun b o e => sb.extBut b o (Nat.ne_of_lt (Heap.lt_size e)) (Heap.get?_push_of_some _ e)
    refine PySem.W.kla_codeExpr (wpAny_mono ((inner _ _ s1 Hz (room.deeper _)).run [] _ _ Hz Q (J.toTry _) w3) (fun v s' ⟨w', H', J', rv, q⟩ => ?_) fun e s' hq => hq)
    exact ⟨w', H', J'.os, J'.bare, J'.base, J'.hok, rv, q⟩
  refine wpAny_call (codeAny_mono called fun r s' hq => ?_)
  match r, hq with
  | .error e, hq => exact L2N.passes_call tk hW pz σz Hz s1 e s' I1 hq
  | .ok (.ret u), hq => exact I1.after hq
  | .ok .next, hq => exact hq.elim
  | .ok .brk, hq => exact hq.elim
  | .ok .cont, hq => exact hq.elim
/-- what the def makes of the lambda that it got -/
def GivesN (X : Cx) (Ng : List PySem.Str) (x : PySem.Str) (sg : Scope) (g : Addr) (cdg : Value) (bg : List Stmt) (a : PySem.Str) (q : PySem.Str) (TT : (XK → Hp → VK → Prop) → Hp → VK → Prop) : Prop :=
  ∀ (f c' : Addr) (s : Shared) (H : Hp) (Q : VK) (tl : XK → Hp → VK → Prop),
    (∀ (W : WX) (pn : List (Addr × Obj)) (xe : Value → Shared → Prop) (E : XK) (p1 p2 : Pos), L2N.Takes ((cxOf C8.CX0 X.prog X.w X.K X.mg X.base Ng x sg g cdg X.A X.stack s H C8.E0).tr pn xe) W → (∀ cls d σ' H', E cls d H' → W cls d σ' H') →
      PE ((cxOf C8.CX0 X.prog X.w X.K X.mg X.base Ng x sg g cdg X.A X.stack s H C8.E0).tr pn xe) (.Call (.Name a p1) [] [] p2) (fun σZ HZ Q => σZ[0]? = some (some (.ref f)) ∧ HZ c' = some (LamX.CodeO c' q) ∧ tl E HZ Q)) →
    H c' = some (LamX.CodeO c' q) → TT tl H Q →
    ∃ t, PSs (cxOf C8.CX0 X.prog X.w X.K X.mg X.base Ng x sg g cdg X.A X.stack s H C8.E0).nox bg t ∧ t { nx := fun _ H' => Q .non H', rt := Q } (L2.start Ng [.ref f]) H
theorem lamcall_ok {T : List (Addr × PySem.Str)} {TT : (XK → Hp → VK → Prop) → Hp → VK → Prop} {x nm a : PySem.Str} {g c P : Addr} {k : Nat} {pg : Arguments} {bg : List Stmt} {sg : Scope} {fd : FuncData} {Ng : List PySem.Str} {params : Arguments} {body : Expr} {scope : Scope} {t : XK → TE} {p lpos pos : Pos}
    (hg : L2.Gl X x) (hm : X.mg x = some (.ref g)) (hk : PySem.W.keepIn X.K (.ref g) = true) (F : FunD X.K nm x pg bg sg [] [] g fd) (hb : Binds X.K fd [a] []) (Sg : FnScope Ng [a] sg) (hNg : Ng[0]? = some a) (hva : Vis sg a) (give : ∀ cdv, GivesN X Ng x sg g cdv bg a (X.env.qual ++ "<lambda>") TT)
    (TB : LamX.TabB X.base X.mg c P) (hcode : X.env.code = .ref c) (hmT : (P, X.env.qual ++ "<lambda>") ∈ T) (hu : ∀ p ∈ T, p.1 = P → p.2 = X.env.qual ++ "<lambda>") (room : Room (k + 2) X.A) (L : LamX.LamS X.env.scope scope) (hdef : defaultsOf params X.env = ([], []))
    (hbind : ∀ (q : PySem.Str) (cl : List (PySem.Str × Addr)) (pm cv ctv : Value), bindArgs (PySem.W.kla_fn "<lambda>" q params body scope cl pm cv ctv) ⟨[], []⟩ = pure [])
    (inner : ∀ (A : Around) (outer : List PySem.Env) (s : Shared) (H : Hp) (E : XK) (f c' : Addr), Room k (A.deeper (LamX.lamEnv X scope s.heap.objs.size f c')) → PE (lamN X A outer s H E scope f c') body (t E))
    (hdb : (x == ("__debug__" : PySem.Str)) = false) (hd : (a == ("__debug__" : PySem.Str)) = false) (hcd : (a == ("__classdict__" : PySem.Str)) = false) : PE X (.Call (.Name x p) [.Lambda params body scope lpos] [] pos) (LamX.tLam T TT t) := by
  obtain ⟨oc, od, dV, kV, doc, pm, an, cdv, ct, osl, rfl, lk, hcd2, -, -⟩ := F.ex
  refine ⟨fun pins s σ H Q I ⟨tabs, wish⟩ => ?_⟩
  refine wpAny_Call_Name_kw (ld_glob I hg hm ?_ hdb)
  refine PySem.W.callWith_K (h₀ := X.base) I.ok.mod.kin hk ?_ (by rfl) (by rfl)
  refine Calls.spliced_cons (LamX.lam_make2 I TB hcode hmT hu tabs hdef (L.has I.ok) fun f c' pm' ctv H1 s' I1 eN T1 hf hfn hfr hco => Calls.spliced_nil ⟨I1.kIn, ?_⟩)
  have ran : codeAny (model X.prog X.w) X.A (.call (.ref g) ⟨[.ref f], []⟩) (CR C8.CX0 X.stack X.prog X.w H1 s' Q C8.E0) s' := by
    refine LamX.run_ofS (N := Ng) (ps := [a]) (us := [.ref f]) (vs := [.ref f]) lk hcd2 Sg room I1.env0 (hb s' [.ref f] I1.kIn rfl) (.cons rfl .nil) rfl fun room' => ?_
    obtain ⟨t', q1, q2⟩ := give cdv f c' s' H1 Q (fun E H' Q' => t E σ H' Q') (fun W pn xe E p1 p2 tk hW => act_ok I1 L hf hfn hfr (hbind _ _ _ _ _) tk hW room' (fun A outer s H r2 => inner A outer s H E f c' r2) hNg hva hd hcd) hco (wish H1 eN T1)
    exact ⟨t', q1.nox, q2⟩
  refine wpAny_call (codeAny_mono ran fun r s2 hq => ?_)
  match r, hq with
  | .error e, hq => exact (show False from hq).elim
  | .ok (.ret u), hq => exact I1.after hq
  | .ok .next, hq => exact hq.elim
  | .ok .brk, hq => exact hq.elim
  | .ok .cont, hq => exact hq.elim
end
theorem takesN {X : Cx} : L2N.Takes X (fun _ _ _ _ => False) := fun _ _ x => by
  obtain ⟨_, _, _, _, _, _, _, _, _, _, _, _, _, _, _, _, z⟩ := x
  exact z.elim
/-- _law_error's answer -/
def TErr (G : Gl) (nC : Nat) (nm : Nat → PySem.Str) : (XK → Hp → VK → Prop) → Hp → VK → Prop := fun tl H Q =>
  tl (fun cls d H' => ∃ c, c < nC ∧ cls = .ref (G.ca c) ∧ d = none ∧ ∀ H'', Same H' H'' → Q (.str (nm c)) H'') H fun _ H' => Q (.str "") H'
section
variable {X : Cx} {G : Gl} {nC : Nat} {l1 l2 : PySem.Str} {bits : Nat → List Bool} {fN CS : Addr} {fdN : FuncData} {stN : Stmt} {xs : List PySem.Str} {es : List Expr} {cs : Scope}
theorem err_gives (F : ErrF X.K X.mg G nC l1 l2 bits fN CS fdN stN xs es cs) {k : Nat} (room : Room (k + 2) X.A) {x q : PySem.Str} {sg : Scope} {g : Addr} {cdg : Value} (hl : sg.names.lookup ("call" : PySem.Str) = some .local) (hle : sg.names.lookup ("e" : PySem.Str) = some .local)
    (hgF : sg.names.lookup ("FateError" : PySem.Str) = some .globalImplicit) (hgn : sg.names.lookup ("_law_names" : PySem.Str) = some .globalImplicit) {p1 p2 p3 p4 p5 p6 p7 p8 p9 p10 p11 p12 : Pos} {j : Nat} :
    GivesN X ["call", "e"] x sg g cdg [.Try [.Expr (.Call (.Name "call" p1) [] [] p2) p3] [.ExceptHandler (some (.Name "FateError" p4)) (some "e") [.Return (some (.Call (.Name "_law_names" p5) [.Name "e" p6] [] p7)) p8] p9] [] [] p10, .Return (some (.Constant (.str "") j p11)) p12] "call" q
      (TErr G nC fun c => namesOf l1 l2 (bits c)) := by
  intro f c' s H Q tl act hc h
  have nd : (["call", "e"] : List PySem.Str).Nodup := by decide +kernel
  refine ⟨_, pss_cons (L2N.ps_try_as (X := (cxOf C8.CX0 X.prog X.w X.K X.mg X.base ["call", "e"] x sg g cdg X.A X.stack s H C8.E0).nox) (i := 1) (c := .ref CS)
      (tb := fun W D σ H => ∃ Ech : XK, (∀ cls d σ' H', Ech cls d H' → W cls d σ' H') ∧ σ[0]? = some (some (.ref f)) ∧ H c' = some (LamX.CodeO c' q) ∧ tl Ech H fun _ H' => D.nx σ H')
      rfl rfl nd rfl hle ⟨hgF, by decide +kernel, .inl F.mgF⟩ takesN (fun W pn xe tk _ => ?_) (fun a oe cls d pn hz hf => names_suite (X := (cxOf C8.CX0 X.prog X.w X.K X.mg X.base ["call", "e"] x sg g cdg X.A X.stack s H C8.E0).nox) (k := k) F ?_ hz hf hgn rfl (.inl hle))) (pss_one (ps_ret (pe_str (x := "") (j := j) (pos := p11)))), ?_⟩
  · refine ⟨fun pins s' σ H' D I h' => ?_⟩
    obtain ⟨Ech, hW, h1, h2, h3⟩ := h'
    have hp := act W pn xe Ech p1 p2 tk hW
    exact (pss_one (ps_expr (pos := p3) hp rfl)).run pins s' σ H' D I ⟨h1, h2, h3⟩
  · exact ⟨by have := room.dp; show X.A.depth + 1 + 3 * (k + 1) + 5 < _; omega, by have := room.un; show X.A.units + 3 + 16 * (k + 1) + 200 < _; omega⟩
  · refine ⟨_, fun cls d σ' H' hh => ?_, rfl, hc, h⟩
    obtain ⟨c, hcn, rfl, rfl, hQ⟩ := hh
    exact ⟨true, (F.ok c hcn).2.2.1, fun _ a ha => ⟨c, hcn, rfl, rfl, ⟨_, rfl⟩, hQ⟩, fun z => by cases z⟩
end
end PyD

set_option Elab.async false
set_option linter.all false
set_option maxRecDepth 100000
set_option maxHeartbeats 4000000
/-! PyE4: _law_error(lambda: e) against the small language. -/
namespace PyD
open PySem PySem.Spec PyProof.Rows L2
section
variable {G : Gl} {α : List Addr} {M : Ms} {Z H H' : Hp}
/-- more objects -/
theorem SR.more (S : SR G α M Z H) (e : ∀ b o, H b = some o → H' b = some o) : SR G α M Z H' ∧ Ext α M Z H α M Z H' :=
  ⟨⟨fun a o h => e a o (S.sub a o h), S.len, fun i c a h1 h2 h3 => let ⟨q1, q2⟩ := S.cell i c a h1 h2 h3; ⟨q1, q2.mono (Same.refl Z) (e a)⟩, S.inj, S.fro, S.tabs.ext e, S.ztab⟩,
    ⟨Same.refl Z, pre_self, fun a o h _ _ => e a o h, fun a l => .inl l, fun a h q => h fun o z => q o (e a o z), fun a _ z _ => z⟩⟩
/-- more objects, the tables grown -/
theorem SR.extN (S : SR G α M Z H) (e : LamX.ExtN H H') (t : LamX.Tabs G.T H') : SR G α M Z H' ∧ Ext α M Z H α M Z H' := by
  have key : ∀ (i : Nat) (c : C) (a : Addr), M[i]? = some c → c.lv = true → α[i]? = some a → ∀ o, H a = some o → H' a = some o := fun i c a h1 h2 h3 o ho =>
    e a o ho fun ps z => Live.nontab S ⟨i, c, h1, h2, h3⟩ ps (z ▸ ho)
  refine ⟨⟨fun a o h => e a o (S.sub a o h) fun ps z => S.ztab a ps (z ▸ h), S.len, fun i c a h1 h2 h3 => ?_, S.inj, S.fro, t, S.ztab⟩, ⟨Same.refl Z, pre_self, fun a o h _ nt => e a o h nt, fun a l => .inl l, fun a h q => h fun o z => ?_, fun a _ z _ => z⟩⟩
  · obtain ⟨q1, q2⟩ := S.cell i c a h1 h2 h3
    exact ⟨q1, q2.mono (Same.refl Z) (key i c a h1 h2 h3)⟩
  · refine Classical.byContradiction fun n => ?_
    obtain ⟨ps, w⟩ := q o (e a o z fun ps w => n ⟨ps, w⟩)
    exact n ⟨ps, w⟩
end
/-- the defs' names for the errors -/
structure LE (K : PySem.W.Frag) (mg : PySem.Str → Option Value) (G : Gl) (nms : List PySem.Str) : Prop where
  ex : ∃ (nC : Nat) (l1 l2 : PySem.Str) (bits : Nat → List Bool) (fN CS g : Addr) (fdN fd : FuncData) (stN : Stmt) (xs : List PySem.Str) (es : List Expr) (cs : Scope) (nm : PySem.Str) (pg : Arguments) (bg : List Stmt) (sg : Scope),
    ErrF K mg G nC l1 l2 bits fN CS fdN stN xs es cs ∧ (∀ c z, nms[c]? = some z → c < nC ∧ namesOf l1 l2 (bits c) = z) ∧ mg "_law_error" = some (.ref g) ∧ PySem.W.keepIn K (.ref g) = true ∧ FunD K nm "_law_error" pg bg sg [] [] g fd ∧ Binds K fd ["call"] [] ∧
    FnScope ["call", "e"] ["call"] sg ∧ sg.names.lookup ("call" : PySem.Str) = some .local ∧ sg.names.lookup ("e" : PySem.Str) = some .local ∧ sg.names.lookup ("FateError" : PySem.Str) = some .globalImplicit ∧ sg.names.lookup ("_law_names" : PySem.Str) = some .globalImplicit ∧
    ∃ (p1 p2 p3 p4 p5 p6 p7 p8 p9 p10 p11 p12 : Pos) (j : Nat), bg = [.Try [.Expr (.Call (.Name "call" p1) [] [] p2) p3] [.ExceptHandler (some (.Name "FateError" p4)) (some "e") [.Return (some (.Call (.Name "_law_names" p5) [.Name "e" p6] [] p7)) p8] p9] [] [] p10, .Return (some (.Constant (.str "") j p11)) p12]
section
variable {X : Cx} {G : Gl} {cl : Nat → List W → Ms → R (W × Ms)} {Ex : XK}
/-- no parameters -/
def noParams (a : Arguments) : Bool := a.posonlyargs.isEmpty && a.args.isEmpty && a.vararg.isNone && a.kwonlyargs.isEmpty && a.kw_defaults.isEmpty && a.kwarg.isNone && a.defaults.isEmpty
theorem d_err {nms : List PySem.Str} (L : LE X.K X.mg G nms) {c P : Addr} {k : Nat} {params : Arguments} {body : Expr} {scope : Scope} {ee : E} {p lpos pos : Pos} (hg : L2.Gl X "_law_error") (TB : LamX.TabB X.base X.mg c P) (hcode : X.env.code = .ref c)
    (hmT : (P, X.env.qual ++ "<lambda>") ∈ G.T) (hu : ∀ p ∈ G.T, p.1 = P → p.2 = X.env.qual ++ "<lambda>") (room : Room (k + 2) X.A) (S : LamX.LamS X.env.scope scope) (hdef : defaultsOf params X.env = ([], []))
    (hbind : ∀ (q : PySem.Str) (cl : List (PySem.Str × Addr)) (pm cv ctv : Value), bindArgs (PySem.W.kla_fn "<lambda>" q params body scope cl pm cv ctv) ⟨[], []⟩ = pure [])
    (inner : ∀ (A : Around) (outer : List PySem.Env) (s : Shared) (H : Hp) (E : XK) (f c' : Addr), Room k (A.deeper (LamX.lamEnv X scope s.heap.objs.size f c')) → PE (lamN X A outer s H E scope f c') body (tE G cl E ee)) :
    PE X (.Call (.Name "_law_error" p) [.Lambda params body scope lpos] [] pos) (tE G cl Ex (.err ee nms)) := by
  obtain ⟨nC, l1, l2, bits, fN, CS, g, fdN, fd, stN, xs, es, cs, nm, pg, bg, sg, F, hn, hm, hk, FD, hb, Sg, s1, s2, s3, s4, p1, p2, p3, p4, p5, p6, p7, p8, p9, p10, p11, p12, j, rfl⟩ := L.ex
  refine (lamcall_ok (T := G.T) hg hm hk FD hb Sg rfl (.inl s1) (fun cdv => err_gives (k := k) F room s1 s2 s3 s4) TB hcode hmT hu room S hdef hbind inner (by decide +kernel) (by decide +kernel) (by decide +kernel)).imp fun σ H Q q => ?_
  obtain ⟨ρ, α, M, Z, S, er, P⟩ := q
  unfold evE at P
  refine ⟨S.tabs, fun H1 eN T1 => ?_⟩
  obtain ⟨S1, x1⟩ := S.extN eN T1
  refine ⟨ρ, α, M, Z, S1, er, ?_⟩
  have hl : α.length ≤ M.length := Nat.le_of_eq S.len
  match e : evE cl ee ρ M, P with
  | .ok (w, M'), P => exact fun α' Z' H' x S' v rv => P (α'.take M.length) Z' H' ((x1.trans x).cut hl) (S'.cut M.length) _ (.str _)
  | .exc c M', P =>
    have P : Post G Ex α M Z H (match nms[c]? with
      | some z => R.ok (W.d (.str z), M'.take M.length)
      | none => .stuck) (fun w α' _ Z' H' => ∀ v, RpW G α' Z' w v → Q v H') := P
    cases q : nms[c]? with
    | none => rw [q] at P; exact P.elim
    | some z =>
      rw [q] at P
      obtain ⟨hc, hz⟩ := hn c z q
      refine fun α' Z' H' x S' => ⟨c, hc, rfl, rfl, fun H'' sm => ?_⟩
      obtain ⟨S2, x2⟩ := S'.more sm
      have := P (α'.take M.length) Z' H'' (((x1.trans x).trans x2).cut hl) (S2.cut M.length) _ (.str z)
      show Q (.str (namesOf l1 l2 (bits c))) H''
      rw [hz]
      exact this
  | .stuck, P => exact P.elim
end
end PyD

set_option Elab.async false
set_option linter.all false
set_option maxRecDepth 100000
set_option maxHeartbeats 4000000
/-! PyD11: from the text to the small language. -/
namespace PyD
open PySem PySem.Spec PyProof.Rows L2
/-- what is known of a text's names: slots; defs; classes of errors; other written values; lists that are changed; whether a changed list is returned -/
structure TC where
  N : List PySem.Str
  fns : List (PySem.Str × Nat)
  cls : List (PySem.Str × Nat)
  con : List (PySem.Str × D)
  mu : List PySem.Str
  rc : Bool
  enm : List PySem.Str
  dv : List PySem.Str
/-- a block's names as they stand, and as they are written -/
structure SI where
  sc : Scope
  raw : Scope
  la : Bool
def noScope : Scope := ⟨.function, [], false, false, []⟩
def isVis (sc : Scope) (x : PySem.Str) : Bool := match sc.names.lookup x with
  | some .local => true
  | some .cell => true
  | some .free => true
  | _ => false
def isGl (sc : Scope) (x : PySem.Str) : Bool := match sc.names.lookup x with
  | some .globalImplicit => true
  | _ => false
def isSt (sc : Scope) (x : PySem.Str) : Bool := match sc.names.lookup x with
  | some .local => true
  | some .cell => true
  | _ => false
def isLoc (sc : Scope) (x : PySem.Str) : Bool := match sc.names.lookup x with
  | some .local => true
  | _ => false
def slot (N : List PySem.Str) (x : PySem.Str) : Option Nat :=
  if N[N.findIdx (· == x)]? = some x then some (N.findIdx (· == x)) else none
theorem slot_ok {N : List PySem.Str} {x : PySem.Str} {i : Nat} (h : slot N x = some i) : N[i]? = some x := by
  unfold slot at h
  split at h
  · cases h; assumption
  · cases h
def okName (x : PySem.Str) : Bool := !(x == ("__debug__" : PySem.Str)) && !(x == ("__classdict__" : PySem.Str)) && !(x == ("__name__" : PySem.Str))
structure TR where
  e : SI → Expr → Option E
  t : SI → Expr → Option E
  f : SI → Expr → Option F
  i : SI → Expr → Expr → Option Ir
section
variable (tc : TC) (r : TR)
def trC : Const → Option E
  | .int i => some (.con (.int i))
  | .bool b => some (.con (.bl b))
  | .none => some (.con .non)
  | .str s => some (.con (.str s))
  | _ => none
def trN (s : SI) (x : PySem.Str) : Option E :=
  if okName x then (if isVis s.sc x then (slot tc.N x).map E.var else if isGl s.sc x then (match tc.fns.lookup x with
    | some i => some (.con (.fn i))
    | none => (tc.con.lookup x).map E.con) else none) else none
def opOf : Operator → Option B2
  | .Add => some .add | .Sub => some .sub | .Mult => some .mul | .FloorDiv => some .fdiv | .Mod => some .mod | .Pow => some .pow | .LShift => some .shl | .RShift => some .shr | .BitAnd => some .band
  | _ => none
theorem opOf_ok {o : Operator} {b : B2} (h : opOf o = some b) : o = bop b := by cases o <;> cases h <;> rfl
def cmpOf : CmpOp → Option Cp
  | .Eq => some .eq | .NotEq => some .ne | .Lt => some .lt | .LtE => some .le | .Gt => some .gt | .GtE => some .ge | .In => some .mem | .NotIn => some .nmem
  | _ => none
theorem cmpOf_ok {o : CmpOp} {b : Cp} (h : cmpOf o = some b) : o = cop b := by cases o <;> cases h <;> rfl
def isNoneC : Expr → Bool
  | .Constant .none _ _ => true
  | _ => false
def trCmp (s : SI) (a : Expr) : List CmpOp → List Expr → Option E
  | [.Is], [b] => if isNoneC b then (r.e s a).map E.isn else none
  | [.IsNot], [b] => if isNoneC b then (r.e s a).map E.isnn else none
  | [o], [b] => if notSet b then (cmpOf o).bind fun o => (r.e s a).bind fun x => (r.e s b).map fun y => .cmp o x y else none
  | [o, p], [b, c] => if notSet c then (cmpOf o).bind fun o => (cmpOf p).bind fun p => (r.e s a).bind fun x => (r.e s b).bind fun y => (r.e s c).map fun z => .chn o p x y z else none
  | _, _ => none
/-- a name that holds a dict -/
def isDv : Expr → Bool
  | .Name x _ => tc.dv.contains x
  | _ => false
def trDm (s : SI) (a : Expr) : List CmpOp → List Expr → Option E
  | [.In], [b] => if isDv tc b && notSet b then (r.e s a).bind fun x => (r.e s b).map fun y => .dmem false x y else none
  | [.NotIn], [b] => if isDv tc b && notSet b then (r.e s a).bind fun x => (r.e s b).map fun y => .dmem true x y else none
  | _, _ => none
def trCmpD (s : SI) (a : Expr) (ops : List CmpOp) (cs : List Expr) : Option E := match trDm tc r s a ops cs with
  | some e => some e
  | none => trCmp r s a ops cs
def trEs (f : Expr → Option E) : List Expr → Option Es
  | [] => some .nil
  | e :: es => if nst e then (f e).bind fun x => (trEs f es).map fun xs => .cons x xs else none
def trBool (f : Expr → Option E) (op : BoolOp) : List Expr → Option E
  | [] => none
  | [a] => f a
  | a :: b :: rest => (f a).bind fun x => (trBool f op (b :: rest)).map fun y => match op with
    | .And => .and x y
    | .Or => .or x y
def trO (f : Expr → Option E) : Option Expr → Option Eo
  | none => some .none
  | some e => (f e).map .some
def biOf (x : PySem.Str) : Option Bi :=
  if x == ("len" : PySem.Str) then some .len else if x == ("int" : PySem.Str) then some .int else if x == ("abs" : PySem.Str) then some .abs else if x == ("max" : PySem.Str) then some .max else if x == ("min" : PySem.Str) then some .min
  else if x == ("sum" : PySem.Str) then some .sum else if x == ("tuple" : PySem.Str) then some .tuple else if x == ("str" : PySem.Str) then some .str else if x == ("bool" : PySem.Str) then some .bool else none
def tyOf (x : PySem.Str) : Option Ty :=
  if x == ("int" : PySem.Str) then some .int else if x == ("bool" : PySem.Str) then some .bool else if x == ("str" : PySem.Str) then some .str else if x == ("tuple" : PySem.Str) then some .tuple else none
/-- range(e), range(a, b) -/
inductive Rg where
  | one (e : Expr) | two (a b : Expr)
def rgOf (s : SI) : Expr → Option Rg
  | .Call (.Name x _) [e] [] _ => if (x == ("range" : PySem.Str)) && isGl s.sc x && nst e then some (.one e) else none
  | .Call (.Name x _) [a, b] [] _ => if (x == ("range" : PySem.Str)) && isGl s.sc x && nst a && nst b then some (.two a b) else none
  | _ => none
def trIsi (s : SI) : List Expr → Option E
  | [a, .Name y _] => if nst a && isGl s.sc y then (tyOf y).bind fun t => (r.e s a).map fun z => .isi z t else none
  | _ => none
def trCallB (s : SI) (x : PySem.Str) : List Expr → Option E
  | [] => none
  | e :: es => (match (if x == ("tuple" : PySem.Str) && es.isEmpty then rgOf s e else none) with
      | some (.one a) => (r.e s a).map E.trg
      | some (.two _ _) => none
      | none => (biOf x).bind fun b => (trEs (r.e s) (e :: es)).map (E.bi b))
/-- _law_error(lambda: e) -/
def trErr (s : SI) : List Expr → Option E
  | [.Lambda params body scope _] => if s.la && noParams params && LamX.lamSB s.sc scope then (r.e ⟨scope, noScope, false⟩ body).map fun x => .err x tc.enm else none
  | _ => none
/-- dict(zip(text, e)) -/
def trZd (s : SI) : List Expr → Option E
  | [.Call (.Name y _) [.Constant (.str z) _ _, e] [] _] => if (y == ("zip" : PySem.Str)) && isGl s.sc y && nst e then (r.e s e).map (.zd z) else none
  | _ => none
def isDv1 : List Expr → Bool
  | [e] => isDv tc e && nst e
  | _ => false
def trLen (s : SI) : List Expr → Option E
  | [e] => (r.e s e).map .dlen
  | _ => none
def trCallN (s : SI) (x : PySem.Str) (args : List Expr) : Option E :=
  if okName x && isGl s.sc x then (match tc.fns.lookup x with
    | some i => (trEs (r.e s) args).map (E.call i)
    | none => if x == ("isinstance" : PySem.Str) then trIsi r s args else if x == ("_law_error" : PySem.Str) then trErr tc r s args else if x == ("dict" : PySem.Str) then trZd r s args else if (x == ("len" : PySem.Str)) && isDv1 tc args then trLen r s args else trCallB r s x args)
  else if okName x && (isVis s.sc x && !args.isEmpty) then (slot tc.N x).bind fun i => (trEs (r.e s) args).map (E.calv i) else none
def isList : Expr → Bool
  | .List .. => true
  | .ListComp .. => true
  | .Call (.Name x _) _ _ _ => x == ("list" : PySem.Str)
  | _ => false
def noSup : Expr → Bool
  | .Call (.Name _ _) [] [] _ => false
  | _ => true
/-- a written tuple of texts -/
def cixOf (s : SI) : Expr → Option (List PySem.Str)
  | .Name x _ => if okName x && isGl s.sc x then (match tc.con.lookup x with
    | some (.tup ds) => strsOf ds
    | _ => none) else none
  | _ => none
def trMeth (s : SI) (o : Expr) (m : PySem.Str) (ap : Pos) (cp : Pos) : List Expr → Option E
  | [] => if noSup o && (ap.endLine == cp.line) && (m == ("upper" : PySem.Str)) then (r.e s o).map fun x => .mt .upper x .nil else none
  | [e] => if noSup o && (ap.endLine == cp.line) && nst e then
      (if m == ("split" : PySem.Str) then (r.e s o).bind fun x => (r.e s e).map fun y => .mt .split x (.cons y .nil)
      else if m == ("join" : PySem.Str) then (r.e s o).bind fun x => (r.e s e).map fun y => .mt .join x (.cons y .nil) else if m == ("index" : PySem.Str) then (match cixOf tc s o with
        | some ys => (r.e s e).map (.cix ys)
        | none => (r.e s o).bind fun x => (r.e s e).map fun y => .sm .index x y)
      else if m == ("count" : PySem.Str) then (r.e s o).bind fun x => (r.e s e).map fun y => .sm .count x y else none) else none
  | [e, f] => if (isDv tc o && (m == ("get" : PySem.Str))) && ((noSup o && (ap.endLine == cp.line)) && (nst e && nst f)) then (r.e s o).bind fun x => (r.e s e).bind fun y => (r.e s f).map fun z => .dgetd x y z else none
  | _ => none
def trE1 (s : SI) : Expr → Option E
  | .Constant c _ _ => trC c
  | .Name x _ => trN tc s x
  | .BinOp a o b _ => (opOf o).bind fun o => (r.e s a).bind fun x => (r.e s b).map fun y => .op2 o x y
  | .UnaryOp .USub a _ => (r.e s a).map .neg
  | .UnaryOp .Not a _ => (r.e s a).map .notv
  | .BoolOp op es _ => trBool (r.e s) op es
  | .IfExp c a b _ => (r.t s c).bind fun z => (r.e s a).bind fun x => (r.e s b).map fun y => .ife z x y
  | .Compare a ops cs _ => trCmpD tc r s a ops cs
  | .Subscript a (.Slice lo hi none _) _ => (r.e s a).bind fun x => (trO (r.e s) lo).bind fun l => (trO (r.e s) hi).map fun h => .sl x l h
  | .Subscript a (.Slice none none (some (.UnaryOp .USub (.Constant (.int 1) _ _) _)) _) _ => (r.e s a).map .rev
  | .Subscript _ (.Slice _ _ (some _) _) _ => none
  | .Dict [] [] _ => some .dnew
  | .Dict ks vs _ => (trDsp ks vs).bind fun kvs => if !kvs.isEmpty && decide (kvs.length ≤ 15) then some (.dsp kvs) else none
  | .Subscript a b _ => (r.e s a).bind fun x => (r.e s b).map fun y => if isDv tc a then .dget x y else .ix x y
  | .Tuple es _ _ => (trEs (r.e s) es).map .tup
  | .List es pos => (r.f s (.List es pos)).map .fr
  | .ListComp a b c d => (r.f s (.ListComp a b c d)).map .fr
  | .Call (.Name x p) args [] pos => if x == ("list" : PySem.Str) then (r.f s (.Call (.Name x p) args [] pos)).map .fr else trCallN tc r s x args
  | .Call (.Attribute o m ap) args [] cp => trMeth tc r s o m ap cp args
  | _ => none
def trT1 (s : SI) : Expr → Option E
  | .UnaryOp .Not a _ => (r.t s a).map .not
  | .UnaryOp .. => none
  | .BoolOp op es _ => trBool (r.t s) op es
  | .IfExp .. => none
  | .Compare a ops cs _ => trCmpD tc r s a ops cs
  | e => trE1 tc r s e
def ownOf (N : List PySem.Str) (scope : Scope) : List (PySem.Str × Nat) := scope.names.filterMap fun (y, k) => match k with
  | .local => (slot N y).map fun i => (y, i)
  | .cell => (slot N y).map fun i => (y, i)
  | _ => none
def trNms (raw : Scope) : List Expr → Option (List Nat)
  | [] => some []
  | .Name x _ :: es => if isSt raw x then (slot tc.N x).bind fun i => (trNms raw es).map fun is => i :: is else none
  | _ => none
/-- a target; the names that the block may store -/
def trTg (raw : Scope) : Expr → Option Tg
  | .Name x _ => if isSt raw x then (slot tc.N x).map .nm else none
  | .Tuple es _ _ => (trNms tc raw es).map .tp
  | _ => none
def allIn (a b : List Nat) : Bool := a.all fun i => decide (i ∈ b)
def trF1 (s : SI) : Expr → Option F
  | .List es _ => (trEs (r.e s) es).map .lst
  | .Call (.Name x _) [e] [] _ => if (x == ("list" : PySem.Str)) && isGl s.sc x && nst e && (tc.fns.lookup x).isNone then (match rgOf s e with
      | some (.one a) => (r.e s a).map .rg
      | some (.two a b) => (r.e s a).bind fun x => (r.e s b).map fun y => .rg2 x y
      | none => (r.e s e).map .of) else none
  | .BinOp a o b _ => (match opOf o with
      | some .add => (r.e s a).bind fun x => (r.e s b).map fun y => .op .add x y
      | some .mul => (r.e s a).bind fun x => (r.e s b).map fun y => .op .mul x y
      | _ => none)
  | .Subscript a (.Slice lo hi none _) _ => (r.e s a).bind fun x => (trO (r.e s) lo).bind fun l => (trO (r.e s) hi).map fun h => .sl x l h
  | .ListComp elt [⟨tg, iter, ifs, 0⟩] scope _ =>
    if blkC tc.N s.sc scope (ownOf tc.N scope) && notSet iter then
      (r.i s tg iter).bind fun ir => (trTg tc scope tg).bind fun t =>
        (match ifs with
          | [] => some Eo.none
          | [c] => (r.t ⟨relS scope s.sc, scope, s.la⟩ c).map Eo.some
          | _ => none).bind fun c => (r.e ⟨relS scope s.sc, scope, s.la⟩ elt).bind fun e =>
            if allIn t.ix ((ownOf tc.N scope).map Prod.snd) then some (.lc e t ir c ((ownOf tc.N scope).map Prod.snd)) else none
    else none
  | .ListComp elt [⟨tg, iter, [], 0⟩, ⟨tg1, iter1, ifs, 0⟩] scope _ =>
    if blkC tc.N s.sc scope (ownOf tc.N scope) && notSet iter && notSet iter1 then
      (r.i s tg iter).bind fun ir => (trTg tc scope tg).bind fun t => (r.i ⟨relS scope s.sc, scope, s.la⟩ tg1 iter1).bind fun ir1 => (trTg tc scope tg1).bind fun t1 =>
        (match ifs with
          | [] => some Eo.none
          | [c] => (r.t ⟨relS scope s.sc, scope, s.la⟩ c).map Eo.some
          | _ => none).bind fun c => (r.e ⟨relS scope s.sc, scope, s.la⟩ elt).bind fun e =>
            if allIn t.ix ((ownOf tc.N scope).map Prod.snd) && allIn t1.ix ((ownOf tc.N scope).map Prod.snd) then some (.lc2 e t ir t1 ir1 c ((ownOf tc.N scope).map Prod.snd) t1.ix) else none
    else none
  | _ => none
def isTup : Expr → Bool
  | .Tuple .. => true
  | _ => false
def trI1 (s : SI) (tg : Expr) : Expr → Option Ir
  | .Call (.Name x p) args [] pos => if isGl s.sc x && (tc.fns.lookup x).isNone && okName x then
      (if x == ("range" : PySem.Str) then (match args with
        | [a] => if nst a then (r.e s a).map .rg1 else none
        | [a, b] => if nst a && nst b then (r.e s a).bind fun x => (r.e s b).map fun y => .rg2 x y else none
        | _ => none)
      else if x == ("enumerate" : PySem.Str) then (match args with
        | [a] => if nst a && isTup tg then (r.e s a).map .enum else none
        | _ => none)
      else if x == ("zip" : PySem.Str) then (match args with
        | [a, b] => if nst a && nst b && isTup tg then (r.e s a).bind fun x => (r.e s b).map fun y => .zip x y else none
        | _ => none)
      else (r.e s (.Call (.Name x p) args [] pos)).map .seq) else (r.e s (.Call (.Name x p) args [] pos)).map .seq
  | e => (r.e s e).map .seq
def tr : Nat → TR
  | 0 => ⟨fun _ _ => none, fun _ _ => none, fun _ _ => none, fun _ _ _ => none⟩
  | n + 1 => ⟨trE1 tc (tr n), trT1 tc (tr n), trF1 tc (tr n), trI1 tc (tr n)⟩
end
/-- what the text's context must be for the small language to tell it -/
structure XS (tc : TC) (X : Cx) (G : Gl) (cl : Nat → List W → Ms → R (W × Ms)) (s : SI) (Ex : XK) : Prop where
  N : X.N = tc.N
  nd : tc.N.Nodup
  sc : X.env.scope = s.sc
  st : ∀ x, isSt s.raw x = true → StOk X x
  K : X.K = G.K
  w : X.w = G.w
  calm : X.calm = true
  un : X.A.units + 65 < cLine
  lv : ∃ k, Room k X.A ∧ (∀ x i, tc.fns.lookup x = some i → X.mg x = some (.ref (G.fa i)) ∧ PySem.W.keepIn X.K (.ref (G.fa i)) = true ∧ ∃ fd ps, FnOk X.prog X.w X.K X.mg X.base (L2N.CX X.prog X.w) k (G.fa i) fd ps (spD G (cl i)) ∧ Binds X.K fd ps []) ∧
    (s.la = true → Room (k + 2) X.A ∧ LE X.K X.mg G tc.enm ∧ ∃ c P, LamX.TabB X.base X.mg c P ∧ X.env.code = .ref c ∧ (P, X.env.qual ++ "<lambda>") ∈ G.T ∧ ∀ p ∈ G.T, p.1 = P → p.2 = X.env.qual ++ "<lambda>")
  con : ∀ x d, tc.con.lookup x = some d → ∃ u v, X.mg x = some u ∧ RelV v u ∧ (∀ Z, Rp G Z d v) ∧ NoDc X.K v
  bi : ∀ x ∈ (["len", "int", "abs", "max", "min", "sum", "tuple", "str", "bool", "list", "range", "enumerate", "zip", "isinstance", "dict"] : List PySem.Str), X.mg x = none
  pass : Passes (L2N.CX X.prog X.w) X Ex
  cln : ∀ j, (∃ x, tc.fns.lookup x = some j) ∨ ∀ ws M, cl j ws M = .stuck
section
variable {tc : TC} {r : TR} {G : Gl} {cl : Nat → List W → Ms → R (W × Ms)}
theorem XS.fn {X : Cx} {s : SI} {Ex : XK} (c : XS tc X G cl s Ex) (x : PySem.Str) (i : Nat) (h : tc.fns.lookup x = some i) : X.mg x = some (.ref (G.fa i)) ∧ PySem.W.keepIn X.K (.ref (G.fa i)) = true ∧
    ∃ fd ps k, FnOk X.prog X.w X.K X.mg X.base (L2N.CX X.prog X.w) k (G.fa i) fd ps (spD G (cl i)) ∧ Room k X.A ∧ Binds X.K fd ps [] := by
  obtain ⟨k, hr, hf, _⟩ := c.lv
  obtain ⟨q1, q2, fd, ps, F, B⟩ := hf x i h
  exact ⟨q1, q2, fd, ps, k, F, hr, B⟩
theorem isGl_ok {X : Cx} {s : SI} {Ex : XK} (c : XS tc X G cl s Ex) {x : PySem.Str} (h : isGl s.sc x = true) : L2.Gl X x := by
  unfold isGl at h
  show X.env.scope.names.lookup x = _
  rw [c.sc]
  split at h
  · assumption
  · cases h
theorem isVis_ok {X : Cx} {s : SI} {Ex : XK} (c : XS tc X G cl s Ex) {x : PySem.Str} (h : isVis s.sc x = true) : Vis X.env.scope x := by
  unfold isVis at h
  rw [c.sc]
  split at h
  · exact .inl (by assumption)
  · exact .inr (.inl (by assumption))
  · exact .inr (.inr (by assumption))
  · cases h
theorem okName_ok {x : PySem.Str} (h : okName x = true) : (x == ("__debug__" : PySem.Str)) = false ∧ (x == ("__classdict__" : PySem.Str)) = false ∧ x ≠ "__name__" := by
  unfold okName at h
  have h1 := Bool.and_eq_true_iff.mp h
  have h2 := Bool.and_eq_true_iff.mp h1.1
  refine ⟨by simpa using h2.1, by simpa using h2.2, fun e => ?_⟩
  have := h1.2
  rw [e] at this
  simp at this
/-- in a comprehension's block -/
theorem XS.blk {X : Cx} {s : SI} {Ex : XK} (c : XS tc X G cl s Ex) (sh : Shared) (H : Hp) (scope : Scope) (C : Addr) (c' : List (PySem.Str × Addr)) (fp : List Addr) :
    XS tc (X.blk sh H scope (compEnvC scope c' C X.env) fp) G cl ⟨relS scope s.sc, scope, s.la⟩ F0 := by
  have hs : (compEnvC scope c' C X.env).scope = relS scope s.sc := by
    rw [← c.sc]; rfl
  refine ⟨c.N, c.nd, hs, fun x hx => ?_, c.K, c.w, c.calm, c.un, c.lv, c.con, c.bi, fun _ _ _ _ _ _ _ h => ?_, c.cln⟩
  · have key : ∀ k : NameKind, k ≠ .free → scope.names.lookup x = some k → (compEnvC scope c' C X.env).scope.names.lookup x = some k := fun k hk h => by
      rw [hs]
      exact lookup_relS_keep hk h
    unfold isSt at hx
    split at hx
    · rename_i e
      exact ⟨.inl (key _ (by simp) e), .inr (key _ (by simp) e)⟩
    · rename_i e
      exact ⟨.inr (key _ (by simp) e), .inl (by show (scope.names.lookup x == some .cell) = true; rw [e]; rfl)⟩
    · cases hx
  · obtain ⟨a, B, H', cls, d, _, _, _, _, _, _, _, hE⟩ := h
    exact hE.elim
/-- in a lambda's body -/
theorem XS.lam {X : Cx} {s : SI} {Ex : XK} (c : XS tc X G cl s Ex) {A : Around} {outer : List PySem.Env} {sh : Shared} {H : Hp} {E : XK} {scope : Scope} {f c' : Addr} {k : Nat} (room : Room k (A.deeper (LamX.lamEnv X scope sh.heap.objs.size f c')))
    (hf : ∀ x i, tc.fns.lookup x = some i → X.mg x = some (.ref (G.fa i)) ∧ PySem.W.keepIn X.K (.ref (G.fa i)) = true ∧ ∃ fd ps, FnOk X.prog X.w X.K X.mg X.base (L2N.CX X.prog X.w) k (G.fa i) fd ps (spD G (cl i)) ∧ Binds X.K fd ps []) :
    XS tc (lamN X A outer sh H E scope f c') G cl ⟨scope, noScope, false⟩ E := by
  have tk : L2N.Takes (lamN X A outer sh H E scope f c') fun cls d _ H => E cls d H := L2N.takes_of rfl rfl rfl rfl
  refine { N := c.N, nd := c.nd, sc := rfl, st := fun x hx => ?_, K := c.K, w := c.w, calm := rfl, un := ?_, lv := ⟨k, room, hf, fun h => by cases h⟩, con := c.con, bi := c.bi, pass := L2N.passes_call tk fun _ _ _ _ h => h, cln := c.cln }
  · cases hx
  · have := room.un
    show (A.deeper _).units + 65 < cLine
    omega
end
end PyD

set_option Elab.async false
set_option linter.all false
set_option maxRecDepth 100000
set_option maxHeartbeats 4000000
/-! PyD12: the translation is sound: expressions. -/
namespace PyD
open PySem PySem.Spec PyProof.Rows L2
structure ROk (tc : TC) (r : TR) (G : Gl) (cl : Nat → List W → Ms → R (W × Ms)) : Prop where
  e : ∀ {X : Cx} {s : SI} {Ex : XK} {x : Expr} {ee : E}, XS tc X G cl s Ex → r.e s x = some ee → PE X x (tE G cl Ex ee)
  t : ∀ {X : Cx} {s : SI} {Ex : XK} {x : Expr} {ee : E}, XS tc X G cl s Ex → r.t s x = some ee → PT X x (tT G cl Ex ee)
  f : ∀ {X : Cx} {s : SI} {Ex : XK} {x : Expr} {ee : F}, XS tc X G cl s Ex → r.f s x = some ee → PE X x (tF G cl Ex ee)
  i : ∀ {X : Cx} {s : SI} {Ex : XK} {tg x : Expr} {ee : Ir}, XS tc X G cl s Ex → r.i s tg x = some ee → PI X tg x (tI G cl Ex ee)
section
variable {tc : TC} {r : TR} {G : Gl} {cl : Nat → List W → Ms → R (W × Ms)} {X : Cx} {s : SI} {Ex : XK}
theorem trC_ok {c : Const} {j : Nat} {pos : Pos} {ee : E} (h : trC c = some ee) : PE X (.Constant c j pos) (tE G cl Ex ee) := by
  cases c <;> cases h
  · exact d_con pe_non fun _ => .non
  · exact d_con pe_bl fun _ => .bl _
  · exact d_con pe_int fun _ => .int _
  · exact d_con pe_str fun _ => .str _
theorem trN_ok (c : XS tc X G cl s Ex) {x : PySem.Str} {pos : Pos} {ee : E} (h : trN tc s x = some ee) : PE X (.Name x pos) (tE G cl Ex ee) := by
  unfold trN at h
  obtain ⟨hn, h⟩ := oi h
  obtain ⟨n1, n2, n3⟩ := okName_ok hn
  cases hv : isVis s.sc x with
  | true =>
    rw [hv, if_pos rfl] at h
    obtain ⟨i, h1, rfl⟩ := om h
    exact d_var (pe_var (by rw [c.N]; exact slot_ok h1) (isVis_ok c hv) n1 n2)
  | false =>
    rw [hv, if_neg Bool.false_ne_true] at h
    obtain ⟨hg, h⟩ := oi h
    cases hf : tc.fns.lookup x with
    | some i =>
      rw [hf] at h
      cases h
      exact d_con (pe_glob (v := .ref (G.fa i)) (isGl_ok c hg) (c.fn x i hf).1 rfl n1) fun _ => .fn i
    | none =>
      rw [hf] at h
      obtain ⟨d, h1, rfl⟩ := om h
      obtain ⟨u, v, q1, q2, q3, _⟩ := c.con x d h1
      exact d_con (pe_glob (isGl_ok c hg) q1 q2 n1) q3
theorem marks {o : CmpOp} {b : Expr} (h : notSet b = true) : behindInMarks o b = false := by
  cases b <;> first | rfl | cases h
theorem marks2 {o p : CmpOp} {b c : Expr} (h : notSet c = true) : lastMarks [o, p] [b, c] = false := marks h
theorem trCmp_ok (k : ROk tc r G cl) (c : XS tc X G cl s Ex) {a : Expr} {ops : List CmpOp} {cs : List Expr} {pos : Pos} {ee : E} (h : trCmp r s a ops cs = some ee) :
    PE X (.Compare a ops cs pos) (tE G cl Ex ee) ∧ PT X (.Compare a ops cs pos) (tT G cl Ex ee) := by
  unfold trCmp at h
  split at h
  · rename_i b
    obtain ⟨hb, h⟩ := oi h
    obtain ⟨x, h1, rfl⟩ := om h
    unfold isNoneC at hb
    split at hb
    · exact ⟨d_isn (k.e c h1), d_tisn (k.e c h1)⟩
    · cases hb
  · rename_i b
    obtain ⟨hb, h⟩ := oi h
    obtain ⟨x, h1, rfl⟩ := om h
    unfold isNoneC at hb
    split at hb
    · exact ⟨d_isnn (k.e c h1), d_tisnn (k.e c h1)⟩
    · cases hb
  · obtain ⟨hb, h⟩ := oi h
    obtain ⟨o, ho, h⟩ := ob h
    obtain ⟨x, h1, h⟩ := ob h
    obtain ⟨y, h2, rfl⟩ := om h
    have := cmpOf_ok ho
    subst this
    exact ⟨d_cmp c.K c.un (marks hb) (k.e c h1) (k.e c h2), d_tcmp c.K c.un (marks hb) (k.e c h1) (k.e c h2)⟩
  · obtain ⟨hb, h⟩ := oi h
    obtain ⟨o, ho, h⟩ := ob h
    obtain ⟨p, hp, h⟩ := ob h
    obtain ⟨x, h1, h⟩ := ob h
    obtain ⟨y, h2, h⟩ := ob h
    obtain ⟨z, h3, rfl⟩ := om h
    have := cmpOf_ok ho
    subst this
    have := cmpOf_ok hp
    subst this
    exact ⟨d_chn c.K c.un (marks2 hb) (k.e c h1) (k.e c h2) (k.e c h3), d_tchn c.K c.un (marks2 hb) (k.e c h1) (k.e c h2) (k.e c h3)⟩
  · cases h
theorem trCmpD_ok (k : ROk tc r G cl) (c : XS tc X G cl s Ex) {a : Expr} {ops : List CmpOp} {cs : List Expr} {pos : Pos} {ee : E} (h : trCmpD tc r s a ops cs = some ee) :
    PE X (.Compare a ops cs pos) (tE G cl Ex ee) ∧ PT X (.Compare a ops cs pos) (tT G cl Ex ee) := by
  unfold trCmpD at h
  cases hd : trDm tc r s a ops cs with
  | none => rw [hd] at h; exact trCmp_ok k c h
  | some e =>
    rw [hd] at h
    cases h
    unfold trDm at hd
    split at hd
    · obtain ⟨hb, h⟩ := oi hd
      obtain ⟨h1, h2⟩ := an hb
      obtain ⟨x, hx, h⟩ := ob h
      obtain ⟨y, hy, rfl⟩ := om h
      exact ⟨d_dmem (neg := false) c.K c.w c.un (marks h2) (k.e c hx) (k.e c hy), d_tdmem (neg := false) c.K c.w c.un (marks h2) (k.e c hx) (k.e c hy)⟩
    · obtain ⟨hb, h⟩ := oi hd
      obtain ⟨h1, h2⟩ := an hb
      obtain ⟨x, hx, h⟩ := ob h
      obtain ⟨y, hy, rfl⟩ := om h
      exact ⟨d_dmem (neg := true) c.K c.w c.un (marks h2) (k.e c hx) (k.e c hy), d_tdmem (neg := true) c.K c.w c.un (marks h2) (k.e c hx) (k.e c hy)⟩
    · cases hd
theorem trEs_all {f : Expr → Option E} : ∀ {es : List Expr} {ees : Es}, trEs f es = some ees → es.all nst = true
  | [], _, _ => rfl
  | e :: es, _, h => by
    unfold trEs at h
    obtain ⟨hn, h⟩ := oi h
    obtain ⟨x, h1, h⟩ := ob h
    obtain ⟨xs, h2, rfl⟩ := om h
    rw [List.all_cons, hn, trEs_all h2]
    rfl
theorem trEs_ws (k : ROk tc r G cl) (c : XS tc X G cl s Ex) : ∀ {es : List Expr} {ees : Es}, trEs (r.e s) es = some ees → PA X es (tEs G cl Ex ees)
  | [], _, h => by cases h; exact d_ws0
  | e :: es, _, h => by
    unfold trEs at h
    obtain ⟨hn, h⟩ := oi h
    obtain ⟨x, h1, h⟩ := ob h
    obtain ⟨xs, h2, rfl⟩ := om h
    exact d_ws hn (k.e c h1) (trEs_ws k c h2)
theorem trEs_ds (k : ROk tc r G cl) (c : XS tc X G cl s Ex) : ∀ {es : List Expr} {ees : Es}, trEs (r.e s) es = some ees → PA X es (tDs G cl Ex ees)
  | [], _, h => by cases h; exact d_ds0
  | e :: es, _, h => by
    unfold trEs at h
    obtain ⟨hn, h⟩ := oi h
    obtain ⟨x, h1, h⟩ := ob h
    obtain ⟨xs, h2, rfl⟩ := om h
    exact d_ds hn (k.e c h1) (trEs_ds k c h2)
theorem trEs_vs (k : ROk tc r G cl) (c : XS tc X G cl s Ex) {es : List Expr} {ees : Es} (h : trEs (r.e s) es = some ees) : PA X es (tVs G cl Ex ees) := by
  match es, h with
  | [], h => cases h; exact d_vs0
  | [e], h =>
    unfold trEs at h
    obtain ⟨hn, h⟩ := oi h
    obtain ⟨x, h1, h⟩ := ob h
    obtain ⟨xs, h2, rfl⟩ := om h
    cases h2
    exact d_vs1 hn (k.e c h1)
  | e :: e2 :: es, h =>
    unfold trEs at h
    obtain ⟨hn, h⟩ := oi h
    obtain ⟨x, h1, h⟩ := ob h
    obtain ⟨xs, h2, rfl⟩ := om h
    have h2' := h2
    unfold trEs at h2
    obtain ⟨hn2, h2⟩ := oi h2
    obtain ⟨y, h3, h2⟩ := ob h2
    obtain ⟨ys, h4, rfl⟩ := om h2
    exact d_vs2 hn (k.e c h1) (trEs_ds k c h2')
theorem trBool_e (k : ROk tc r G cl) (c : XS tc X G cl s Ex) {op : BoolOp} {pos : Pos} : ∀ {es : List Expr} {ee : E}, trBool (r.e s) op es = some ee → PE X (.BoolOp op es pos) (tE G cl Ex ee)
  | [], _, h => by cases h
  | [a], _, h => pe_one (k.e c h)
  | a :: b :: rest, _, h => by
    unfold trBool at h
    obtain ⟨x, h1, h⟩ := ob h
    obtain ⟨y, h2, rfl⟩ := om h
    cases op with
    | And => exact d_and (k.e c h1) (trBool_e k c h2)
    | Or => exact d_or (k.e c h1) (trBool_e k c h2)
theorem trBool_t (k : ROk tc r G cl) (c : XS tc X G cl s Ex) {op : BoolOp} {pos : Pos} : ∀ {es : List Expr} {ee : E}, trBool (r.t s) op es = some ee → PW X (.BoolOp op es pos) (tT G cl Ex ee)
  | [], _, h => by cases h
  | [a], _, h => d_wone (k.t c h)
  | a :: b :: rest, _, h => by
    unfold trBool at h
    obtain ⟨x, h1, h⟩ := ob h
    obtain ⟨y, h2, rfl⟩ := om h
    cases op with
    | And => exact d_wand (k.t c h1) (trBool_t k c h2)
    | Or => exact d_wor (k.t c h1) (trBool_t k c h2)
theorem trO_ok (k : ROk tc r G cl) (c : XS tc X G cl s Ex) {e : Option Expr} {ee : Eo} (h : trO (r.e s) e = some ee) : PO X e (tO G cl Ex ee) := by
  cases e with
  | none => cases h; exact d_o0
  | some e =>
    obtain ⟨x, h1, rfl⟩ := om h
    exact d_o1 (k.e c h1)
theorem plainIx {b : Expr} (h : ∀ lo hi st pos, b ≠ .Slice lo hi st pos) : L2.PlainIx b := fun o i => by
  cases b <;> first | rfl | exact absurd rfl (h _ _ _ _)
theorem rgOf_one {x a : Expr} (h : rgOf s x = some (.one a)) : ∃ p pos, x = .Call (.Name "range" p) [a] [] pos ∧ isGl s.sc "range" = true ∧ nst a = true := by
  unfold rgOf at h
  split at h
  · obtain ⟨hc, h⟩ := oi h
    cases h
    obtain ⟨h1, h2⟩ := an hc
    obtain ⟨h3, h4⟩ := an h1
    have := seqe h3
    subst this
    exact ⟨_, _, rfl, h4, h2⟩
  · obtain ⟨hc, h⟩ := oi h
    cases h
  · cases h
theorem rgOf_two {x a b : Expr} (h : rgOf s x = some (.two a b)) : ∃ p pos, x = .Call (.Name "range" p) [a, b] [] pos ∧ isGl s.sc "range" = true ∧ nst a = true ∧ nst b = true := by
  unfold rgOf at h
  split at h
  · obtain ⟨hc, h⟩ := oi h
    cases h
  · obtain ⟨hc, h⟩ := oi h
    cases h
    obtain ⟨h1, h2⟩ := an hc
    obtain ⟨h1, h5⟩ := an h1
    obtain ⟨h3, h4⟩ := an h1
    have := seqe h3
    subst this
    exact ⟨_, _, rfl, h4, h5, h2⟩
  · cases h
theorem biOf_ok {x : PySem.Str} {b : Bi} (h : biOf x = some b) : (∃ id, bval b = .builtin id ∧ bootBuiltins x = some (.builtin id)) ∧ x ∈ (["len", "int", "abs", "max", "min", "sum", "tuple", "str", "bool", "list", "range", "enumerate", "zip", "isinstance", "dict"] : List PySem.Str) ∨ (∃ id, bval b = .type id ∧ bootBuiltins x = some (.type id)) ∧ x ∈ (["len", "int", "abs", "max", "min", "sum", "tuple", "str", "bool", "list", "range", "enumerate", "zip", "isinstance", "dict"] : List PySem.Str) := by
  unfold biOf at h
  split at h
  · rename_i e; cases h; rw [seqe e]; exact .inl ⟨⟨_, rfl, by decide +kernel⟩, by decide +kernel⟩
  split at h
  · rename_i e; cases h; rw [seqe e]; exact .inr ⟨⟨_, rfl, by decide +kernel⟩, by decide +kernel⟩
  split at h
  · rename_i e; cases h; rw [seqe e]; exact .inl ⟨⟨_, rfl, by decide +kernel⟩, by decide +kernel⟩
  split at h
  · rename_i e; cases h; rw [seqe e]; exact .inl ⟨⟨_, rfl, by decide +kernel⟩, by decide +kernel⟩
  split at h
  · rename_i e; cases h; rw [seqe e]; exact .inl ⟨⟨_, rfl, by decide +kernel⟩, by decide +kernel⟩
  split at h
  · rename_i e; cases h; rw [seqe e]; exact .inl ⟨⟨_, rfl, by decide +kernel⟩, by decide +kernel⟩
  split at h
  · rename_i e; cases h; rw [seqe e]; exact .inr ⟨⟨_, rfl, by decide +kernel⟩, by decide +kernel⟩
  split at h
  · rename_i e; cases h; rw [seqe e]; exact .inr ⟨⟨_, rfl, by decide +kernel⟩, by decide +kernel⟩
  split at h
  · rename_i e; cases h; rw [seqe e]; exact .inr ⟨⟨_, rfl, by decide +kernel⟩, by decide +kernel⟩
  · cases h
theorem tyOf_ok {x : PySem.Str} {t : Ty} (h : tyOf x = some t) : bootBuiltins x = some (.type (tval t)) ∧ x ∈ (["len", "int", "abs", "max", "min", "sum", "tuple", "str", "bool", "list", "range", "enumerate", "zip", "isinstance", "dict"] : List PySem.Str) ∧ x ≠ "__name__" ∧ (x == ("__debug__" : PySem.Str)) = false := by
  unfold tyOf at h
  split at h
  · rename_i e; cases h; rw [seqe e]; exact ⟨by decide +kernel, by decide +kernel, by decide +kernel, by decide +kernel⟩
  split at h
  · rename_i e; cases h; rw [seqe e]; exact ⟨by decide +kernel, by decide +kernel, by decide +kernel, by decide +kernel⟩
  split at h
  · rename_i e; cases h; rw [seqe e]; exact ⟨by decide +kernel, by decide +kernel, by decide +kernel, by decide +kernel⟩
  split at h
  · rename_i e; cases h; rw [seqe e]; exact ⟨by decide +kernel, by decide +kernel, by decide +kernel, by decide +kernel⟩
  · cases h
theorem trIsi_ok (k : ROk tc r G cl) (c : XS tc X G cl s Ex) {p pos : Pos} {args : List Expr} {ee : E} (hgl : L2.Gl X "isinstance") (h : trIsi r s args = some ee) : PE X (.Call (.Name "isinstance" p) args [] pos) (tE G cl Ex ee) := by
  unfold trIsi at h
  split at h
  · rename_i a y p'
    obtain ⟨hc2, h⟩ := oi h
    obtain ⟨hna, hgy⟩ := an hc2
    obtain ⟨t, ht, h⟩ := ob h
    obtain ⟨z, hz, rfl⟩ := om h
    obtain ⟨t1, t2, t3, t4⟩ := tyOf_ok ht
    exact d_isi c.K hgl (c.bi _ (by decide +kernel)) (isGl_ok c hgy) (c.bi _ t2) t1 t3 t4 hna (k.e c hz)
  · cases h
theorem trCallB_ok (k : ROk tc r G cl) (c : XS tc X G cl s Ex) {x : PySem.Str} {p pos : Pos} {args : List Expr} {ee : E} (hn : okName x = true) (hg : isGl s.sc x = true) (h : trCallB r s x args = some ee) : PE X (.Call (.Name x p) args [] pos) (tE G cl Ex ee) := by
  obtain ⟨n1, n2, n3⟩ := okName_ok hn
  have hgl := isGl_ok c hg
  unfold trCallB at h
  split at h
  · cases h
  · rename_i e es
    split at h
    · rename_i a hr
      obtain ⟨hc2, hr2⟩ := oi hr
      obtain ⟨hx, hes⟩ := an hc2
      have hx := seqe hx
      obtain ⟨p2, pos2, he, g2, na⟩ := rgOf_one hr2
      obtain ⟨z, hz, e3⟩ := om h
      rw [hx] at hgl ⊢
      rw [he, ← e3]
      cases es with
      | nil => exact d_trg c.calm hgl (c.bi _ (by decide +kernel)) (isGl_ok c g2) (c.bi _ (by decide +kernel)) na (k.e c hz)
      | cons _ _ => cases hes
    · cases h
    · obtain ⟨b, hb, h2⟩ := ob h
      obtain ⟨ees, h1, rfl⟩ := om h2
      rcases biOf_ok hb with ⟨⟨id, v1, v2⟩, hm⟩ | ⟨⟨id, v1, v2⟩, hm⟩
      · exact d_biB c.K c.calm v1 hgl (c.bi _ hm) v2 n3 n1 (trEs_all h1) (trEs_vs k c h1)
      · exact d_biT c.K c.calm v1 hgl (c.bi _ hm) v2 n3 n1 (trEs_all h1) (trEs_vs k c h1)
theorem noParams_ok {p : Arguments} (h : noParams p = true) : p = ⟨[], [], none, [], [], none, []⟩ := by
  obtain ⟨h, h7⟩ := an h
  obtain ⟨h, h6⟩ := an h
  obtain ⟨h, h5⟩ := an h
  obtain ⟨h, h4⟩ := an h
  obtain ⟨h, h3⟩ := an h
  obtain ⟨h1, h2⟩ := an h
  obtain ⟨a1, a2, a3, a4, a5, a6, a7⟩ := p
  dsimp only at h1 h2 h3 h4 h5 h6 h7
  rw [List.isEmpty_iff] at h1 h2 h4 h5 h7
  rw [Option.isNone_iff_eq_none] at h3 h6
  subst h1 h2 h3 h4 h5 h6 h7
  rfl
theorem trErr_ok (k : ROk tc r G cl) (c : XS tc X G cl s Ex) {p pos : Pos} {args : List Expr} {ee : E} (hgl : L2.Gl X "_law_error") (h : trErr tc r s args = some ee) : PE X (.Call (.Name "_law_error" p) args [] pos) (tE G cl Ex ee) := by
  unfold trErr at h
  split at h
  · rename_i params body scope lpos
    obtain ⟨hc, h⟩ := oi h
    obtain ⟨hc, hS⟩ := an hc
    obtain ⟨hla, hp⟩ := an hc
    obtain ⟨x, h1, rfl⟩ := om h
    have hp := noParams_ok hp
    subst hp
    obtain ⟨lv, hr, hf, hl⟩ := c.lv
    obtain ⟨room, L, cd, P, TB, q1, q2, q3⟩ := hl hla
    exact d_err L hgl TB q1 q2 q3 room (LamX.lamS_by (by rw [c.sc]; exact hS)) rfl (fun _ _ _ _ _ => rfl) fun A outer sh H E f c' r2 => k.e (c.lam r2 hf) h1
  · cases h
theorem trZd_ok (k : ROk tc r G cl) (c : XS tc X G cl s Ex) {p pos : Pos} {args : List Expr} {ee : E} (hgl : L2.Gl X "dict") (h : trZd r s args = some ee) : PE X (.Call (.Name "dict" p) args [] pos) (tE G cl Ex ee) := by
  unfold trZd at h
  split at h
  · rename_i y p2 z j cp e pos2
    obtain ⟨hc, h⟩ := oi h
    obtain ⟨hc, hne⟩ := an hc
    obtain ⟨hy, hgy⟩ := an hc
    obtain ⟨x, h1, rfl⟩ := om h
    have hy := seqe hy
    have hgy := isGl_ok c hgy
    rw [hy] at hgy ⊢
    exact d_zd c.K hgl (c.bi _ (by decide +kernel)) hgy (c.bi _ (by decide +kernel)) hne c.calm (k.e c h1)
  · cases h
/-- a call of a name that holds a def -/
theorem d_calv (c : XS tc X G cl s Ex) {i : Nat} {x : PySem.Str} {p pos : Pos} {e : Expr} {es : List Expr} {ees : Es} (n1 : (x == ("__debug__" : PySem.Str)) = false) (n2 : (x == ("__classdict__" : PySem.Str)) = false) (hN : X.N[i]? = some x) (hv : Vis X.env.scope x)
    (hn : (e :: es).all nst = true) (ha : PA X (e :: es) (tEs G cl Ex ees)) : PE X (.Call (.Name x p) (e :: es) [] pos) (tE G cl Ex (.calv i ees)) := by
  have hn := Bool.and_eq_true_iff.mp (show (nst e && es.all nst) = true from hn)
  refine ⟨fun pins st σ H Q I q => ?_⟩
  obtain ⟨ρ, α, M, Z, S, er, P⟩ := q
  unfold evE at P
  have key : ∀ j, ρ[i]? = some (some (.d (.fn j))) → Post G Ex α M Z H (okOnly (evWs cl ees ρ M) fun q => cl j q.1 q.2) (fun w α' _ Z' H' => ∀ v, RpW G α' Z' w v → Q v H') → wpAny (model X.prog X.w) X.A (eval (.Call (.Name x p) (e :: es) [] pos) X.env) (EP X pins σ Q) X.xe st := by
    intro j hj P
    obtain ⟨v, h1, h2⟩ := er.at_ i _ hj
    have h2 : Rp G Z (.fn j) v := h2
    cases h2
    have P : Post G Ex α M Z H ((evWs cl ees ρ M).bind fun q => cl j q.1 q.2) (fun w α' _ Z' H' => ∀ v, RpW G α' Z' w v → Q v H') ∧ ∃ q, evWs cl ees ρ M = .ok q := by
      revert P
      cases evWs cl ees ρ M with
      | ok q => intro P; exact ⟨P, q, rfl⟩
      | exc c M' => intro P; exact P.elim
      | stuck => intro P; exact P.elim
    obtain ⟨P, q0, e0⟩ := P
    rcases c.cln j with ⟨y, hy⟩ | hs
    · obtain ⟨q1, q2, fd, ps, kk, F, hr, hb⟩ := c.fn y j hy
      refine (pe_callL (i := i) (f := G.fa j) (dvs := []) (E := Ex) F hr hN hv q2 hb .nil c.pass ha n1 n2 (star_cons hn.1) (star_any hn.2)).run pins st σ H Q I ⟨h1, ρ, α, M, Z, S, er, P.bind.imp fun ws α1 M1 Z1 H1 x1 S1 P1 vs rs => ?_⟩
      exact ⟨ws, α1, M1, Z1, S1, by rw [List.append_nil]; exact rs, P1⟩
    · exfalso
      rw [e0, show (R.ok q0).bind (fun q => cl j q.1 q.2) = cl j q0.1 q0.2 from rfl, hs] at P
      exact P
  match hρ : ρ[i]? with
  | some (some (.d (.fn j))) => rw [hρ] at P; exact key j hρ P
  | none => rw [hρ] at P; exact P.elim
  | some none => rw [hρ] at P; exact P.elim
  | some (some (.c _)) => rw [hρ] at P; exact P.elim
  | some (some (.d .non)) => rw [hρ] at P; exact P.elim
  | some (some (.d (.bl _))) => rw [hρ] at P; exact P.elim
  | some (some (.d (.int _))) => rw [hρ] at P; exact P.elim
  | some (some (.d (.str _))) => rw [hρ] at P; exact P.elim
  | some (some (.d (.tup _))) => rw [hρ] at P; exact P.elim
  | some (some (.d (.lst _))) => rw [hρ] at P; exact P.elim
  | some (some (.d (.scr _))) => rw [hρ] at P; exact P.elim
  | some (some (.d (.dc _))) => rw [hρ] at P; exact P.elim
theorem trCallN_ok (k : ROk tc r G cl) (c : XS tc X G cl s Ex) {x : PySem.Str} {p pos : Pos} {args : List Expr} {ee : E} (h : trCallN tc r s x args = some ee) : PE X (.Call (.Name x p) args [] pos) (tE G cl Ex ee) := by
  unfold trCallN at h
  cases hc : okName x && isGl s.sc x with
  | false =>
    rw [hc, if_neg Bool.false_ne_true] at h
    obtain ⟨hc, h⟩ := oi h
    obtain ⟨hn, hc⟩ := an hc
    obtain ⟨hv, he⟩ := an hc
    obtain ⟨n1, n2, n3⟩ := okName_ok hn
    obtain ⟨i, h1, h⟩ := ob h
    obtain ⟨es, h2, rfl⟩ := om h
    cases args with
    | nil => cases he
    | cons e es' => exact d_calv c n1 n2 (by rw [c.N]; exact slot_ok h1) (isVis_ok c hv) (trEs_all h2) (trEs_ws k c h2)
  | true =>
  rw [hc, if_pos rfl] at h
  obtain ⟨hn, hg⟩ := an hc
  obtain ⟨n1, n2, n3⟩ := okName_ok hn
  have hgl := isGl_ok c hg
  cases hf : tc.fns.lookup x with
  | some i =>
    rw [hf] at h
    obtain ⟨es, h1, rfl⟩ := om h
    obtain ⟨q1, q2, fd, ps, kk, F, hr, hb⟩ := c.fn x i hf
    cases args with
    | nil => cases h1; exact d_call0 (P := X.prog) (w := X.w) F hr hgl q1 q2 hb c.pass n1
    | cons e es' => exact d_call (P := X.prog) (w := X.w) F hr hgl q1 q2 hb c.pass n1 (trEs_all h1) (trEs_ws k c h1)
  | none =>
    rw [hf] at h
    cases hi : x == ("isinstance" : PySem.Str) with
    | true =>
      simp only [hi] at h
      have hx := seqe hi
      rw [hx] at hgl ⊢
      exact trIsi_ok k c hgl h
    | false =>
      simp only [hi] at h
      cases he : x == ("_law_error" : PySem.Str) with
      | true =>
        simp only [he] at h
        have hx := seqe he
        rw [hx] at hgl ⊢
        exact trErr_ok k c hgl h
      | false =>
        simp only [he] at h
        cases hd : x == ("dict" : PySem.Str) with
        | true =>
          simp only [hd] at h
          have hx := seqe hd
          rw [hx] at hgl ⊢
          exact trZd_ok k c hgl h
        | false =>
          simp only [hd] at h
          cases hl : (x == ("len" : PySem.Str)) && isDv1 tc args with
          | true =>
            simp only [hl] at h
            obtain ⟨h1, h2⟩ := an hl
            have hx := seqe h1
            rw [hx] at hgl ⊢
            match args, h2, h with
            | [e], h2, h =>
              obtain ⟨y, hy, rfl⟩ := om h
              exact d_dlen (x := "len") c.K c.w hgl (c.bi _ (by simp)) (an h2).2 (k.e c hy)
          | false =>
            simp only [hl] at h
            exact trCallB_ok k c hn hg h
/-! ### methods of texts -/
theorem nosup {o : Expr} {m : PySem.Str} {env : PySem.Env} (h : noSup o = true) : attributeBase o m env (eval o env) = eval o env := by
  unfold attributeBase
  split
  · cases h
  · rfl
theorem trMeth_ok (k : ROk tc r G cl) (c : XS tc X G cl s Ex) {o : Expr} {m : PySem.Str} {ap cp : Pos} {args : List Expr} {ee : E} (h : trMeth tc r s o m ap cp args = some ee) : PE X (.Call (.Attribute o m ap) args [] cp) (tE G cl Ex ee) := by
  unfold trMeth at h
  split at h
  · obtain ⟨hc, h⟩ := oi h
    obtain ⟨hc, hm⟩ := an hc
    obtain ⟨hs, hl⟩ := an hc
    rw [seqe hm]
    obtain ⟨x, h1, rfl⟩ := om h
    refine (pe_upper (k.e c h1) (nosup hs) hl).imp fun σ H Q q => ?_
    obtain ⟨ρ, α, M, Z, S, er, P⟩ := q
    unfold evE evVs at P
    refine one S er P fun w1 α1 M1 Z1 H1 v1 S1 x1 r1 P1 => ?_
    obtain ⟨d1, e1, P2⟩ := Post.look view_exc P1
    obtain ⟨a, rfl, P3⟩ := Post.asS P2
    obtain ⟨z, e2, P4⟩ := Post.look dmt_exc P3
    obtain ⟨cc, e2⟩ := stuckIf_ok (show stuckIf (decide (a.length ≤ 5592405)) (.ok (D.str (Txt.upper a))) = R.ok z from e2)
    cases e2
    have hv := (view_rel S1 r1 e1).str
    exact ⟨⟨a, hv⟩, a, hv, rfl, of_decide_eq_true cc, P4.ok S1 _ (.str _)⟩
  · rename_i e
    obtain ⟨hc, h⟩ := oi h
    obtain ⟨hc, hn⟩ := an hc
    obtain ⟨hs, hl⟩ := an hc
    cases hm : m == ("split" : PySem.Str) with
    | true =>
      simp only [hm] at h
      rw [seqe hm]
      obtain ⟨x, h1, h⟩ := ob h
      obtain ⟨y, h2, rfl⟩ := om h
      refine (pe_split (k.e c h1) (k.e c h2) (star_cons hn) (nosup hs) hl).imp fun σ H Q q => ?_
      obtain ⟨ρ, α, M, Z, S, er, P⟩ := q
      unfold evE evVs at P
      refine one S er P fun w1 α1 M1 Z1 H1 v1 S1 x1 r1 P1 => ?_
      obtain ⟨d1, e1, P2⟩ := Post.look view_exc P1
      obtain ⟨a, rfl, P3⟩ := Post.asS P2
      have hv := (view_rel S1 r1 e1).str
      rw [R.bind_bind] at P3
      refine ⟨⟨a, hv⟩, one S1 (er.mono x1.same x1.pre) P3 fun w2 α2 M2 Z2 H2 v2 S2 x2 r2 P4 => ?_⟩
      rw [R.bind_bind] at P4
      obtain ⟨d2, e2, P5⟩ := Post.look view_exc P4
      obtain ⟨z, e3, P6⟩ := Post.look dmt_exc P5
      have e3 : dmt .split a [d2] = .ok z := e3
      cases d2 with
      | str b =>
        obtain ⟨cc, e3⟩ := stuckIf_ok (show stuckIf (!(b.length == 0) && decide (a.length + 2 ≤ sizeLine)) (.ok (D.lst ((Txt.split a b).map D.str))) = R.ok z from e3)
        cases e3
        obtain ⟨c1, c2⟩ := an cc
        have hv2 := (view_rel S2 r2 e2).str
        subst hv2
        refine ⟨a, b, hv, rfl, by simpa using c1, of_decide_eq_true c2, fun p hp => ?_⟩
        exact P6.val.new S2 hp (fun ps z => by cases z) (.lst upd_same (Rps.ofStrs _))
      | _ => cases e3
    | false =>
      simp only [hm] at h
      cases hm2 : m == ("join" : PySem.Str) with
      | true =>
        simp only [hm2] at h
        rw [seqe hm2]
        obtain ⟨x, h1, h⟩ := ob h
        obtain ⟨y, h2, rfl⟩ := om h
        refine (pe_join (k.e c h1) (k.e c h2) (star_cons hn) (nosup hs) hl).imp fun σ H Q q => ?_
        obtain ⟨ρ, α, M, Z, S, er, P⟩ := q
        unfold evE evVs at P
        refine one S er P fun w1 α1 M1 Z1 H1 v1 S1 x1 r1 P1 => ?_
        obtain ⟨d1, e1, P2⟩ := Post.look view_exc P1
        obtain ⟨a, rfl, P3⟩ := Post.asS P2
        have hv := (view_rel S1 r1 e1).str
        rw [R.bind_bind] at P3
        refine ⟨⟨a, hv⟩, one S1 (er.mono x1.same x1.pre) P3 fun w2 α2 M2 Z2 H2 v2 S2 x2 r2 P4 => ?_⟩
        rw [R.bind_bind] at P4
        obtain ⟨d2, e2, P5⟩ := Post.look view_exc P4
        obtain ⟨z, e3, P6⟩ := Post.look dmt_exc P5
        have e3 : dmt .join a [d2] = .ok z := e3
        cases d2 with
        | lst ds =>
          have e3 : optR ((strsOf ds).bind fun zs => if joinOk a zs = true then some (D.str (Txt.join a zs)) else none) = .ok z := e3
          obtain ⟨zs, q1, q2⟩ := ob (optR_ok e3)
          obtain ⟨c1, q2⟩ := oi q2
          cases q2
          obtain ⟨p, vs, rfl, hp, rr⟩ := (view_rel S2 r2 e2).lst S2
          have ev := strs_rel rr q1
          subst ev
          exact ⟨a, p, zs, hv, rfl, .inl (SqL.of hp), of_decide_eq_true c1, P6.ok S2 _ (.str _)⟩
        | _ => cases e3
      | false =>
        simp only [hm2] at h
        cases hm3 : m == ("index" : PySem.Str) with
        | true =>
          simp only [hm3] at h
          rw [seqe hm3]
          cases hx : cixOf tc s o with
          | some ys =>
            simp only [hx] at h
            obtain ⟨x, h1, rfl⟩ := om h
            unfold cixOf at hx
            split at hx
            · rename_i x' p'
              obtain ⟨hc2, hx⟩ := oi hx
              obtain ⟨n0, g0⟩ := an hc2
              obtain ⟨n1, n2, n3⟩ := okName_ok n0
              split at hx
              · rename_i ds hcon
                obtain ⟨u, v, q1, q2, q3, q4⟩ := c.con _ _ hcon
                have : ∃ a, v = .ref a ∧ ∀ H, SqT X.K H a (ys.map V.str) := by
                  cases q3 (fun _ => none) with
                  | @tup _ a xs hq hr =>
                    have ev := strs_rel hr hx
                    subst ev
                    refine ⟨a, rfl, fun H => ?_⟩
                    rw [c.K]
                    rcases hq with (h | ⟨o, h⟩) | h
                    · cases h
                    · cases h
                    · exact .inr h
                obtain ⟨a, rfl, hq⟩ := this
                cases (show u = .ref a from q2)
                exact d_cix (isGl_ok c g0) q1 n1 hq q4 (k.e c h1) hn hl
              · cases hx
            · cases hx
          | none =>
            simp only [hx] at h
            obtain ⟨x, h1, h⟩ := ob h
            obtain ⟨y, h2, rfl⟩ := om h
            exact d_smI c.K c.un (k.e c h1) (k.e c h2) hn (nosup hs) hl
        | false =>
          simp only [hm3] at h
          cases hm4 : m == ("count" : PySem.Str) with
          | true =>
            simp only [hm4] at h
            rw [seqe hm4]
            obtain ⟨x, h1, h⟩ := ob h
            obtain ⟨y, h2, rfl⟩ := om h
            exact d_smC c.K (k.e c h1) (k.e c h2) hn (nosup hs) hl
          | false => simp only [hm4] at h; cases h
  · rename_i e f
    obtain ⟨hc, h⟩ := oi h
    obtain ⟨hc, hc2⟩ := an hc
    obtain ⟨hdv, hm⟩ := an hc
    obtain ⟨hc3, hc4⟩ := an hc2
    obtain ⟨hs, hl⟩ := an hc3
    obtain ⟨hn1, hn2⟩ := an hc4
    rw [seqe hm]
    obtain ⟨x, hx, h⟩ := ob h
    obtain ⟨y, hy, h⟩ := ob h
    obtain ⟨z, hz, rfl⟩ := om h
    exact d_dgetd c.K c.w c.un ⟨nosup hs, by rw [star_cons hn1, star_cons hn2]; rfl, hl, by rw [star_cons hn1, star_cons hn2]; rfl⟩ (k.e c hx) (k.e c hy) (k.e c hz)
  · cases h
end
end PyD

set_option Elab.async false
set_option linter.all false
set_option maxRecDepth 100000
set_option maxHeartbeats 4000000
/-! PyD13: the translation of expressions is sound: fresh lists, what is walked, all of it. -/
namespace PyD
open PySem PySem.Spec PyProof.Rows L2
section
variable {tc : TC} {r : TR} {G : Gl} {cl : Nat → List W → Ms → R (W × Ms)} {X : Cx} {s : SI} {Ex : XK}
theorem trNms_ok {raw : Scope} (hN : X.N = tc.N) (st : ∀ x, isSt raw x = true → StOk X x) : ∀ {es : List Expr} {is : List Nat}, trNms tc raw es = some is → NmOk X es is
  | [], _, h => by cases h; exact .nil
  | e :: es, _, h => by
    unfold trNms at h
    split at h
    · rename_i e2; cases e2
    · rename_i x pos es' e2
      cases e2
      obtain ⟨h1, h⟩ := oi h
      obtain ⟨i, h2, h⟩ := ob h
      obtain ⟨is, h3, rfl⟩ := om h
      exact .cons (by rw [hN]; exact slot_ok h2) (st _ h1) (trNms_ok hN st h3)
    · cases h
theorem trTg_ok {raw : Scope} (hc : X.calm = true) (hN : X.N = tc.N) (nd : tc.N.Nodup) (st : ∀ x, isSt raw x = true → StOk X x) {e : Expr} {t : Tg} (h : trTg tc raw e = some t) : PG X e (gDt X.K t) := by
  unfold trTg at h
  split at h
  · obtain ⟨h1, h⟩ := oi h
    obtain ⟨i, h2, rfl⟩ := om h
    exact d_tgName (by rw [hN]; exact nd) (by rw [hN]; exact slot_ok h2) (st _ h1)
  · obtain ⟨is, h2, rfl⟩ := om h
    exact d_tgTup hc (by rw [hN]; exact nd) (trNms_ok hN st h2)
  · cases h
theorem allIn_ok {a b : List Nat} (h : allIn a b = true) : ∀ i ∈ a, i ∈ b := fun i hi => of_decide_eq_true (List.all_eq_true.mp h i hi)
theorem ifs_ok (k : ROk tc r G cl) {ifs : List Expr} {c0 : Eo} {s' : SI} (h : (match ifs with
          | [] => some Eo.none
          | [c] => (r.t s' c).map Eo.some
          | _ => none) = some c0) {Y : Cx} {Ey : XK} (c : XS tc Y G cl s' Ey) : PTs Y ifs (tC' G cl Ey c0) := by
  split at h
  · cases h; exact d_pt0
  · obtain ⟨x, h1, rfl⟩ := om h
    exact d_pt1 (k.t c h1)
  · cases h
theorem trF1_ok (k : ROk tc r G cl) (c : XS tc X G cl s Ex) {x : Expr} {f : F} (h : trF1 tc r s x = some f) : PE X x (tF G cl Ex f) := by
  have hNd : X.N.Nodup := by rw [c.N]; exact c.nd
  unfold trF1 at h
  split at h
  · obtain ⟨es, h1, rfl⟩ := om h
    exact d_lst (trEs_ds k c h1)
  · rename_i x p e pos
    obtain ⟨hc, h⟩ := oi h
    obtain ⟨hc, hf⟩ := an hc
    obtain ⟨hc, hn⟩ := an hc
    obtain ⟨hx, hg⟩ := an hc
    have hgl := isGl_ok c hg
    have hx := seqe hx
    rw [hx] at hgl ⊢
    have hm : X.mg "list" = none := c.bi _ (by decide +kernel)
    split at h
    · rename_i a hr
      obtain ⟨p2, pos2, he, g2, na⟩ := rgOf_one hr
      obtain ⟨z, hz, rfl⟩ := om h
      rw [he]
      exact d_rg c.calm hgl hm (isGl_ok c g2) (c.bi _ (by decide +kernel)) na (k.e c hz)
    · rename_i a b hr
      obtain ⟨p2, pos2, he, g2, na, nb⟩ := rgOf_two hr
      obtain ⟨y, hy, h⟩ := ob h
      obtain ⟨z, hz, rfl⟩ := om h
      rw [he]
      exact d_rg2 c.calm hgl hm (isGl_ok c g2) (c.bi _ (by decide +kernel)) na nb (k.e c hy) (k.e c hz)
    · obtain ⟨z, hz, rfl⟩ := om h
      exact d_of hgl hm c.K hn (k.e c hz)
  · rename_i a o b pos
    split at h
    · rename_i ho
      obtain ⟨y, hy, h⟩ := ob h
      obtain ⟨z, hz, rfl⟩ := om h
      have := opOf_ok ho
      subst this
      exact d_lop (.inl rfl) (k.e c hy) (k.e c hz)
    · rename_i ho
      obtain ⟨y, hy, h⟩ := ob h
      obtain ⟨z, hz, rfl⟩ := om h
      have := opOf_ok ho
      subst this
      exact d_lop (.inr rfl) (k.e c hy) (k.e c hz)
    · cases h
  · obtain ⟨y, hy, h⟩ := ob h
    obtain ⟨l, hl, h⟩ := ob h
    obtain ⟨u, hu, rfl⟩ := om h
    exact d_fsl (k.e c hy) (trO_ok k c hl) (trO_ok k c hu)
  · rename_i elt tg iter ifs scope pos
    obtain ⟨hc, h⟩ := oi h
    obtain ⟨hb, hs⟩ := an hc
    obtain ⟨ir, h1, h⟩ := ob h
    obtain ⟨t, h2, h⟩ := ob h
    obtain ⟨c0, h3, h⟩ := ob h
    obtain ⟨e, h4, h⟩ := ob h
    obtain ⟨hi, h⟩ := oi h
    cases h
    exact d_lc c.calm hNd c.K (k.i c h1) (by rw [c.N, c.sc]; exact blkOk_by hb) (allIn_ok hi) (fun sh H C c' fp => trTg_ok (X := X.blk sh H scope (compEnvC scope c' C X.env) fp) c.calm c.N c.nd (c.blk sh H scope C c' fp).st h2)
      (fun sh H C c' fp => ifs_ok k h3 (c.blk sh H scope C c' fp)) (fun sh H C c' fp => k.e (c.blk sh H scope C c' fp) h4) hs
  · rename_i elt tg iter tg1 iter1 ifs scope pos
    obtain ⟨hc, h⟩ := oi h
    obtain ⟨hc, hs1⟩ := an hc
    obtain ⟨hb, hs⟩ := an hc
    obtain ⟨ir, h1, h⟩ := ob h
    obtain ⟨t, h2, h⟩ := ob h
    obtain ⟨ir1, h5, h⟩ := ob h
    obtain ⟨t1, h6, h⟩ := ob h
    obtain ⟨c0, h3, h⟩ := ob h
    obtain ⟨e, h4, h⟩ := ob h
    obtain ⟨hi, h⟩ := oi h
    obtain ⟨hi, hi1⟩ := an hi
    cases h
    exact d_lc2 c.calm hNd c.K (k.i c h1) (by rw [c.N, c.sc]; exact blkOk_by hb) (allIn_ok hi) (allIn_ok hi1) (fun _ h => h) (fun sh H C c' fp => trTg_ok (X := X.blk sh H scope (compEnvC scope c' C X.env) fp) c.calm c.N c.nd (c.blk sh H scope C c' fp).st h2)
      (fun sh H C c' fp => k.i (c.blk sh H scope C c' fp) h5) (fun sh H C c' fp => trTg_ok (X := X.blk sh H scope (compEnvC scope c' C X.env) fp) c.calm c.N c.nd (c.blk sh H scope C c' fp).st h6)
      (fun sh H C c' fp => ifs_ok k h3 (c.blk sh H scope C c' fp)) (fun sh H C c' fp => k.e (c.blk sh H scope C c' fp) h4) hs hs1
  · cases h
theorem isTup_ok {tg : Expr} (h : isTup tg = true) : ∃ es kk pos, tg = .Tuple es kk pos := by
  cases tg <;> first | exact ⟨_, _, _, rfl⟩ | cases h
theorem trI1_ok (k : ROk tc r G cl) (c : XS tc X G cl s Ex) {tg x : Expr} {ir : Ir} (h : trI1 tc r s tg x = some ir) : PI X tg x (tI G cl Ex ir) := by
  unfold trI1 at h
  split at h
  · rename_i x p args pos
    split at h
    · rename_i hc
      obtain ⟨hc, hn⟩ := an hc
      obtain ⟨hg, hf⟩ := an hc
      have hgl := isGl_ok c hg
      split at h
      · rename_i hx
        have hx := seqe hx
        rw [hx] at hgl ⊢
        have hm : X.mg "range" = none := c.bi _ (by decide +kernel)
        split at h
        · obtain ⟨na, h⟩ := oi h
          obtain ⟨z, hz, rfl⟩ := om h
          exact d_rg1 hgl hm na (k.e c hz)
        · obtain ⟨na, h⟩ := oi h
          obtain ⟨na, nb⟩ := an na
          obtain ⟨y, hy, h⟩ := ob h
          obtain ⟨z, hz, rfl⟩ := om h
          exact d_rgi2 hgl hm na nb (k.e c hy) (k.e c hz)
        · cases h
      · split at h
        · rename_i hx
          have hx := seqe hx
          rw [hx] at hgl ⊢
          have hm : X.mg "enumerate" = none := c.bi _ (by decide +kernel)
          split at h
          · obtain ⟨na, h⟩ := oi h
            obtain ⟨na, nt⟩ := an na
            obtain ⟨es, kk, tp, et⟩ := isTup_ok nt
            obtain ⟨z, hz, rfl⟩ := om h
            rw [et]
            exact d_enum c.K hgl hm na (k.e c hz)
          · cases h
        · split at h
          · rename_i hx
            have hx := seqe hx
            rw [hx] at hgl ⊢
            have hm : X.mg "zip" = none := c.bi _ (by decide +kernel)
            split at h
            · obtain ⟨na, h⟩ := oi h
              obtain ⟨na, nt⟩ := an na
              obtain ⟨na, nb⟩ := an na
              obtain ⟨es, kk, tp, et⟩ := isTup_ok nt
              obtain ⟨y, hy, h⟩ := ob h
              obtain ⟨z, hz, rfl⟩ := om h
              rw [et]
              exact d_zip c.K hgl hm na nb (k.e c hy) (k.e c hz)
            · cases h
          · obtain ⟨z, hz, rfl⟩ := om h
            exact d_seq c.K (k.e c hz)
    · obtain ⟨z, hz, rfl⟩ := om h
      exact d_seq c.K (k.e c hz)
  · obtain ⟨z, hz, rfl⟩ := om h
    exact d_seq c.K (k.e c hz)
theorem trE1_ok (k : ROk tc r G cl) (c : XS tc X G cl s Ex) {x : Expr} {ee : E} (h : trE1 tc r s x = some ee) : PE X x (tE G cl Ex ee) := by
  unfold trE1 at h
  split at h
  · exact trC_ok h
  · exact trN_ok c h
  · obtain ⟨o, ho, h⟩ := ob h
    obtain ⟨y, hy, h⟩ := ob h
    obtain ⟨z, hz, rfl⟩ := om h
    have := opOf_ok ho
    subst this
    exact d_op2 c.K (k.e c hy) (k.e c hz)
  · obtain ⟨z, hz, rfl⟩ := om h
    exact d_neg (k.e c hz)
  · obtain ⟨z, hz, rfl⟩ := om h
    exact d_notv (k.e c hz)
  · exact trBool_e k c h
  · obtain ⟨y, hy, h⟩ := ob h
    obtain ⟨z, hz, h⟩ := ob h
    obtain ⟨u, hu, rfl⟩ := om h
    exact d_ife (k.t c hy) (k.e c hz) (k.e c hu)
  · exact (trCmpD_ok k c h).1
  · obtain ⟨y, hy, h⟩ := ob h
    obtain ⟨l, hl, h⟩ := ob h
    obtain ⟨u, hu, rfl⟩ := om h
    exact d_sl c.K (k.e c hy) (trO_ok k c hl) (trO_ok k c hu)
  · obtain ⟨z, hz, rfl⟩ := om h
    exact d_rev c.K (k.e c hz)
  · cases h
  · cases h; exact d_dnew
  · obtain ⟨kvs, hk, h⟩ := ob h
    obtain ⟨hc, h⟩ := oi h
    cases h
    have hc := Bool.and_eq_true_iff.mp hc
    exact d_dsp hk (fun e => by rw [e] at hc; cases hc.1) (of_decide_eq_true hc.2)
  · rename_i n1 n3 n2
    obtain ⟨y, hy, h⟩ := ob h
    obtain ⟨z, hz, rfl⟩ := om h
    have px : L2.PlainIx _ := plainIx fun lo hi st pos e => by
      cases st with
      | none => exact n1 _ _ _ e
      | some st => exact n2 _ _ _ _ e
    split
    · exact d_dget c.K c.w c.un px (k.e c hy) (k.e c hz)
    · exact d_ix c.K c.w (by have := c.un; omega) px (k.e c hy) (k.e c hz)
  · obtain ⟨es, h1, rfl⟩ := om h
    exact d_tup (trEs_ds k c h1)
  · obtain ⟨f, h1, rfl⟩ := om h
    exact d_fr (k.f c h1)
  · obtain ⟨f, h1, rfl⟩ := om h
    exact d_fr (k.f c h1)
  · split at h
    · obtain ⟨f, h1, rfl⟩ := om h
      exact d_fr (k.f c h1)
    · exact trCallN_ok k c h
  · exact trMeth_ok k c h
  · cases h
theorem trT1_ok (k : ROk tc r G cl) (c : XS tc X G cl s Ex) {x : Expr} {ee : E} (h : trT1 tc r s x = some ee) : PT X x (tT G cl Ex ee) := by
  unfold trT1 at h
  split at h
  · obtain ⟨z, hz, rfl⟩ := om h
    exact d_tnot (k.t c hz)
  · cases h
  · exact (trBool_t k c h).pt
  · cases h
  · exact (trCmpD_ok k c h).2
  · rename_i n1 n2 n3 n4 n5
    refine d_tval (trE1_ok k c h) ?_
    cases x <;> first | rfl | exact absurd rfl (n2 _ _ _) | exact absurd rfl (n3 _ _ _) | exact absurd rfl (n4 _ _ _ _) | exact absurd rfl (n5 _ _ _ _)
theorem tr_ok (tc : TC) (G : Gl) (cl : Nat → List W → Ms → R (W × Ms)) : ∀ n, ROk tc (tr tc n) G cl
  | 0 => ⟨fun _ h => (by cases h), fun _ h => (by cases h), fun _ h => (by cases h), fun _ h => (by cases h)⟩
  | n + 1 => ⟨fun c h => trE1_ok (tr_ok tc G cl n) c h, fun c h => trT1_ok (tr_ok tc G cl n) c h, fun c h => trF1_ok (tr_ok tc G cl n) c h, fun c h => trI1_ok (tr_ok tc G cl n) c h⟩
end
end PyD

set_option Elab.async false
set_option linter.all false
set_option maxRecDepth 100000
set_option maxHeartbeats 4000000
/-! PyD14: the translation of statements, and that it is sound. -/
namespace PyD
open PySem PySem.Spec PyProof.Rows L2
def notComp : Expr → Bool
  | .ListComp .. => false
  | .SetComp .. => false
  | .DictComp .. => false
  | _ => true
def isTupE : Expr → Bool
  | .Tuple .. => true
  | _ => false
def isSl : Expr → Bool
  | .Slice .. => true
  | _ => false
/-- how a parallel store is done: one by one in names (some), or by a tuple (none) -/
def swP (sc : Scope) (ts vs : List Expr) : Option (Option (List PySem.Str)) :=
  if !(ts.length == 2 || ts.length == 3) || vs.length != ts.length then some none
  else if (vs.any fun | .Starred .. => true | _ => false) then some none
  else
    let names := ts.filterMap fun
      | .Name id pos => if sc.names.lookup id == some .local && pos.line == (ts.head?.map (·.pos.line)).getD 0 then some id else none
      | _ => none
    if names.length != ts.length || names.eraseDups.length != names.length then some none
    else if vs.all (foldedForSure 8) then some none
    else if vs.all (constantsAlone 8) then none
    else some (some names)
theorem swP_ok {env : PySem.Env} (hk : env.scope.kind = .function) {ts vs : List Expr} {kt k2 : Nat} {pt pt2 : Pos} {o : Option (List PySem.Str)} (h : swP env.scope ts vs = some o) : swappedStores [.Tuple ts kt pt] (.Tuple vs k2 pt2) env = pure o := by
  have hb : env.blockKind = .function := by unfold PySem.Env.blockKind; rw [hk]; rfl
  unfold swappedStores
  unfold swP at h
  simp only [hb]
  show (if (!(ts.length == 2 || ts.length == 3) || vs.length != ts.length || (ScopeKind.function != ScopeKind.function)) = true then _ else _) = _
  rw [show (ScopeKind.function != ScopeKind.function) = false from rfl, Bool.or_false]
  split at h
  · rename_i h1
    cases h
    rw [if_pos h1]
  · rename_i h1
    rw [if_neg h1]
    split at h
    · rename_i h2
      cases h
      exact if_pos h2
    · rename_i h2
      refine (if_neg h2).trans ?_
      dsimp only at h
      split at h
      · rename_i h3
        cases h
        exact if_pos h3
      · rename_i h3
        refine (if_neg h3).trans ?_
        split at h
        · rename_i h4
          cases h
          exact if_pos h4
        · rename_i h4
          refine (if_neg h4).trans ?_
          split at h
          · cases h
          · rename_i h5
            cases h
            exact if_neg h5
theorem sw_plain {e : Expr} {t : Option Expr} {l : Nat} {env : PySem.Env} (h : notComp e = true) : swapsWith e t l env = pure false := by
  cases e <;> first | rfl | cases h
theorem sw_other {e t : Expr} {l : Nat} {env : PySem.Env} (h : ∀ x p, t ≠ .Name x p) : swapsWith e (some t) l env = pure false := by
  unfold swapsWith
  cases e <;> first | rfl | (cases t <;> first | rfl | exact absurd rfl (h _ _))
theorem sw_none {e t : Expr} {env : PySem.Env} (h : isTupE e = false) : swappedStores [t] e env = pure none := by
  unfold swappedStores
  cases e <;> first | (cases t <;> rfl) | cases h
/-- whether x = [..] stores ahead of the comprehension's end -/
def swB (sc : Scope) (x : PySem.Str) (p : Pos) : Expr → Bool
  | .ListComp _ _ scope lp => (sc.names.lookup x == some .local) && (p.line == lp.line) && !(scope.names.any fun (n, k) => n == x && (k == .local || k == .cell))
  | _ => false
theorem swB_lc {env : PySem.Env} (hk : env.scope.kind = .function) {x : PySem.Str} {p lp : Pos} {elt : Expr} {gs : List Comprehension} {scope : Scope} {l : Nat} : swapsWith (.ListComp elt gs scope lp) (some (.Name x p)) l env = pure (swB env.scope x p (.ListComp elt gs scope lp)) := by
  have hb : env.blockKind = .function := by unfold PySem.Env.blockKind; rw [hk]; rfl
  unfold swapsWith swB
  simp only [hb]
  show pure (((ScopeKind.function == ScopeKind.function) && _ && _) && _) = _
  rw [show (ScopeKind.function == ScopeKind.function) = true from rfl, Bool.true_and]
  rfl
section
variable (tc : TC) (r : TR)
/-- the value of a name: a list that will be changed is a cell -/
def trV (s : SI) (mu : Bool) (e : Expr) : Option E := if mu = true then (match r.f s e with
  | some f => some (.nw f)
  | none => r.e s e) else r.e s e
def trVs (s : SI) : List Bool → List Expr → Option Es
  | [], [] => some .nil
  | m :: ms, e :: es => if nst e then (trV r s m e).bind fun x => (trVs s ms es).map fun xs => .cons x xs else none
  | _, _ => none
def muOf : Expr → Bool
  | .Name x _ => tc.mu.contains x
  | _ => false
def trParL (s : SI) (is : List Nat) (ees : Es) (ts vs : List Expr) : Option S := match ts, vs, is with
  | [.Name x _, .Name y _], [_, _], [i, j] => if isLoc s.sc x && isLoc s.sc y && decide (i ≠ j) && decide (swP s.sc ts vs = some (some [x, y])) then some (.par [i, j] ees) else none
  | [.Name x _, .Name y _, .Name z _], [_, _, _], [i, j, k] => if isLoc s.sc x && isLoc s.sc y && isLoc s.sc z && decide (i ≠ j) && decide (i ≠ k) && decide (j ≠ k) && decide (swP s.sc ts vs = some (some [x, y, z])) then some (.par [i, j, k] ees) else none
  | _, _, _ => none
def trPar (s : SI) (ts vs : List Expr) : Option S :=
  (trNms tc s.raw ts).bind fun is => (trVs r s (ts.map (muOf tc)) vs).bind fun ees => (match swP s.sc ts vs with
    | some none => if decide (is.length ≤ 1000) then some (.par is ees) else none
    | some (some _) => trParL s is ees ts vs
    | none => none)
def trSs (f : Stmt → Option S) : List Stmt → Option Ss
  | [] => some .nil
  | s :: ss => (trSs f ss).map fun xs => .cons ((f s).getD .bad) xs
def trAsgN (s : SI) (x : PySem.Str) (p : Pos) (e : Expr) : Option S :=
  if isSt s.raw x then (slot tc.N x).bind fun i => if notComp e then (trV r s (tc.mu.contains x) e).map fun y => .asg (.nm i) y
    else (match e with
      | .ListComp _ [⟨_, _, _, 0⟩] _ _ => (r.f s e).map fun f => .asg (.nm i) (if tc.mu.contains x = true then .nw f else .fr f)
      | _ => if swB s.sc x p e then none else (match e with
        | .ListComp .. => (trV r s (tc.mu.contains x) e).map fun y => .asg (.nm i) y
        | _ => none)) else none
def trS (s : SI) : Nat → Stmt → Option S
  | 0, _ => none
  | n + 1, st => match st with
    | .Pass _ => some .pass
    | .Expr (.Constant (.str _) _ _) _ => some .pass
    | .Expr (.Call (.Attribute o m ap) [e] [] cp) _ => if (m == ("append" : PySem.Str)) && noSup o && (ap.endLine == cp.line) && nst e then (r.e s o).bind fun x => (r.e s e).map fun y => .app x y else none
    | .Expr e _ => if notComp e then (r.e s e).map .ex else none
    | .Return none _ => some .retn
    | .Return (some e) _ => if tc.rc then (trV r s true e).map .retc else (r.e s e).map .ret
    | .If c a b _ => (r.t s c).bind fun z => (trSs (trS s n) a).bind fun x => (trSs (trS s n) b).map fun y => .ife z x y
    | .For tg iter body [] _ => if notSet iter then (r.i s tg iter).bind fun ir => (trTg tc s.raw tg).bind fun t => (trSs (trS s n) body).map fun b => .fr t ir b else none
    | .While c body [] _ => (r.t s c).bind fun z => (trSs (trS s n) body).map fun b => .wh z b
    | .Raise (some (.Call (.Name x _) [.Constant (.str _) _ _] [] _)) none _ => if isGl s.sc x && okName x then (tc.cls.lookup x).map .rai else none
    | .Assign [.Name x p] e _ => trAsgN tc r s x p e
    | .Assign [.Tuple ts _ _] (.Tuple vs _ _) _ => trPar tc r s ts vs
    | .Assign [.Tuple ts _ _] e _ => if isTupE e then none else (trNms tc s.raw ts).bind fun is => (r.e s e).map fun x => .asg (.tp is) x
    | .Assign [.Subscript o k _] e _ => if isSl k then none else (r.e s e).bind fun x => (r.e s o).bind fun y => (r.e s k).map fun z => if isDv tc o then .dput y z x else .sti y z x
    | _ => none
end
/-- what a def's context must be besides -/
structure XT (tc : TC) (X : Cx) (G : Gl) (cl : Nat → List W → Ms → R (W × Ms)) (s : SI) (Ex : XK) : Prop extends XS tc X G cl s Ex where
  kd : X.env.scope.kind = .function
  own : PassesOwn (model X.prog X.w) X.A X.env X.xe
  tk : L2N.Takes X fun cls d _ H => Ex cls d H
  cl : ∀ x c, tc.cls.lookup x = some c → X.mg x = some (.ref (G.ca c)) ∧ PySem.W.keepIn X.K (.ref (G.ca c)) = true ∧ Raises X (.ref (G.ca c)) ∧ ∃ B newId initId bmB, ExcBaseFacts B newId initId bmB ∧ PySem.W.excIn X.K (G.ca c) bmB newId = true
section
variable {tc : TC} {r : TR} {G : Gl} {cl : Nat → List W → Ms → R (W × Ms)} {X : Cx} {s : SI} {Ex : XK} {wf : Nat}
theorem trV_ok (k : ROk tc r G cl) (c : XS tc X G cl s Ex) {mu : Bool} {e : Expr} {ee : E} (h : trV r s mu e = some ee) : PE X e (tE G cl Ex ee) := by
  unfold trV at h
  split at h
  · split at h
    · rename_i f hf
      cases h
      exact d_nw (k.f c hf)
    · exact k.e c h
  · exact k.e c h
theorem trVs_all : ∀ {ms : List Bool} {es : List Expr} {ees : Es}, trVs r s ms es = some ees → es.all nst = true
  | [], [], _, _ => rfl
  | [], _ :: _, _, h => by cases h
  | _ :: _, [], _, h => by cases h
  | m :: ms, e :: es, _, h => by
    unfold trVs at h
    obtain ⟨hn, h⟩ := oi h
    obtain ⟨x, h1, h⟩ := ob h
    obtain ⟨xs, h2, rfl⟩ := om h
    rw [List.all_cons, hn, trVs_all h2]
    rfl
theorem trVs_ok (k : ROk tc r G cl) (c : XS tc X G cl s Ex) : ∀ {ms : List Bool} {es : List Expr} {ees : Es}, trVs r s ms es = some ees → PA X es (tEs G cl Ex ees)
  | [], [], _, h => by cases h; exact d_ws0
  | [], _ :: _, _, h => by cases h
  | _ :: _, [], _, h => by cases h
  | m :: ms, e :: es, _, h => by
    unfold trVs at h
    obtain ⟨hn, h⟩ := oi h
    obtain ⟨x, h1, h⟩ := ob h
    obtain ⟨xs, h2, rfl⟩ := om h
    exact d_ws hn (trV_ok k c h1) (trVs_ok k c h2)
theorem isLoc_ok (c : XS tc X G cl s Ex) {x : PySem.Str} (h : isLoc s.sc x = true) : X.env.scope.names.lookup x = some .local := by
  unfold isLoc at h
  rw [c.sc]
  split at h
  · assumption
  · cases h
theorem trParL_ok (c : XT tc X G cl s Ex) {ts vs : List Expr} {is : List Nat} {ees : Es} {kt k2 : Nat} {pt pt2 pos : Pos} {e : S} (hnm : NmOk X ts is) (ha : PA X vs (tEs G cl Ex ees)) (h : trParL s is ees ts vs = some e) : PS X (.Assign [.Tuple ts kt pt] (.Tuple vs k2 pt2) pos) (tS G cl wf Ex e) := by
  have hNd : X.N.Nodup := by rw [c.N]; exact c.nd
  unfold trParL at h
  split at h
  · rename_i x px y py a b i j
    obtain ⟨hc, h⟩ := oi h
    obtain ⟨hc, hd⟩ := an hc
    obtain ⟨hc, hij⟩ := an hc
    obtain ⟨hx, hy⟩ := an hc
    cases h
    have hi : X.N[i]? = some x := by cases hnm with | cons q _ _ => exact q
    have hj : X.N[j]? = some y := by cases hnm with | cons _ _ q => cases q with | cons q _ _ => exact q
    exact d_par2 c.calm hNd hi hj (of_decide_eq_true hij) (isLoc_ok c.toXS hx) (isLoc_ok c.toXS hy) (swP_ok c.kd (by rw [c.sc]; exact of_decide_eq_true hd)) ha
  · rename_i x px y py z pz a b e0 i j l
    obtain ⟨hc, h⟩ := oi h
    obtain ⟨hc, hd⟩ := an hc
    obtain ⟨hc, hjl⟩ := an hc
    obtain ⟨hc, hil⟩ := an hc
    obtain ⟨hc, hij⟩ := an hc
    obtain ⟨hc, hz⟩ := an hc
    obtain ⟨hx, hy⟩ := an hc
    cases h
    have hi : X.N[i]? = some x := by cases hnm with | cons q _ _ => exact q
    have hj : X.N[j]? = some y := by cases hnm with | cons _ _ q => cases q with | cons q _ _ => exact q
    have hl : X.N[l]? = some z := by cases hnm with | cons _ _ q => cases q with | cons _ _ q => cases q with | cons q _ _ => exact q
    exact d_par3 c.calm hNd hi hj hl (of_decide_eq_true hij) (of_decide_eq_true hil) (of_decide_eq_true hjl) (isLoc_ok c.toXS hx) (isLoc_ok c.toXS hy) (isLoc_ok c.toXS hz) (swP_ok c.kd (by rw [c.sc]; exact of_decide_eq_true hd)) ha
  · cases h
theorem trPar_ok (k : ROk tc r G cl) (c : XT tc X G cl s Ex) {ts vs : List Expr} {kt k2 : Nat} {pt pt2 pos : Pos} {e : S} (h : trPar tc r s ts vs = some e) : PS X (.Assign [.Tuple ts kt pt] (.Tuple vs k2 pt2) pos) (tS G cl wf Ex e) := by
  have hNd : X.N.Nodup := by rw [c.N]; exact c.nd
  unfold trPar at h
  obtain ⟨is, h1, h⟩ := ob h
  obtain ⟨ees, h2, h⟩ := ob h
  have hnm := trNms_ok (X := X) c.N c.st h1
  have ha := trVs_ok k c.toXS h2
  split at h
  · rename_i hs
    obtain ⟨hl, h⟩ := oi h
    cases h
    exact d_parU c.calm hNd c.K hnm rfl (swP_ok c.kd (by rw [c.sc]; exact hs)) (of_decide_eq_true hl) ha
  · exact trParL_ok c hnm ha h
  · cases h
theorem lc_parts (k : ROk tc r G cl) (c : XS tc X G cl s Ex) {elt tg iter : Expr} {ifs : List Expr} {scope : Scope} {pos : Pos} {f : F} (h : trF1 tc r s (.ListComp elt [⟨tg, iter, ifs, 0⟩] scope pos) = some f) :
    ∃ t ir c0 e, f = .lc e t ir c0 ((ownOf tc.N scope).map Prod.snd) ∧ PI X tg iter (tI G cl Ex ir) ∧ BlkOk X.N X.env.scope scope (ownOf tc.N scope) ∧ (∀ i ∈ t.ix, i ∈ (ownOf tc.N scope).map Prod.snd) ∧
      (∀ (sh : Shared) (H : Hp) (C : Addr) (c' : List (PySem.Str × Addr)) (fp : List Addr), PG (X.blk sh H scope (compEnvC scope c' C X.env) fp) tg (gDt X.K t)) ∧ (∀ (sh : Shared) (H : Hp) (C : Addr) (c' : List (PySem.Str × Addr)) (fp : List Addr), PTs (X.blk sh H scope (compEnvC scope c' C X.env) fp) ifs (tC' G cl F0 c0)) ∧
      (∀ (sh : Shared) (H : Hp) (C : Addr) (c' : List (PySem.Str × Addr)) (fp : List Addr), PE (X.blk sh H scope (compEnvC scope c' C X.env) fp) elt (tE G cl F0 e)) ∧ notSet iter = true := by
  unfold trF1 at h
  obtain ⟨hc, h⟩ := oi h
  obtain ⟨hb, hs⟩ := an hc
  obtain ⟨ir, h1, h⟩ := ob h
  obtain ⟨t, h2, h⟩ := ob h
  obtain ⟨c0, h3, h⟩ := ob h
  obtain ⟨e, h4, h⟩ := ob h
  obtain ⟨hi, h⟩ := oi h
  cases h
  exact ⟨t, ir, c0, e, rfl, k.i c h1, by rw [c.N, c.sc]; exact blkOk_by hb, allIn_ok hi, fun sh H C c' fp => trTg_ok (X := X.blk sh H scope (compEnvC scope c' C X.env) fp) c.calm c.N c.nd (c.blk sh H scope C c' fp).st h2,
    fun sh H C c' fp => ifs_ok k h3 (c.blk sh H scope C c' fp), fun sh H C c' fp => k.e (c.blk sh H scope C c' fp) h4, hs⟩
theorem setLc_ok {n : Nat} (c : XT tc X G cl s Ex) {x : PySem.Str} {i : Nat} {p pos lp : Pos} {elt : Expr} {tg iter : Expr} {ifs : List Expr} {scope : Scope} {f : F} {b : Bool} (hi : X.N[i]? = some x) (hst : StOk X x) (h3 : (tr tc n).f s (.ListComp elt [⟨tg, iter, ifs, 0⟩] scope lp) = some f) :
    PS X (.Assign [.Name x p] (.ListComp elt [⟨tg, iter, ifs, 0⟩] scope lp) pos) (tS G cl wf Ex (.asg (.nm i) (if b = true then .nw f else .fr f))) := by
  have hNd : X.N.Nodup := by rw [c.N]; exact c.nd
  have k := tr_ok tc G cl n
  cases hsw : swB X.env.scope x p (.ListComp elt [⟨tg, iter, ifs, 0⟩] scope lp) with
  | false =>
    refine d_set hNd hi hst ((swB_lc c.kd).trans (by rw [hsw])) ?_
    split
    · exact d_nw (k.f c.toXS h3)
    · exact d_fr (k.f c.toXS h3)
  | true =>
    cases n with
    | zero => cases h3
    | succ n =>
      obtain ⟨t, ir, c0, e, rfl, q1, q2, q3, q4, q5, q6, q7⟩ := lc_parts (pos := lp) (tr_ok tc G cl n) c.toXS (show trF1 tc (tr tc n) s (.ListComp elt [⟨tg, iter, ifs, 0⟩] scope lp) = some f from h3)
      have hl : X.env.scope.names.lookup x = some .local := by
        have w := (an (an (show (((X.env.scope.names.lookup x == some .local) && _) && _) = true from hsw)).1).1
        exact beq_iff_eq.mp w
      exact d_setLc c.calm hNd c.K hi hl ((swB_lc c.kd).trans (by rw [hsw])) q1 q2 q3 q4 q5 q6 q7
theorem trAsgN_ok {n : Nat} (c : XT tc X G cl s Ex) {x : PySem.Str} {p pos : Pos} {e : Expr} {st : S} (h : trAsgN tc (tr tc n) s x p e = some st) : PS X (.Assign [.Name x p] e pos) (tS G cl wf Ex st) := by
  have hNd : X.N.Nodup := by rw [c.N]; exact c.nd
  have k := tr_ok tc G cl n
  unfold trAsgN at h
  obtain ⟨h1, h⟩ := oi h
  obtain ⟨i, h2, h⟩ := ob h
  have hi : X.N[i]? = some x := by rw [c.N]; exact slot_ok h2
  have hst := c.st _ h1
  split at h
  · rename_i hn
    obtain ⟨y, h3, rfl⟩ := om h
    exact d_set hNd hi hst (sw_plain hn) (trV_ok k c.toXS h3)
  · split at h
    · obtain ⟨f, h3, rfl⟩ := om h
      exact setLc_ok c hi hst h3
    · split at h
      · cases h
      · rename_i hsw
        split at h
        · obtain ⟨y, h3, rfl⟩ := om h
          refine d_set hNd hi hst ((swB_lc c.kd).trans ?_) (trV_ok k c.toXS h3)
          rw [c.sc]
          congr 1
          simpa using hsw
        · cases h
theorem trSs_ok {f : Stmt → Option S} (hf : ∀ st e, f st = some e → PS X st (tS G cl wf Ex e)) : ∀ {ss : List Stmt} {es : Ss}, trSs f ss = some es → PSs X ss (tSs G cl wf Ex es)
  | [], _, h => by cases h; exact d_ss0
  | s :: ss, _, h => by
    unfold trSs at h
    obtain ⟨xs, h2, rfl⟩ := om h
    refine d_ss ?_ (trSs_ok hf h2)
    cases h1 : f s with
    | some x => exact hf _ _ h1
    | none => exact d_bad
theorem trS_ok {m : Nat} (c : XT tc X G cl s Ex) : ∀ (n : Nat) (st : Stmt) (e : S), trS tc (tr tc m) s n st = some e → PS X st (tS G cl wf Ex e)
  | 0, _, _, h => by cases h
  | n + 1, st, e, h => by
    have hNd : X.N.Nodup := by rw [c.N]; exact c.nd
    have k := tr_ok tc G cl m
    have ih : ∀ {ss : List Stmt} {es : Ss}, trSs (trS tc (tr tc m) s n) ss = some es → PSs X ss (tSs G cl wf Ex es) := fun h => trSs_ok (trS_ok c n) h
    unfold trS at h
    split at h
    · cases h; exact d_pass
    · cases h; exact d_doc
    · rename_i o mm ap e0 cp pos
      obtain ⟨hc, h⟩ := oi h
      obtain ⟨hc, hn⟩ := an hc
      obtain ⟨hc, hl⟩ := an hc
      obtain ⟨hm, hs⟩ := an hc
      obtain ⟨x, h1, h⟩ := ob h
      obtain ⟨y, h2, rfl⟩ := om h
      rw [seqe hm]
      exact d_app (nosup hs) hl hn (k.e c.toXS h1) (k.e c.toXS h2)
    · obtain ⟨hn, h⟩ := oi h
      obtain ⟨x, h1, rfl⟩ := om h
      exact d_ex (sw_plain hn) (k.e c.toXS h1)
    · cases h; exact d_retn
    · split at h
      · obtain ⟨x, h1, rfl⟩ := om h
        exact d_retc (trV_ok k c.toXS h1)
      · obtain ⟨x, h1, rfl⟩ := om h
        exact d_ret (k.e c.toXS h1)
    · obtain ⟨z, h1, h⟩ := ob h
      obtain ⟨x, h2, h⟩ := ob h
      obtain ⟨y, h3, rfl⟩ := om h
      exact d_if (k.t c.toXS h1) (ih h2) (ih h3)
    · obtain ⟨hn, h⟩ := oi h
      obtain ⟨ir, h1, h⟩ := ob h
      obtain ⟨t, h2, h⟩ := ob h
      obtain ⟨b, h3, rfl⟩ := om h
      exact d_for c.own c.calm c.K (k.i c.toXS h1) (trTg_ok c.calm c.N c.nd c.st h2) (ih h3) hn
    · obtain ⟨z, h1, h⟩ := ob h
      obtain ⟨b, h3, rfl⟩ := om h
      exact d_while c.own (k.t c.toXS h1) (ih h3)
    · obtain ⟨hc, h⟩ := oi h
      obtain ⟨hg, hn⟩ := an hc
      obtain ⟨n1, n2, n3⟩ := okName_ok hn
      obtain ⟨cc, h1, rfl⟩ := om h
      obtain ⟨q1, q2, q3, B, ni, ii, bm, q4, q5⟩ := c.cl _ _ h1
      exact d_rai c.calm c.tk q4 q5 q1 q2 q3 (isGl_ok c.toXS hg) n1
    · exact trAsgN_ok c h
    · exact trPar_ok k c h
    · rename_i ts kt pt e0 pos nt
      split at h
      · cases h
      · rename_i ht
        obtain ⟨is, h1, h⟩ := ob h
        obtain ⟨x, h2, rfl⟩ := om h
        refine d_unp c.calm c.K (d_tgTup c.calm hNd (trNms_ok c.N c.st h1)) (show swapsWith e0 (some (.Tuple ts kt pt)) pos.line X.env = pure false from sw_other (fun _ _ e => by cases e)) (sw_none (by simpa using ht)) rfl (k.e c.toXS h2)
    · rename_i o ke p e0 pos
      split at h
      · cases h
      · rename_i hk
        obtain ⟨x, h1, h⟩ := ob h
        obtain ⟨y, h2, h⟩ := ob h
        obtain ⟨z, h3, rfl⟩ := om h
        split
        · exact d_dput c.K c.w c.un (sw_other fun _ _ e => by cases e) (k.e c.toXS h1) (k.e c.toXS h2) (k.e c.toXS h3)
        · refine d_sti (fun v => ?_) (sw_other fun _ _ e => by cases e) (k.e c.toXS h1) (k.e c.toXS h2) (k.e c.toXS h3)
          cases ke <;> first | rfl | exact absurd rfl hk
    · cases h
end
end PyD

set_option Elab.async false
set_option linter.all false
set_option maxRecDepth 100000
set_option maxHeartbeats 4000000
/-! PyD15: all defs of a text keep what the small language tells of them, by fuel. -/
namespace PyD
open PySem PySem.Spec PyProof.Rows L2
/-- a def in the small language -/
structure Def where
  np : Nat
  nN : Nat
  body : Ss
  ps : List Str := []
/-- what a call gives back: the cells made within are let go, but the one that is returned -/
def retD (n : Nat) (w : W) (M : Ms) : R (W × Ms) := match w with
  | .d x => .ok (.d x, M.take n)
  | .c i => if i < n then .ok (.c i, M.take n) else (match M[i]? with
    | some c => .ok (.c n, M.take n ++ [c])
    | none => .stuck)
def retM (n : Nat) : R ((Fl × Env) × Ms) → R (W × Ms)
  | .ok ((.nx, _), M) => .ok (.d .non, M.take n)
  | .ok ((.rt w, _), M) => retD n w M
  | .exc c M => .exc c (M.take n)
  | .stuck => .stuck
def startD (nN : Nat) (ws : List W) : Env := ws.map some ++ List.replicate (nN - ws.length) none
def callD (defs : Nat → Option Def) (wf : Nat) : Nat → Nat → List W → Ms → R (W × Ms)
  | 0, _, _, _ => .stuck
  | k + 1, i, ws, M => match defs i with
    | none => .stuck
    | some d => if ws.length = d.np then retM M.length (evSs (callD defs wf k) wf d.body (startD d.nN ws) M) else .stuck
/-- what must be known of a module: its values by name -/
structure Mo (P : Program) (w : World) (K : PySem.W.Frag) (mg : PySem.Str → Option Value) (base : Heap) (G : Gl) (fns cls : List (PySem.Str × Nat)) (con : List (PySem.Str × D)) (enm : List PySem.Str) (defs : Nat → Option Def) : Prop where
  eK : K = G.K
  ew : w = G.w
  nof : ∀ j, (∃ x, fns.lookup x = some j) ∨ defs j = none
  fn : ∀ x i, fns.lookup x = some i → mg x = some (.ref (G.fa i)) ∧ PySem.W.keepIn K (.ref (G.fa i)) = true ∧ ∃ (st : Stmt) (qual : PySem.Str) (fd : FuncData) (ps : List PySem.Str) (tc : TC) (d : Def) (n m : Nat) (nm : PySem.Str) (la : Bool),
    FunD K nm qual (defArgs st) (defBody st) (defScope st) [] [] (G.fa i) fd ∧ Binds K fd ps [] ∧ FnScope tc.N ps (defScope st) ∧ tc.fns = fns ∧ tc.cls = cls ∧ tc.con = con ∧ tc.enm = enm ∧ defs i = some d ∧ d.ps = ps ∧ d.np = ps.length ∧ d.nN = tc.N.length ∧
      trSs (trS tc (tr tc m) ⟨defScope st, defScope st, la⟩ n) (defBody st) = some d.body ∧
      (la = true → LE K mg G enm ∧ ∃ c P, LamX.TabB base mg c P ∧ fd.code = .ref c ∧ (P, (envOfC qual (defScope st) 0 (G.fa i) (.ref c)).qual ++ "<lambda>") ∈ G.T ∧ ∀ p ∈ G.T, p.1 = P → p.2 = (envOfC qual (defScope st) 0 (G.fa i) (.ref c)).qual ++ "<lambda>")
  con : ∀ x d, con.lookup x = some d → ∃ u v, mg x = some u ∧ RelV v u ∧ (∀ Z, Rp G Z d v) ∧ NoDc K v
  bi : ∀ x ∈ (["len", "int", "abs", "max", "min", "sum", "tuple", "str", "bool", "list", "range", "enumerate", "zip", "isinstance", "dict"] : List PySem.Str), mg x = none
  cl : ∀ x c, cls.lookup x = some c → mg x = some (.ref (G.ca c)) ∧ PySem.W.keepIn K (.ref (G.ca c)) = true ∧ PySem.W.subIn K (.ref (G.ca c)) (.type "BaseException") = some true ∧ PySem.W.typeIn K (.ref (G.ca c)) = some (.type "type") ∧
    ∃ B newId initId bmB, ExcBaseFacts B newId initId bmB ∧ PySem.W.excIn K (G.ca c) bmB newId = true
section
variable {G : Gl} {α α' : List Addr} {M M' : Ms} {Z Z' H H' : Hp}
/-- the cells beyond n are let go, but the i-th -/
theorem SR.keep1 (S : SR G α M Z H) {n i : Nat} {a : Addr} {c : C} (hn : n ≤ i) (h1 : M[i]? = some c) (h2 : α[i]? = some a) : SR G (α.take n ++ [a]) (M.take n ++ [c]) Z H := by
  have hi : i < M.length := (List.getElem?_eq_some_iff.mp h1).1
  have lM : (M.take n).length = n := by rw [List.length_take]; omega
  have lA : (α.take n).length = n := by rw [List.length_take, S.len]; omega
  have old : ∀ (j : Nat) (e : C) (b : Addr), (M.take n ++ [c])[j]? = some e → (α.take n ++ [a])[j]? = some b → (j < n ∧ M[j]? = some e ∧ α[j]? = some b) ∨ (j = n ∧ e = c ∧ b = a) := fun j e b q1 q2 => by
    by_cases hj : j < n
    · rw [List.getElem?_append_left (by omega), List.getElem?_take_of_lt hj] at q1
      rw [List.getElem?_append_left (by omega), List.getElem?_take_of_lt hj] at q2
      exact .inl ⟨hj, q1, q2⟩
    · have hl := (List.getElem?_eq_some_iff.mp q1).1
      rw [List.length_append, lM] at hl
      have e1 : j = n := by simp at hl; omega
      subst e1
      rw [List.getElem?_append_right (by omega), lM] at q1
      rw [List.getElem?_append_right (by omega), lA] at q2
      simp at q1 q2
      exact .inr ⟨rfl, q1.symm, q2.symm⟩
  refine ⟨S.sub, by rw [List.length_append, List.length_append, lM, lA]; rfl, fun j e b q1 q2 q3 => ?_, fun j k e f b q1 q2 q3 q4 q5 q6 => ?_, fun j ds b q1 q2 => ?_, S.tabs, S.ztab⟩
  · rcases old j e b q1 q3 with ⟨_, r1, r2⟩ | ⟨_, rfl, rfl⟩
    · exact S.cell j e b r1 q2 r2
    · exact S.cell i _ _ h1 q2 h2
  · rcases old j e b q1 q5 with ⟨j1, r1, r2⟩ | ⟨j1, r1, r2⟩
    · rcases old k f b q3 q6 with ⟨k1, s1, s2⟩ | ⟨k1, s1, s2⟩
      · exact S.inj j k e f b r1 q2 s1 q4 r2 s2
      · subst s1 s2
        have := S.inj j i e _ _ r1 q2 h1 q4 r2 h2
        omega
    · rcases old k f b q3 q6 with ⟨k1, s1, s2⟩ | ⟨k1, s1, s2⟩
      · subst r1 r2
        have := S.inj i k _ f _ h1 q2 s1 q4 h2 s2
        omega
      · omega
  · rcases old j _ b q1 q2 with ⟨_, r1, r2⟩ | ⟨_, r1, rfl⟩
    · exact S.fro j ds b r1 r2
    · subst r1; exact S.fro i ds _ h1 h2
theorem Ext.keep1 {α1 : List Addr} {M1 : Ms} {Z1 H1 : Hp} (x : Ext α M Z H α1 M1 Z1 H1) {n i : Nat} {a : Addr} {c : C} (hn : α.length ≤ n) (hni : n ≤ i) (h1 : M1[i]? = some c) (h2 : α1[i]? = some a) (hl : α1.length = M1.length) : Ext α M Z H (α1.take n ++ [a]) (M1.take n ++ [c]) Z1 H1 := by
  have hi : i < M1.length := (List.getElem?_eq_some_iff.mp h1).1
  have lM : (M1.take n).length = n := by rw [List.length_take]; omega
  have lA : (α1.take n).length = n := by rw [List.length_take, hl]; omega
  refine ⟨x.same, ?_, x.keep, fun b l => ?_, x.dom, x.zold⟩
  · obtain ⟨β, e⟩ := x.pre
    refine ⟨β.take (n - α.length) ++ [a], ?_⟩
    rw [e, List.take_append, List.take_of_length_le hn, List.append_assoc]
  · obtain ⟨j, e, q1, q2, q3⟩ := l
    refine x.live b ?_
    by_cases hj : j < n
    · rw [List.getElem?_append_left (by omega), List.getElem?_take_of_lt hj] at q1
      rw [List.getElem?_append_left (by omega), List.getElem?_take_of_lt hj] at q3
      exact ⟨j, e, q1, q2, q3⟩
    · have hl2 := (List.getElem?_eq_some_iff.mp q1).1
      rw [List.length_append, lM] at hl2
      have e1 : j = n := by simp at hl2; omega
      subst e1
      rw [List.getElem?_append_right (by omega), lM] at q1
      rw [List.getElem?_append_right (by omega), lA] at q3
      simp at q1 q3
      subst q1 q3
      exact ⟨i, c, h1, q2, h2⟩
theorem ret_post {E : XK} {r : R ((Fl × Env) × Ms)} {Q : VK} (S0 : SR G α M Z H) (P : Post G E α M Z H (retM M.length r) fun w α' _ Z' H' => ∀ v, RpW G α' Z' w v → Q v H') :
    Post G E α M Z H r (endK G { nx := fun _ H' => Q .non H', rt := Q }) := by
  have hl : α.length ≤ M.length := Nat.le_of_eq S0.len
  match r, P with
  | .ok ((.nx, ρ), M'), P => exact fun α' Z' H' x S σ' _ => P (α'.take M.length) Z' H' (x.cut hl) (S.cut M.length) .non Rp.non
  | .ok ((.rt (.d y), ρ), M'), P => exact fun α' Z' H' x S v rv => P (α'.take M.length) Z' H' (x.cut hl) (S.cut M.length) v rv
  | .ok ((.rt (.c i), ρ), M'), P =>
    intro α' Z' H' x S v rv
    obtain ⟨a, ha, rfl⟩ := rv
    have P : Post G E α M Z H (if i < M.length then R.ok (W.c i, M'.take M.length) else (match M'[i]? with
      | some c => .ok (W.c M.length, M'.take M.length ++ [c])
      | none => .stuck)) (fun w α' _ Z' H' => ∀ v, RpW G α' Z' w v → Q v H') := P
    by_cases hi : i < M.length
    · rw [if_pos hi] at P
      exact P (α'.take M.length) Z' H' (x.cut hl) (S.cut M.length) (.ref a) ⟨a, by rw [List.getElem?_take_of_lt hi]; exact ha, rfl⟩
    · rw [if_neg hi] at P
      cases q : M'[i]? with
      | none => rw [q] at P; exact P.elim
      | some c =>
        rw [q] at P
        have hl' : α'.length = M'.length := S.len
        refine P (α'.take M.length ++ [a]) Z' H' (x.keep1 hl (by omega) q ha hl') (S.keep1 (by omega) q ha) (.ref a) ⟨a, ?_, rfl⟩
        have hi2 : i < M'.length := (List.getElem?_eq_some_iff.mp q).1
        rw [List.getElem?_append_right (by rw [List.length_take]; omega), List.length_take, hl']
        have : M.length - min M.length M'.length = 0 := by omega
        rw [this]
        rfl
  | .exc c M', P => exact fun α' Z' H' x S => P (α'.take M.length) Z' H' (x.cut hl) (S.cut M.length)
  | .stuck, P => exact P.elim
theorem er_start {N : List PySem.Str} : ∀ {ws : List W} {vs : List V}, RpWs G α Z ws vs → ER G α Z (startD N.length ws) (L2.start N vs) := by
  intro ws vs r
  have hl := r.length
  refine ⟨by unfold startD L2.start; simp [hl], fun i w q => ?_⟩
  unfold startD at q
  unfold L2.start
  by_cases hi : i < ws.length
  · rw [List.getElem?_append_left (by simpa using hi), List.getElem?_map] at q
    rw [List.getElem?_append_left (by simpa [← hl] using hi), List.getElem?_map]
    have go : ∀ {ws : List W} {vs : List V} {i : Nat} {w : W}, RpWs G α Z ws vs → ws[i]? = some w → ∃ v, vs[i]? = some v ∧ RpW G α Z w v := by
      intro ws vs i w r
      induction r generalizing i with
      | nil => intro h; simp at h
      | cons h hs ih =>
        intro q
        cases i with
        | zero => simp at q; subst q; exact ⟨_, rfl, h⟩
        | succ i => simpa using ih (by simpa using q)
    cases e : ws[i]? with
    | none => rw [e] at q; cases q
    | some y =>
      rw [e] at q
      cases q
      obtain ⟨v, h1, h2⟩ := go r e
      exact ⟨v, by rw [h1]; rfl, h2⟩
  · rw [List.getElem?_append_right (by simpa using hi)] at q
    exfalso
    have := List.getElem?_eq_some_iff.mp q
    obtain ⟨_, e⟩ := this
    simp at e
end
section
variable {P : Program} {w : World} {K : PySem.W.Frag} {mg : PySem.Str → Option Value} {base : Heap} {G : Gl} {fns cls : List (PySem.Str × Nat)} {con : List (PySem.Str × D)} {enm : List PySem.Str} {defs : Nat → Option Def} {wf : Nat}
theorem all_ok (mo : Mo P w K mg base G fns cls con enm defs) : ∀ (k : Nat) (x : PySem.Str) (i : Nat), fns.lookup x = some i → ∃ fd ps d oc od osl, defs i = some d ∧ d.ps = ps ∧ K.lookup (G.fa i) = some ⟨oc, od, .func fd, osl⟩ ∧ FnOk P w K mg base (L2N.CX P w) (3 * k) (G.fa i) fd ps (spD G (callD defs wf k i)) ∧ Binds K fd ps []
  | 0, x, i, h => by
    obtain ⟨_, _, st, qual, fd, ps, tc, d, n, m, nm, la, F, B, _, _, _, _, _, ed, eps, _⟩ := mo.fn x i h
    obtain ⟨oc, od, dV, kV, doc, pm, ann, cdv, ct, osl, -, lk, -⟩ := F.ex
    exact ⟨fd, ps, d, oc, od, osl, ed, eps, lk, ⟨fun vs H Q E ⟨_, _, _, _, _, _, q⟩ => q.elim, fun A outer s H args us vs Q E _ _ _ _ ⟨_, _, _, _, _, _, q⟩ => q.elim⟩, B⟩
  | k + 1, x, i, h => by
    obtain ⟨_, _, st, qual, fd, ps, tc, d, n, m, nm, la, F, B, S, ef, ec, eo, en, ed, eps, enp, enN, ht, hla⟩ := mo.fn x i h
    have ih := all_ok mo k
    have inv : ∀ (vs : List V) (H : Hp) (Q : VK) (E : XK), spD G (callD defs wf (k + 1) i) vs H Q E → ∃ ws α M Z, ws.length = d.np ∧ SR G α M Z H ∧ RpWs G α Z ws vs ∧ Post G E α M Z H (retM M.length (evSs (callD defs wf k) wf d.body (startD d.nN ws) M)) fun w α' M' Z' H' => ∀ v, RpW G α' Z' w v → Q v H' := by
      intro vs H Q E ⟨ws, α, M, Z, S', r, q⟩
      unfold callD at q
      rw [ed] at q
      have q : Post G E α M Z H (if ws.length = d.np then retM M.length (evSs (callD defs wf k) wf d.body (startD d.nN ws) M) else .stuck) fun w α' M' Z' H' => ∀ v, RpW G α' Z' w v → Q v H' := q
      by_cases hl : ws.length = d.np
      · rw [if_pos hl] at q
        exact ⟨ws, α, M, Z, hl, S', r, q⟩
      · rw [if_neg hl] at q
        exact q.elim
    obtain ⟨oc, od, dV, kV, doc, pm, ann, cdv, ct, osl, rfl, lk, hcd, -, -⟩ := F.ex
    refine ⟨_, ps, d, oc, od, osl, ed, eps, lk, (fn_of (k := 3 * k + 2) lk hcd S (fun vs H Q E hsp => ?_) (fun A outer s H vs Q E hr hsp => ?_)).mono (by omega), B⟩
    · obtain ⟨ws, α, M, Z, hl, S', r, q⟩ := inv vs H Q E hsp
      rw [← r.length, hl, enp]
    · obtain ⟨ws, α, M, Z, hl, S', r, q⟩ := inv vs H Q E hsp
      have tk : L2N.Takes (cxOf (L2N.CX P w) P w K mg base tc.N qual (defScope st) (G.fa i) cdv A outer s H E) fun cls d _ H => E cls d H := L2N.takes_of rfl rfl rfl rfl
      have ct : XT tc (cxOf (L2N.CX P w) P w K mg base tc.N qual (defScope st) (G.fa i) cdv A outer s H E) G (callD defs wf k) ⟨defScope st, defScope st, la⟩ E := by
        refine { N := rfl, nd := S.nd, sc := rfl, st := fun x hx => ?_, K := mo.eK, w := mo.ew, calm := rfl, un := ?_, lv := ⟨3 * k, hr.mono (by omega), fun x i hi => ?_, fun hl => ?_⟩, con := fun x d hd => mo.con x d (by rw [← eo]; exact hd), bi := mo.bi, pass := L2N.passes_call tk fun _ _ _ _ h => h, kd := S.kind, own := passes_of rfl, tk := tk, cl := fun x c hc => ?_, cln := fun j => ?_ }
        · unfold isSt at hx
          refine ⟨?_, .inl rfl⟩
          split at hx
          · exact .inl (by assumption)
          · exact .inr (by assumption)
          · cases hx
        · have := hr.un
          show (A.deeper _).units + 65 < cLine
          omega
        · rw [ef] at hi
          obtain ⟨q1, q2, _⟩ := mo.fn x i hi
          obtain ⟨fd', ps', _, _, _, _, _, _, _, F', B'⟩ := ih x i hi
          exact ⟨q1, q2, fd', ps', F', B'⟩
        · obtain ⟨L, c, Pt, TB, hc, q1, q2⟩ := hla hl
          have hc : cdv = .ref c := hc
          subst hc
          exact ⟨hr, by rw [en]; exact L, c, Pt, TB, rfl, q1, q2⟩
        · rw [ef]
          refine (mo.nof j).imp id fun h ws M => ?_
          cases k with
          | zero => rfl
          | succ k => unfold callD; rw [h]
        · rw [ec] at hc
          obtain ⟨q1, q2, q3, q4, q5⟩ := mo.cl x c hc
          exact ⟨q1, q2, raises_own q3 q4, q5⟩
      refine ⟨tSs G (callD defs wf k) wf E d.body, trSs_ok (trS_ok ct n) ht, startD d.nN ws, α, M, Z, S', ?_, ret_post S' q⟩
      rw [enN]
      exact er_start r
end
end PyD

set_option Elab.async false
set_option linter.all false
set_option maxRecDepth 100000
set_option maxHeartbeats 4000000
/-! PyD16: from the head's facts to what the small language must know of a module. -/
namespace PyD
open PySem PySem.Spec PyProof.Rows L2
structure Tx where
  top : Nat → Stmt
  dd : List Dd
  cl : List PySem.Str
  cls : List (PySem.Str × Nat)
  con : List (PySem.Str × D)
  enm : List PySem.Str
def Tx.fns (T : Tx) : List (PySem.Str × Nat) := T.dd.map fun d => (d.x, d.j)
def Tx.at (T : Tx) (j : Nat) : Option Dd := T.dd.find? fun d => d.j == j
theorem at_of {l : List Dd} (nd : (l.map Dd.j).Nodup) {d : Dd} (h : d ∈ l) : (l.find? fun e => e.j == d.j) = some d := by
  induction l with
  | nil => cases h
  | cons e r ih =>
    rw [List.map_cons, List.nodup_cons] at nd
    rw [List.find?_cons]
    rcases List.mem_cons.mp h with rfl | h
    · rw [show (d.j == d.j) = true from beq_self_eq_true _]
    · have ne : (e.j == d.j) = false := by
        rw [beq_eq_false_iff_ne]
        intro q
        exact nd.1 (List.mem_map.mpr ⟨d, h, q.symm⟩)
      rw [ne]
      exact ih nd.2 h
theorem lookup_mem {l : List Dd} {x : PySem.Str} {j : Nat} (h : (l.map fun d => (d.x, d.j)).lookup x = some j) : ∃ d ∈ l, d.x = x ∧ d.j = j := by
  induction l with
  | nil => cases h
  | cons e r ih =>
    rw [List.map_cons, List.lookup_cons] at h
    cases q : (x == e.x) with
    | true =>
      rw [q] at h
      cases h
      exact ⟨e, List.mem_cons_self, (eq_of_beq q).symm, rfl⟩
    | false =>
      rw [q] at h
      obtain ⟨d, h1, h2⟩ := ih h
      exact ⟨d, List.mem_cons_of_mem _ h1, h2⟩
theorem lookup_of {l : List Dd} (nd : (l.map Dd.x).Nodup) {d : Dd} (h : d ∈ l) : (l.map fun d => (d.x, d.j)).lookup d.x = some d.j := by
  induction l with
  | nil => cases h
  | cons e r ih =>
    rw [List.map_cons, List.nodup_cons] at nd
    rw [List.map_cons, List.lookup_cons]
    rcases List.mem_cons.mp h with rfl | h
    · rw [show (d.x == d.x) = true from beq_self_eq_true _]
    · have ne : (d.x == e.x) = false := by
        rw [beq_eq_false_iff_ne]
        intro q
        exact nd.1 (List.mem_map.mpr ⟨d, h, q⟩)
      rw [ne]
      exact ih nd.2 h
def nums : Nat → List PySem.Str → List (PySem.Str × Nat)
  | _, [] => []
  | i, x :: r => (x, i) :: nums (i + 1) r
theorem nums_lookup : ∀ {l : List PySem.Str} {i j : Nat} {x : PySem.Str}, (nums i l).lookup x = some j → ∃ k, j = i + k ∧ l[k]? = some x
  | [], _, _, _, h => by cases h
  | y :: r, i, j, x, h => by
    rw [nums, List.lookup_cons] at h
    cases q : (x == y) with
    | true =>
      rw [q] at h
      cases h
      exact ⟨0, rfl, by rw [eq_of_beq q]; rfl⟩
    | false =>
      rw [q] at h
      obtain ⟨k, h1, h2⟩ := nums_lookup h
      exact ⟨k + 1, by omega, by simpa using h2⟩
def Tx.tc (T : Tx) (d : Dd) : TC := ⟨d.N, T.fns, T.cls, T.con, d.mu, d.rc, T.enm, d.dv⟩
def Tx.code (T : Tx) (m n : Nat) (d : Dd) : Option Ss := trSs (trS (T.tc d) (tr (T.tc d) m) ⟨defScope (T.top d.i), defScope (T.top d.i), d.la⟩ n) (defBody (T.top d.i))
def Tx.defs (T : Tx) (m n : Nat) (i : Nat) : Option Def := (T.at i).bind fun d => (T.code m n d).map fun b => ⟨d.ps.length, d.N.length, b, d.ps⟩
def Tx.gl (T : Tx) (K : PySem.W.Frag) (w : World) (Tb : List (Addr × PySem.Str)) : Gl :=
  ⟨K, fun j => match T.at j with | some d => He.ga K d.x | none => 0, fun c => match T.cl[c]? with | some x => He.ga K x | none => 0, Tb, w⟩
def Tx.dN (T : Tx) (d : Dd) : He.DefD := ⟨(d.x, none), d.x, d.x, defArgs (T.top d.i), defBody (T.top d.i), defScope (T.top d.i), [], []⟩
def Tx.fnL (T : Tx) : List He.DefD := T.dd.map T.dN
def Tx.faL (T : Tx) : List He.Fa := T.dd.map (fun d => .glo d.x) ++ (biN.map .free ++ T.cl.flatMap fun x => [.glo x, .exc x])
def scB (N P : List PySem.Str) (sc : Scope) : Bool := decide (sc.kind = .function) && (!sc.isCoroutine && (!sc.isGenerator && (decide N.Nodup && (decide (N.take P.length = P) && ((P.all fun x => decide (sc.names.lookup x = some .local) || decide (sc.names.lookup x = some .cell)) && sc.names.all fun y => !decide (y.2 = .free))))))
theorem scB_ok {N P : List PySem.Str} {sc : Scope} (h : scB N P sc = true) : FnScope N P sc := by
  unfold scB at h
  simp only [Bool.and_eq_true, decide_eq_true_eq, List.all_eq_true, Bool.or_eq_true, Bool.not_eq_true', decide_eq_false_iff_not] at h
  obtain ⟨h1, h2, h3, h4, h5, h6, h7⟩ := h
  exact ⟨h1, h2, h3, h4, h5, h6, h7⟩
def BndOk (T : Tx) (d : Dd) : Prop := ∀ (kV doc pm : Value) (an : Option Addr) (cdv ct : Value) (us : List Value), us.length = d.ps.length →
  bindArgs (PySem.W.fnOf d.x d.x (defArgs (T.top d.i)) (defBody (T.top d.i)) (defScope (T.top d.i)) .none kV doc pm an cdv ct) ⟨us, []⟩ = pure (d.ps.zip us)
/-- what is seen of the text alone -/
structure TxOk (T : Tx) (m n : Nat) : Prop where
  nd : (T.dd.map Dd.j).Nodup
  ndx : (T.dd.map Dd.x).Nodup
  cls : T.cls = nums 0 T.cl
  sc : (T.dd.all fun d => scB d.N d.ps (defScope (T.top d.i))) = true
  code : (T.dd.all fun d => (T.code m n d).isSome) = true
  bnd : ∀ d ∈ T.dd, BndOk T d
section
variable {T : Tx} {m n : Nat} {fa : List He.Fa} {fn : List He.DefD} {ts : List He.Tab} {tf : List He.Defn} {ex : PySem.W.Frag → Bool} {w : World} {h base : Heap} {K : PySem.W.Frag} {mg : PySem.Str → Option Value} {P : Program}
theorem says_fact (c : He.SaysX fa fn ts tf ex w h K) {f : He.Fa} (hf : f ∈ fa) : f.ok K = true := by
  obtain ⟨i, hi, e⟩ := List.mem_iff_getElem.mp hf
  exact c.t.d.fact i (by rw [List.getElem?_eq_getElem hi, e])
theorem says_def (c : He.SaysX fa fn ts tf ex w h K) {d : He.DefD} (hd : d ∈ fn) : ∃ fd, FunD K d.name d.qual d.params d.body d.scope (d.dvs K) (d.kws K) (He.fAd K d.at_) fd := by
  obtain ⟨i, hi, e⟩ := List.mem_iff_getElem.mp hd
  exact c.t.d.def_ i (by rw [List.getElem?_eq_getElem hi, e])
/-- all but the lambdas' tables and the module's constants -/
theorem mo_of (ok : TxOk T m n) (c : He.SaysX fa fn ts tf ex w h K) (X : K.In base) (Nb : base.Ns mainGlobals mg) (hfa : ∀ f ∈ T.faL, f ∈ fa) (hfn : ∀ d ∈ T.fnL, d ∈ fn) (Tb : List (Addr × PySem.Str))
    (con : ∀ x d, T.con.lookup x = some d → ∃ u v, mg x = some u ∧ RelV v u ∧ (∀ Z, Rp (T.gl K w Tb) Z d v) ∧ NoDc K v)
    (hla : ∀ (j : Nat) (d : Dd) (fd : FuncData), T.at j = some d → d.la = true → FunD K d.x d.x (defArgs (T.top d.i)) (defBody (T.top d.i)) (defScope (T.top d.i)) [] [] (He.ga K d.x) fd →
      LE K mg (T.gl K w Tb) T.enm ∧ ∃ c P, LamX.TabB base mg c P ∧ fd.code = .ref c ∧ (P, (envOfC d.x (defScope (T.top d.i)) 0 (He.ga K d.x) (.ref c)).qual ++ "<lambda>") ∈ Tb ∧ ∀ p ∈ Tb, p.1 = P → p.2 = (envOfC d.x (defScope (T.top d.i)) 0 (He.ga K d.x) (.ref c)).qual ++ "<lambda>") :
    Mo P w K mg base (T.gl K w Tb) T.fns T.cls T.con T.enm (T.defs m n) := by
  refine { eK := rfl, ew := rfl, nof := fun j => ?_, fn := fun x j hx => ?_, con := con, bi := fun x hx => ?_, cl := fun x j hx => ?_ }
  · cases hj : T.at j with
    | none => exact .inr (by unfold Tx.defs; rw [hj]; rfl)
    | some d =>
      have hm : d ∈ T.dd := List.mem_of_find?_eq_some hj
      have hjj : d.j = j := by simpa using List.find?_some hj
      exact .inl ⟨d.x, by rw [← hjj]; exact lookup_of ok.ndx hm⟩
  · obtain ⟨d, hm, rfl, rfl⟩ := lookup_mem hx
    have hd : T.at d.j = some d := at_of ok.nd hm
    have gfa : (T.gl K w Tb).fa d.j = He.ga K d.x := by
      show (match T.at d.j with | some d => He.ga K d.x | none => 0) = _
      rw [hd]
    have g := He.glo_ok X Nb (says_fact c (hfa (.glo d.x) (List.mem_append_left _ (List.mem_map.mpr ⟨d, hm, rfl⟩))))
    obtain ⟨fd, F⟩ := says_def c (hfn (T.dN d) (List.mem_map.mpr ⟨d, hm, rfl⟩))
    have F : FunD K d.x d.x (defArgs (T.top d.i)) (defBody (T.top d.i)) (defScope (T.top d.i)) [] [] (He.ga K d.x) fd := F
    have hs := List.all_eq_true.mp ok.code d hm
    obtain ⟨b, hb⟩ := Option.isSome_iff_exists.mp hs
    rw [gfa]
    refine ⟨g, F.kp, T.top d.i, d.x, fd, d.ps, T.tc d, ⟨d.ps.length, d.N.length, b, d.ps⟩, n, m, d.x, d.la, F, F.bindsN (ok.bnd d hm), scB_ok (List.all_eq_true.mp ok.sc d hm), rfl, rfl, rfl, rfl, ?_, rfl, rfl, rfl, hb, fun hl => hla d.j d fd hd hl F⟩
    unfold Tx.defs
    rw [hd]
    show (T.code m n d).map _ = _
    rw [hb]
    rfl
  · exact He.free_ok X Nb (says_fact c (hfa (.free x) (List.mem_append_right _ (List.mem_append_left _ (List.mem_map.mpr ⟨x, hx, rfl⟩)))))
  · rw [ok.cls] at hx
    obtain ⟨k, rfl, h2⟩ := nums_lookup hx
    rw [Nat.zero_add]
    have hm := List.mem_of_getElem? h2
    have gca : (T.gl K w Tb).ca k = He.ga K x := by
      show (match T.cl[k]? with | some x => He.ga K x | none => 0) = _
      rw [h2]
    rw [gca]
    have g := He.glo_ok X Nb (says_fact c (hfa (.glo x) (List.mem_append_right _ (List.mem_append_right _ (List.mem_flatMap.mpr ⟨x, hm, List.mem_cons_self⟩)))))
    obtain ⟨q1, q2, q3, q4⟩ := He.exc_ok (says_fact c (hfa (.exc x) (List.mem_append_right _ (List.mem_append_right _ (List.mem_flatMap.mpr ⟨x, hm, List.mem_cons_of_mem _ List.mem_cons_self⟩)))))
    exact ⟨g, q2, q3, q4, _, _, _, _, PySem.F.excBase_ValueError, q1⟩
end
end PyD

set_option Elab.async false
set_option linter.all false
set_option maxRecDepth 100000
set_option maxHeartbeats 4000000
/-! PyD17: the end: from a law of the small language to what is asked of the law's def at the head. -/
namespace PyD
open PySem PySem.Spec PyProof.Rows L2
def noTab : HO → Bool
  | .tbl _ => false
  | _ => true
/-- all that stands there, but the tables -/
def cutT (H : Hp) : Hp := fun a => (H a).filter noTab
theorem cutT_some {H : Hp} {a : Addr} {o : HO} (h : cutT H a = some o) : H a = some o := by
  unfold cutT at h
  exact (Option.filter_eq_some_iff.mp h).1
theorem cutT_of {H : Hp} {a : Addr} {o : HO} (h : H a = some o) (n : noTab o = true) : cutT H a = some o := by
  unfold cutT
  exact Option.filter_eq_some_iff.mpr ⟨h, n⟩
theorem start_SR {G : Gl} {H : Hp} (t : LamX.Tabs G.T H) : SR G [] [] (cutT H) H where
  sub a o h := cutT_some h
  len := rfl
  cell i c a h := by simp at h
  inj i j c e a h := by simp at h
  fro i ds a h := by simp at h
  tabs := t
  ztab a ps h := by
    unfold cutT at h
    have := (Option.filter_eq_some_iff.mp h).2
    cases this
theorem scr_cut {K : PySem.W.Frag} {H : Hp} {a : Addr} {xs : List V} (h : SqL K H a xs) : SqL K (cutT H) a xs := by
  rcases h with (h | ⟨o, h⟩) | h
  · exact .inl (.inl (cutT_of h rfl))
  · exact .inl (.inr ⟨o, cutT_of h rfl⟩)
  · exact .inr h
/-- what the small language tells of the law is what is asked -/
theorem law_sp {G : Gl} {cl : List W → Ms → R (W × Ms)} {ns : List Int} {H : Hp} {a : Addr} (t : LamX.Tabs G.T H) (hS : SqL G.K H a (ns.map V.int)) (hl : ∃ M', cl [.d (.scr ns)] [] = .ok (.d (.bl true), M')) :
    spD G cl [.ref a] H (fun v _ => v = .bl true) fun _ _ _ => False := by
  obtain ⟨M', e⟩ := hl
  refine ⟨[.d (.scr ns)], [], [], cutT H, start_SR t, .cons (.scr (scr_cut hS)) .nil, ?_⟩
  rw [e]
  intro α' Z' H' _ _ v r
  cases (show Rp G Z' (.bl true) v from r)
  rfl
theorem nodup_inj {α β : Type} {f : α → β} : ∀ {l : List α}, (l.map f).Nodup → ∀ {a b : α}, a ∈ l → b ∈ l → f a = f b → a = b
  | [], _, _, _, h, _, _ => by cases h
  | x :: r, n, a, b, ha, hb, e => by
    rw [List.map_cons, List.nodup_cons] at n
    rcases List.mem_cons.mp ha with q | qa
    · rcases List.mem_cons.mp hb with q' | qb
      · rw [q, q']
      · rw [← q, e] at n
        exact (n.1 (List.mem_map.mpr ⟨b, qb, rfl⟩)).elim
    · rcases List.mem_cons.mp hb with q' | qb
      · rw [← q', ← e] at n
        exact (n.1 (List.mem_map.mpr ⟨a, qa, rfl⟩)).elim
      · exact nodup_inj n.2 qa qb e
def Tx.las (T : Tx) : List Dd := T.dd.filter Dd.la
def Tx.tfL (T : Tx) : List He.Defn := T.las.map fun d => (d.x, none)
def lamQ (d : Dd) : PySem.Str := d.x ++ ".<locals>." ++ "<lambda>"
def Tx.tb (T : Tx) (K : PySem.W.Frag) : List (Addr × PySem.Str) := T.las.map fun d => ((He.cT K (d.x, none)).2, lamQ d)
/-- the defs' tables are others -/
def Tx.dis (T : Tx) (K : PySem.W.Frag) : Bool := decide (T.las.map fun d => (He.cT K (d.x, none)).2).Nodup
section
variable {T : Tx} {m n : Nat} {fa : List He.Fa} {fn : List He.DefD} {ts : List He.Tab} {ex : PySem.W.Frag → Bool} {w : World} {h : Heap} {K : PySem.W.Frag} {mg : PySem.Str → Option Value}
theorem law_at {l : PySem.W.OpenLaw} {wf kk j : Nat} {f : Addr} {dL : Dd} (ok : TxOk T m n) (c : He.SaysX fa fn ts T.tfL ex w h K) (X : K.In h) (Nh : h.Ns mainGlobals mg) (hfa : ∀ f ∈ T.faL, f ∈ fa) (hfn : ∀ d ∈ T.fnL, d ∈ fn)
    (hdis : T.dis K = true)
    (con : ∀ x d, T.con.lookup x = some d → ∃ u v, mg x = some u ∧ RelV v u ∧ (∀ Z, Rp (T.gl K w (T.tb K)) Z d v) ∧ NoDc K v)
    (hle : T.las ≠ [] → LE K mg (T.gl K w (T.tb K)) T.enm)
    (hj : T.fns.lookup dL.x = some j) (hd : T.at j = some dL) (hps : dL.ps = [("script" : PySem.Str)]) (hmg : mg dL.x = some (.ref f))
    (law : ∀ ns : List Int, ns.length ≤ 63 → (∀ z ∈ ns, Builtin.Int.intBits z ≤ 1048576) → ∃ M', callD (T.defs m n) wf kk j [.d (.scr ns)] [] = .ok (.d (.bl true), M')) :
    LamX.LawAtS l w K (L2N.CX l.prog w) (3 * kk) 63 "script" mg f h := by
  have hm : dL ∈ T.dd := List.mem_of_find?_eq_some hd
  have g := He.glo_ok X Nh (says_fact c (hfa (.glo dL.x) (List.mem_append_left _ (List.mem_map.mpr ⟨dL, hm, rfl⟩))))
  have ef : f = He.ga K dL.x := by
    rw [hmg] at g
    injection g with g
    injection g
  obtain ⟨fd, F⟩ := says_def c (hfn (T.dN dL) (List.mem_map.mpr ⟨dL, hm, rfl⟩))
  have F : FunD K dL.x dL.x (defArgs (T.top dL.i)) (defBody (T.top dL.i)) (defScope (T.top dL.i)) [] [] (He.ga K dL.x) fd := F
  have bA := F.bindsA (ok.bnd dL hm)
  refine ⟨fd, T.tfL.map (He.cT K), spD (T.gl K w (T.tb K)) (callD (T.defs m n) wf kk j), fun p hp => ?_, fun p hp => ?_, fun p hp => ?_, fun s u => ?_, fun H a ns hl hb ht hS => ?_, fun base KX Nb hT => ?_⟩
  · obtain ⟨q, hq, rfl⟩ := List.mem_map.mp hp
    exact c.empty q hq
  · obtain ⟨q, hq, rfl⟩ := List.mem_map.mp hp
    exact c.out q hq
  · obtain ⟨q, hq, rfl⟩ := List.mem_map.mp hp
    exact PySem.W.codeHd_of_K X (c.hd q hq)
  · have := bA s [u] (by rw [hps]; rfl)
    rw [hps] at this
    exact this
  · refine law_sp (fun p hp => ?_) hS (law ns hl hb)
    obtain ⟨d, hd', rfl⟩ := List.mem_map.mp hp
    exact LamX.TabS.nil (ht _ (List.mem_map.mpr ⟨(d.x, none), List.mem_map.mpr ⟨d, hd', rfl⟩, rfl⟩))
  · have mo := mo_of (P := l.prog) (base := base) ok c KX Nb hfa hfn (T.tb K) con fun j d fd hd hla F => by
      have hm : d ∈ T.las := List.mem_filter.mpr ⟨List.mem_of_find?_eq_some hd, hla⟩
      have hmp : ((d.x, none) : He.Defn) ∈ T.tfL := List.mem_map.mpr ⟨d, hm, rfl⟩
      obtain ⟨oc, od, dV, kV, doc, pm, an, cdv, ct, osl, efd, lk, hcd, -, -⟩ := F.ex
      obtain ⟨cc, ec⟩ := He.codeIn_ref hcd
      subst ec
      subst efd
      have e1 : He.codeOf K (d.x, none) = cc := He.codeOf_eq (p := (d.x, none)) lk rfl
      refine ⟨hle (fun e => by rw [e] at hm; cases hm), cc, (He.cT K (d.x, none)).2, ?_, rfl, List.mem_map.mpr ⟨d, hm, rfl⟩, fun p hp ep => ?_⟩
      · have := hT _ (List.mem_map.mpr ⟨(d.x, none), hmp, rfl⟩)
        have e2 : (He.cT K (d.x, none)).1 = cc := e1
        rw [e2] at this
        exact this
      · obtain ⟨d', hd', rfl⟩ := List.mem_map.mp hp
        have := nodup_inj (of_decide_eq_true hdis) hd' hm ep
        subst this
        rfl
    obtain ⟨fd', ps', d', oc, od, osl, ed, eps, lk, FO, _⟩ := all_ok (wf := wf) mo kk dL.x j hj
    obtain ⟨oc2, od2, dV, kV, doc, pm, an, cdv, ct, osl2, -, lk2, -⟩ := F.ex
    have gfa : (T.gl K w (T.tb K)).fa j = He.ga K dL.x := by
      show (match T.at j with | some d => He.ga K d.x | none => 0) = _
      rw [hd]
    rw [gfa] at lk FO
    rw [lk] at lk2
    cases lk2
    have e3 : d'.ps = dL.ps := by
      unfold Tx.defs at ed
      rw [hd] at ed
      obtain ⟨b, _, rfl⟩ := Option.map_eq_some_iff.mp (show (T.code m n dL).map _ = _ from ed)
      rfl
    rw [ef, ← hps, ← e3, eps]
    exact FO
end
end PyD

set_option Elab.async false
set_option linter.all false
set_option maxRecDepth 100000
set_option maxHeartbeats 4000000
/-! PyD18: what _law_error wants, out of the head's facts and the text. -/
namespace PyD
open PySem PySem.Spec PyProof.Rows L2
theorem excB_ok {K : PySem.W.Frag} {D : Addr} (h : excB K D = true) : ExcC K D := by
  unfold excB at h
  obtain ⟨h1, h⟩ := He.ba h
  obtain ⟨h2, h⟩ := He.ba h
  obtain ⟨h3, h⟩ := He.ba h
  obtain ⟨h4, h⟩ := He.ba h
  obtain ⟨h5, h⟩ := He.ba h
  obtain ⟨h6, h⟩ := He.ba h
  obtain ⟨h7, h8⟩ := He.ba h
  exact ⟨He.eqO_ok h1, He.eqO_ok h2, of_decide_eq_true h3, h4, He.eqO_ok h5, He.eqO_ok h6, of_decide_eq_true h7, of_decide_eq_true h8⟩
theorem kitsB_ok {K : PySem.W.Frag} {mg : PySem.Str → Option Value} {D : Addr} (hv : mg veN = none) : ∀ {xs : List PySem.Str} {bs : List Bool}, hkitsB K D xs bs = true → (∀ x ∈ xs, x ≠ veN → mg x = some (.ref (He.ga K x))) → KitNs K mg D xs bs
  | [], [], _, _ => .nil
  | x :: xs, b :: bs, h, hg => by
    unfold hkitsB at h
    obtain ⟨h1, h2⟩ := He.ba h
    refine .cons ?_ (kitsB_ok hv h2 fun y hy => hg y (List.mem_cons_of_mem _ hy))
    unfold hkitB at h1
    cases e : x == veN with
    | true =>
      rw [e, if_pos rfl] at h1
      rw [eq_of_beq e]
      exact .inr ⟨"ValueError", hv, by decide +kernel, of_decide_eq_true h1⟩
    | false =>
      rw [e, if_neg Bool.false_ne_true] at h1
      exact .inl ⟨_, hg x List.mem_cons_self (by intro q; rw [q, beq_self_eq_true] at e; cases e), of_decide_eq_true h1⟩
theorem clsB_ok {K : PySem.W.Frag} {xs : List PySem.Str} : ∀ {cs : List PySem.Str} {bss : List (List Bool)}, clsB K xs cs bss = true → ∀ {i : Nat} {c : PySem.Str}, cs[i]? = some c → ∃ bs, bss[i]? = some bs ∧ ExcC K (He.ga K c) ∧ PySem.W.exmOne K (.ref (He.ga K c)) (.ref (He.ga K feN)) = some true ∧ hkitsB K (He.ga K c) xs bs = true
  | [], [], _, i, c, e => by simp at e
  | x :: r, bs :: bss, h, i, c, e => by
    unfold clsB at h
    obtain ⟨h1, h2⟩ := He.ba h
    cases i with
    | zero =>
      simp at e
      subst e
      obtain ⟨q1, q2⟩ := He.ba h1
      obtain ⟨q2, q3⟩ := He.ba q2
      exact ⟨bs, rfl, excB_ok q1, of_decide_eq_true q2, q3⟩
    | succ i => simpa using clsB_ok h2 (i := i) (c := c) (by simpa using e)
/-! ### the text -/
def nmOf : List Stmt → Option (List Expr × PySem.Str × PySem.Str × Scope)
  | [.Assign [.Name a _] (.List es _) _, .Assign [.Name b _] (.Constant (.str l1) _ _) _, .Assign [.Name c _] (.BinOp (.Name d _) .Add (.Constant (.str l2) _ _) _) _,
      .Return (some (.Call (.Attribute (.Constant (.str q) _ _) j p13) [.ListComp (.Name w _) [⟨.Tuple [.Name w2 _, .Name g _] _ _, .Call (.Name z _) [.Call (.Attribute (.Name lb _) sp p21) [.Constant (.str q2) _ _] [] p22, .Name sm _] [] _, [.Name g2 _], 0⟩] cs _] [] p25)) _] =>
    if [a, b, c, d, q, j, w, w2, g, z, lb, sp, q2, sm, g2] = (["some", "labels", "labels", "labels", " ", "join", "word", "word", "good", "zip", "labels", "split", " ", "some", "good"] : List PySem.Str) ∧ (p13.endLine == p25.line) = true ∧ (p21.endLine == p22.line) = true then some (es, l1, l2, cs) else none
  | _ => none
theorem nmOf_ok {bd : List Stmt} {es : List Expr} {l1 l2 : PySem.Str} {cs : Scope} (h : nmOf bd = some (es, l1, l2, cs)) : NmBody bd es l1 l2 cs := by
  unfold nmOf at h
  split at h
  · rw [Option.ite_none_right_eq_some] at h
    obtain ⟨⟨h, h1, h2⟩, h3⟩ := h
    simp only [List.cons.injEq, and_true] at h
    obtain ⟨rfl, rfl, rfl, rfl, rfl, rfl, rfl, rfl, rfl, rfl, rfl, rfl, rfl, rfl, rfl⟩ := h
    cases h3
    exact ⟨_, _, _, _, _, _, _, _, _, _, _, _, _, _, _, _, _, _, _, _, _, _, _, _, _, _, _, _, _, _, _, _, _, h1, h2, rfl⟩
  · cases h
def erOf : List Stmt → Bool
  | [.Try [.Expr (.Call (.Name a _) [] [] _) _] [.ExceptHandler (some (.Name b _)) (some c) [.Return (some (.Call (.Name d _) [.Name e _] [] _)) _] _] [] [] _, .Return (some (.Constant (.str f) _ _)) _] =>
    decide ([a, b, c, d, e, f] = (["call", "FateError", "e", "_law_names", "e", ""] : List PySem.Str))
  | _ => false
theorem erOf_ok {bg : List Stmt} (h : erOf bg = true) : ∃ (p1 p2 p3 p4 p5 p6 p7 p8 p9 p10 p11 p12 : Pos) (j : Nat), bg = [.Try [.Expr (.Call (.Name "call" p1) [] [] p2) p3] [.ExceptHandler (some (.Name "FateError" p4)) (some "e") [.Return (some (.Call (.Name "_law_names" p5) [.Name "e" p6] [] p7)) p8] p9] [] [] p10, .Return (some (.Constant (.str "") j p11)) p12] := by
  unfold erOf at h
  split at h
  · have h := of_decide_eq_true h
    simp only [List.cons.injEq, and_true] at h
    obtain ⟨rfl, rfl, rfl, rfl, rfl, rfl⟩ := h
    exact ⟨_, _, _, _, _, _, _, _, _, _, _, _, _, rfl⟩
  · cases h
def blkB (N : List PySem.Str) (sc scope : Scope) (own : List (PySem.Str × Nat)) : Bool :=
  decide (scope.kind = .function) && ((scope.names.all fun y => decide (scope.names.lookup y.1 = some y.2)) && ((own.all fun p => decide (N[p.2]? = some p.1)) && ((scope.names.all fun y => !decide (y.2 = .free)) && scope.names.all fun y => (decide (y.1 ∈ own.map (·.1)) || !decide (y.1 ∈ N)))))
theorem blkB_ok {N : List PySem.Str} {sc scope : Scope} {own : List (PySem.Str × Nat)} (h : blkB N sc scope own = true) : BlkOk N sc scope own := by
  unfold blkB at h
  obtain ⟨h1, h⟩ := He.ba h
  obtain ⟨h2, h⟩ := He.ba h
  obtain ⟨h3, h⟩ := He.ba h
  obtain ⟨h4, h5⟩ := He.ba h
  refine ⟨of_decide_eq_true h1, fun y hy => of_decide_eq_true (List.all_eq_true.mp h2 y hy), fun p hp => of_decide_eq_true (List.all_eq_true.mp h3 p hp), fun y hy e => ?_, fun y hy _ => ?_⟩
  · have := List.all_eq_true.mp h4 y hy
    rw [e] at this
    cases this
  · have := List.all_eq_true.mp h5 y hy
    simpa [Bool.or_eq_true] using this
def locB (sc : Scope) (l : List PySem.Str) (k : NameKind) : Bool := l.all fun x => decide (sc.names.lookup x = some k)
theorem locB_ok {sc : Scope} {l : List PySem.Str} {k : NameKind} (h : locB sc l k = true) : ∀ x ∈ l, sc.names.lookup x = some k := fun x hx => of_decide_eq_true (List.all_eq_true.mp h x hx)
def Er.dN (T : Tx) (i : Nat) (x : PySem.Str) : He.DefD := ⟨(x, none), x, x, defArgs (T.top i), defBody (T.top i), defScope (T.top i), [], []⟩
def Er.fnL (e : Er) (T : Tx) : List He.DefD := [Er.dN T e.iN lnN, Er.dN T e.iE leN]
def Bnd1 (T : Tx) (i : Nat) (x : PySem.Str) (n : Nat) (ps : List PySem.Str) : Prop := ∀ (kV doc pm : Value) (an : Option Addr) (cdv ct : Value) (us : List Value), us.length = ps.length →
  bindArgs (PySem.W.fnOf x x (defArgs (T.top i)) (defBody (T.top i)) (defScope (T.top i)) .none kV doc pm an cdv ct) ⟨us, []⟩ = pure (ps.zip us)
def Er.szB (e : Er) : Bool := decide (e.l1.length + e.l2.length + 2 ≤ sizeLine) && e.bits.all fun bs => decide ((Txt.split (e.l1 ++ e.l2) " ").length = bs.length ∧ bs.length ≤ 1000 ∧ ((pick (Txt.split (e.l1 ++ e.l2) " ") bs).map (·.length)).sum + (pick (Txt.split (e.l1 ++ e.l2) " ") bs).length * 1 ≤ 16777216 ∧ (pick (Txt.split (e.l1 ++ e.l2) " ") bs).length ≤ 1000)
def Er.nmB (e : Er) (T : Tx) : Bool := match nmOf (defBody (T.top e.iN)) with
  | some (es, l1, l2, cs) => decide (l1 = e.l1) && (decide (l2 = e.l2) && (decide (isiNames es = some e.xs) && (blkB nmN (defScope (T.top e.iN)) cs [("word", 3), ("good", 4)] && locB cs ["word", "good"] .local)))
  | none => false
def eP : List PySem.Str := ["e"]
def cP : List PySem.Str := ["call"]
def ceN : List PySem.Str := ["call", "e"]
structure ErOk (T : Tx) (e : Er) : Prop where
  nm : e.nmB T = true
  sz : e.szB = true
  enm : T.enm = e.bits.map (namesOf e.l1 e.l2)
  sN : scB nmN eP (defScope (T.top e.iN)) = true
  lN : locB (defScope (T.top e.iN)) ["e", "some", "labels"] .local = true
  gN : locB (defScope (T.top e.iN)) ("isinstance" :: "zip" :: e.xs) .globalImplicit = true
  sE : scB ceN cP (defScope (T.top e.iE)) = true
  lE : locB (defScope (T.top e.iE)) ceN .local = true
  gE : locB (defScope (T.top e.iE)) ["FateError", "_law_names"] .globalImplicit = true
  er : erOf (defBody (T.top e.iE)) = true
  bN : Bnd1 T e.iN lnN 1 eP
  bE : Bnd1 T e.iE leN 1 cP
section
variable {T : Tx} {e : Er} {fa : List He.Fa} {fn : List He.DefD} {ts : List He.Tab} {tf : List He.Defn} {ex : PySem.W.Frag → Bool} {w : World} {h base : Heap} {K : PySem.W.Frag} {mg : PySem.Str → Option Value} {Tb : List (Addr × PySem.Str)}
theorem le_of (ok : ErOk T e) (c : He.SaysX fa fn ts tf ex w h K) (X : K.In base) (Nb : base.Ns mainGlobals mg) (hfa : ∀ f ∈ T.faL, f ∈ fa) (hfe : ∀ f ∈ e.faL, f ∈ fa) (hfn : ∀ d ∈ e.fnL T, d ∈ fn) (hex : e.exB T.cl K = true) : LE K mg (T.gl K w Tb) T.enm := by
  have glo : ∀ x, He.Fa.glo x ∈ e.faL → mg x = some (.ref (He.ga K x)) := fun x hx => He.glo_ok X Nb (says_fact c (hfe _ hx))
  have fre : ∀ x ∈ biN, mg x = none := fun x hx => He.free_ok X Nb (says_fact c (hfa (.free x) (List.mem_append_right _ (List.mem_append_left _ (List.mem_map.mpr ⟨x, hx, rfl⟩)))))
  have hv : mg veN = none := He.free_ok X Nb (says_fact c (hfe (.free veN) (by simp [Er.faL])))
  have m1 := glo lnN (by simp [Er.faL])
  have m2 := glo leN (by simp [Er.faL])
  have m3 := glo feN (by simp [Er.faL])
  have mx : ∀ x ∈ e.xs, x ≠ veN → mg x = some (.ref (He.ga K x)) := fun x hx n => glo x (by
    unfold Er.faL
    refine List.mem_cons_of_mem _ (List.mem_cons_of_mem _ (List.mem_cons_of_mem _ (List.mem_cons_of_mem _ (List.mem_map.mpr ⟨x, List.mem_filter.mpr ⟨hx, ?_⟩, rfl⟩))))
    rw [Bool.not_eq_true', beq_eq_false_iff_ne]
    exact n)
  obtain ⟨fdN, FN⟩ := says_def c (hfn (Er.dN T e.iN lnN) (by simp [Er.fnL]))
  obtain ⟨fdE, FE⟩ := says_def c (hfn (Er.dN T e.iE leN) (by simp [Er.fnL]))
  have FN : FunD K lnN lnN (defArgs (T.top e.iN)) (defBody (T.top e.iN)) (defScope (T.top e.iN)) [] [] (He.ga K lnN) fdN := FN
  have FE : FunD K leN leN (defArgs (T.top e.iE)) (defBody (T.top e.iE)) (defScope (T.top e.iE)) [] [] (He.ga K leN) fdE := FE
  have nm := ok.nm
  unfold Er.nmB at nm
  split at nm
  · rename_i es l1 l2 cs en
    obtain ⟨q1, nm⟩ := He.ba nm
    obtain ⟨q2, nm⟩ := He.ba nm
    obtain ⟨q3, nm⟩ := He.ba nm
    obtain ⟨q4, q5⟩ := He.ba nm
    have q1 := of_decide_eq_true q1
    have q2 := of_decide_eq_true q2
    subst q1 q2
    obtain ⟨z1, z2⟩ := He.ba ok.sz
    have sE := scB_ok ok.sE
    refine ⟨T.cl.length, e.l1, e.l2, fun i => e.bits.getD i [], He.ga K lnN, He.ga K feN, He.ga K leN, fdN, fdE, T.top e.iN, e.xs, es, cs, leN, defArgs (T.top e.iE), defBody (T.top e.iE), defScope (T.top e.iE), ?_, fun i z hz => ?_, m2, FE.kp, FE, FE.bindsN ok.bE, sE, locB_ok ok.lE _ (by simp [ceN]), locB_ok ok.lE _ (by simp [ceN]), locB_ok ok.gE _ (by simp), locB_ok ok.gE _ (by simp), erOf_ok ok.er⟩
    · refine { mgN := m1, kpN := FN.kp, FN := ⟨_, _, FN⟩, bN := FN.bindsN ok.bN, SN := scB_ok ok.sN, body := nmOf_ok en, names := of_decide_eq_true q3, loc := locB_ok ok.lN, glo := locB_ok ok.gN, blk := blkB_ok q4, csl := locB_ok q5, mgi := fre _ (by decide +kernel), mgz := fre _ (by decide +kernel), hl := of_decide_eq_true z1, ok := fun i hi => ?_, mgF := m3 }
      have hx : T.cl[i]? = some T.cl[i] := List.getElem?_eq_getElem hi
      obtain ⟨bs, h1, h2, h3, h4⟩ := clsB_ok hex hx
      have gca : (T.gl K w Tb).ca i = He.ga K T.cl[i] := by
        show (match T.cl[i]? with | some x => He.ga K x | none => 0) = _
        rw [hx]
      have eb : e.bits.getD i [] = bs := by rw [List.getD_eq_getElem?_getD, h1]; rfl
      have hm := of_decide_eq_true (List.all_eq_true.mp z2 bs (List.mem_of_getElem? h1))
      rw [gca]
      show _ ∧ KitNs K mg _ e.xs (e.bits.getD i []) ∧ _
      rw [eb]
      exact ⟨h2, kitsB_ok hv h4 mx, h3, hm⟩
    · rw [ok.enm, List.getElem?_map, Option.map_eq_some_iff] at hz
      obtain ⟨bs, h1, rfl⟩ := hz
      refine ⟨?_, by show namesOf _ _ (e.bits.getD i []) = _; rw [List.getD_eq_getElem?_getD, h1]; rfl⟩
      have hi := (List.getElem?_eq_some_iff.mp h1).1
      have go : ∀ {cs : List PySem.Str} {bss : List (List Bool)}, clsB K e.xs cs bss = true → cs.length = bss.length := by
        intro cs
        induction cs with
        | nil => intro bss h; cases bss with
          | nil => rfl
          | cons _ _ => cases h
        | cons x r ih => intro bss h; cases bss with
          | nil => cases h
          | cons b bs =>
            unfold clsB at h
            rw [List.length_cons, List.length_cons, ih (He.ba h).2]
      have := go hex
      omega
  · cases nm
end
end PyD

set_option Elab.async false
set_option linter.all false
set_option maxRecDepth 100000
set_option maxHeartbeats 4000000
/-! PyD19: the module's constants, out of the head's facts. -/
namespace PyD
open PySem PySem.Spec PyProof.Rows L2
def dvD : He.Dv → D
  | .bl b => .bl b
  | .int i => .int i
  | .str z => .str z
  | _ => .non
def Cn.d : Cn → D
  | .int i => .int i
  | .str z => .str z
  | .tup vs => .tup (vs.map dvD)
  | .dic kvs => .dc kvs
def cnCon (l : List (PySem.Str × Cn)) : List (PySem.Str × D) := l.map fun p => (p.1, p.2.d)
theorem putK_mem {κ : Type} [DecidableEq κ] {l : List (κ × V)} {k : κ} {v : V} {p : κ × V} (h : p ∈ putK l k v) : p ∈ l ∨ p = (k, v) := by
  unfold putK at h
  split at h
  · obtain ⟨q, hq, e⟩ := List.mem_map.mp h
    split at e
    · rename_i e1
      subst e1
      exact .inr e.symm
    · subst e; exact .inl hq
  · rcases List.mem_append.mp h with h | h
    · exact .inl h
    · exact .inr (List.mem_singleton.mp h)
theorem mergeK_mem : ∀ {more kvs : List (Key × V)} {p : Key × V}, p ∈ mergeK kvs more → p ∈ kvs ∨ p ∈ more
  | [], _, _, h => .inl h
  | q :: r, kvs, p, h => by
    have h : p ∈ mergeK (putK kvs q.1 q.2) r := h
    rcases mergeK_mem h with h | h
    · rcases putK_mem h with h | h
      · exact .inl h
      · exact .inr (by rw [h]; exact List.mem_cons_self)
    · exact .inr (List.mem_cons_of_mem _ h)
theorem dcGet_mem {kvs : List (PySem.Str × Int)} {z : PySem.Str} {i : Int} (h : dcGet kvs z = some i) : (z, i) ∈ kvs := by
  unfold dcGet at h
  split at h
  · rename_i j e
    cases h
    unfold valV at e
    obtain ⟨p, hp, ep⟩ := Option.map_eq_some_iff.mp e
    have hm := List.mem_of_find?_eq_some hp
    have hk := List.find?_some hp
    have hk : p.1 = Sum.inr z := of_decide_eq_true hk
    rcases mergeK_mem hm with h | h
    · cases h
    · unfold kvK at h
      obtain ⟨q, hq, eq⟩ := List.mem_map.mp h
      subst eq
      cases hk
      cases ep
      exact hq
  · cases h
theorem dv_rps {G : Gl} {Z : Hp} {K : PySem.W.Frag} : ∀ {vs : List He.Dv}, vs.all dvB = true → Rps G Z (vs.map dvD) (vs.map (He.Dv.v K))
  | [], _ => .nil
  | v :: vs, h => by
    rw [List.all_cons] at h
    obtain ⟨h1, h2⟩ := He.ba h
    refine .cons ?_ (dv_rps h2)
    cases v with
    | non => exact .non
    | bl b => exact .bl b
    | int i => exact .int i
    | str z => exact .str z
    | _ => cases h1
theorem lookup_mem2 {β γ : Type} {f : β → γ} {l : List (PySem.Str × β)} {x : PySem.Str} {d : γ} (h : (l.map fun p => (p.1, f p.2)).lookup x = some d) : ∃ c, (x, c) ∈ l ∧ f c = d := by
  induction l with
  | nil => cases h
  | cons e r ih =>
    rw [List.map_cons, List.lookup_cons] at h
    cases q : (x == e.1) with
    | true =>
      rw [q] at h
      cases h
      exact ⟨e.2, by rw [eq_of_beq q]; exact List.mem_cons_self, rfl⟩
    | false =>
      rw [q] at h
      obtain ⟨d, h1, h2⟩ := ih h
      exact ⟨d, List.mem_cons_of_mem _ h1, h2⟩
section
variable {T : Tx} {fa : List He.Fa} {fn : List He.DefD} {ts : List He.Tab} {tf : List He.Defn} {ex : PySem.W.Frag → Bool} {w : World} {h base : Heap} {K : PySem.W.Frag} {mg : PySem.Str → Option Value} {Tb : List (Addr × PySem.Str)}
theorem con_of {l : List (PySem.Str × Cn)} (hc : T.con = cnCon l) (c : He.SaysX fa fn ts tf ex w h K) (X : K.In base) (Nb : base.Ns mainGlobals mg) (hfa : ∀ p ∈ l, cnFa p ∈ fa) (hts : ts = l.filterMap cnTs) (hb : cnsB l K = true) :
    ∀ x d, T.con.lookup x = some d → ∃ u v, mg x = some u ∧ RelV v u ∧ (∀ Z, Rp (T.gl K w Tb) Z d v) ∧ NoDc K v := by
  intro x d hx
  rw [hc] at hx
  obtain ⟨cn, hm, rfl⟩ := lookup_mem2 hx
  have b := List.all_eq_true.mp hb _ hm
  have f := hfa _ hm
  cases cn with
  | int i =>
    obtain ⟨t, e⟩ := He.int_ok X Nb (says_fact c f)
    exact ⟨_, .int i, e, ⟨t, rfl⟩, fun Z => .int i, fun a h => by cases h⟩
  | str z =>
    obtain ⟨t, e⟩ := He.str_ok X Nb (says_fact c f)
    exact ⟨_, .str z, e, ⟨t, rfl⟩, fun Z => .str z, fun a h => by cases h⟩
  | tup vs =>
    obtain ⟨b1, b2⟩ := He.ba b
    obtain ⟨b1, b3⟩ := He.ba b1
    refine ⟨_, .ref (He.ga K x), He.glo_ok X Nb (says_fact c f), rfl, fun Z => .tup (He.tupB_ok b1 Z) (dv_rps b2), fun a h o ho => ?_⟩
    cases h
    rw [ho] at b3
    exact Option.isNone_iff_eq_none.mp b3
  | dic kvs =>
    refine ⟨_, .ref (He.ga K x), He.glo_ok X Nb (says_fact c f), rfl, fun Z => .dc (.inr fun z i e => ?_), fun a h o ho => ?_⟩
    rotate_left
    · cases h
      have hmt : ((fun K => He.ga K x, kvs.map Prod.fst) : He.Tab) ∈ ts := by
        rw [hts]
        exact List.mem_filterMap.mpr ⟨_, hm, rfl⟩
      obtain ⟨i', hi⟩ := List.mem_iff_getElem?.mp hmt
      obtain ⟨es, n, KD⟩ := c.t.tab i' hi
      have e := KD.at_
      rw [ho] at e
      cases e
      rfl
    have hmt : ((fun K => He.ga K x, kvs.map Prod.fst) : He.Tab) ∈ ts := by
      rw [hts]
      exact List.mem_filterMap.mpr ⟨_, hm, rfl⟩
    obtain ⟨i', hi⟩ := List.mem_iff_getElem?.mp hmt
    obtain ⟨es, n, KD⟩ := c.t.tab i' hi
    obtain ⟨u, h1, h2⟩ := He.valsB_ok (show He.valsB K (He.ga K x) (kvs.map fun p => (p.1, .int p.2)) = true from b) (List.mem_map.mpr ⟨_, dcGet_mem e, rfl⟩)
    exact ⟨es, n, u, KD.at_, KD.lit, h1, h2⟩
end
end PyD

set_option Elab.async false
set_option linter.all false
set_option maxRecDepth 100000
set_option maxHeartbeats 4000000
/-! PyD20: all of a text put together. -/
namespace PyD
open PySem PySem.Spec PyProof.Rows L2
theorem look_zip : ∀ {ps : List PySem.Str} {us : List Value}, us.length = ps.length → ∀ n ∈ ps, ((ps.zip us).lookup n).isSome = true
  | p :: ps, u :: us, hl, n, hn => by
    rw [List.zip_cons_cons, List.lookup_cons]
    cases e : (n == p) with
    | true => rfl
    | false =>
      rcases List.mem_cons.mp hn with rfl | hn
      · rw [beq_self_eq_true] at e; cases e
      · exact look_zip (by simpa using hl) n hn
theorem fm_zip : ∀ {ps : List PySem.Str} {us : List Value}, us.length = ps.length → ps.Nodup → ps.filterMap (fun n => ((ps.zip us).lookup n).map (n, ·)) = ps.zip us := by
  have go : ∀ (ps : List PySem.Str) (us : List Value), us.length = ps.length → ps.Nodup → ∀ L : List (PySem.Str × Value), (∀ p ∈ ps.zip us, L.lookup p.1 = some p.2) → ps.filterMap (fun n => (L.lookup n).map (n, ·)) = ps.zip us := by
    intro ps
    induction ps with
    | nil => intro us _ _ L _; rfl
    | cons p ps ih =>
      intro us hl nd L hL
      cases us with
      | nil => cases hl
      | cons u us =>
        rw [List.zip_cons_cons] at hL ⊢
        rw [List.filterMap_cons, hL (p, u) List.mem_cons_self]
        show (p, u) :: _ = _
        rw [ih us (by simpa using hl) (List.nodup_cons.mp nd).2 L fun q hq => hL q (List.mem_cons_of_mem _ hq)]
  intro ps us hl nd
  refine go ps us hl nd _ ?_
  clear go
  induction ps generalizing us with
  | nil => intro p hp; cases hp
  | cons p ps ih =>
    cases us with
    | nil => cases hl
    | cons u us =>
      rw [List.zip_cons_cons]
      intro q hq
      rw [List.lookup_cons]
      rcases List.mem_cons.mp hq with rfl | hq
      · rw [beq_self_eq_true]
      · have n1 := List.nodup_cons.mp nd
        have hm : q.1 ∈ ps := (List.of_mem_zip hq).1
        have : (q.1 == p) = false := by
          rw [beq_eq_false_iff_ne]
          intro e
          rw [e] at hm
          exact n1.1 hm
        rw [this]
        exact ih (by simpa using hl) n1.2 q hq
theorem bnd_of {fd : FuncData} {ps : List PySem.Str} {us : List Value} (h1 : fd.params.posonlyargs = []) (h2 : fd.params.args.map (·.arg) = ps) (h3 : fd.params.vararg = none) (h4 : fd.params.kwonlyargs = []) (h5 : fd.params.kwarg = none) (hd : fd.defaults = .none) (nd : ps.Nodup) (hl : us.length = ps.length) :
    bindArgs fd ⟨us, []⟩ = pure (ps.zip us) := by
  have e1 : (ps.filter fun n => ((ps.zip us).lookup n).isNone) = [] := by
    rw [List.filter_eq_nil_iff]
    intro n hn
    have := look_zip hl n hn
    cases q : (ps.zip us).lookup n with
    | none => rw [q] at this; cases this
    | some v => simp
  unfold bindArgs
  simp only [h1, h2, h3, h4, h5, hd, List.map_nil, List.nil_append]
  have e2 : seqItems? Value.none = pure none := rfl
  rw [e2]
  simp [e1, hl]
  rw [fm_zip hl nd]
def argsB (a : Arguments) (ps : List PySem.Str) : Bool := a.posonlyargs.isEmpty && (decide (a.args.map (·.arg) = ps) && (a.vararg.isNone && (a.kwonlyargs.isEmpty && (a.kwarg.isNone && decide ps.Nodup))))
theorem argsB_ok {fd : FuncData} {ps : List PySem.Str} {us : List Value} (h : argsB fd.params ps = true) (hd : fd.defaults = .none) (hl : us.length = ps.length) : bindArgs fd ⟨us, []⟩ = pure (ps.zip us) := by
  unfold argsB at h
  obtain ⟨h1, h⟩ := He.ba h
  obtain ⟨h2, h⟩ := He.ba h
  obtain ⟨h3, h⟩ := He.ba h
  obtain ⟨h4, h⟩ := He.ba h
  obtain ⟨h5, h6⟩ := He.ba h
  exact bnd_of (List.isEmpty_iff.mp h1) (of_decide_eq_true h2) (Option.isNone_iff_eq_none.mp h3) (List.isEmpty_iff.mp h4) (Option.isNone_iff_eq_none.mp h5) hd (of_decide_eq_true h6) hl
theorem TxOk.of {T : Tx} {m n : Nat} (nd : (T.dd.map Dd.j).Nodup) (ndx : (T.dd.map Dd.x).Nodup) (cls : T.cls = nums 0 T.cl) (sc : (T.dd.all fun d => scB d.N d.ps (defScope (T.top d.i))) = true) (code : (T.dd.all fun d => (T.code m n d).isSome) = true) (ab : (T.dd.all fun d => argsB (defArgs (T.top d.i)) d.ps) = true) : TxOk T m n :=
  ⟨nd, ndx, cls, sc, code, fun d hd _ _ _ _ _ _ _ hl => argsB_ok (List.all_eq_true.mp ab d hd) rfl hl⟩
theorem bnd1_of {T : Tx} {i : Nat} {x : PySem.Str} {n : Nat} {ps : List PySem.Str} (h : argsB (defArgs (T.top i)) ps = true) : Bnd1 T i x n ps := fun _ _ _ _ _ _ _ hl => argsB_ok h rfl hl
/-- a text with its errors' names and its constants -/
structure Pk where
  T : Tx
  e : Er
  cn : List (PySem.Str × Cn)
def Pk.fa (p : Pk) : List He.Fa := p.T.faL ++ (p.e.faL ++ p.cn.map cnFa)
def Pk.fn (p : Pk) : List He.DefD := p.T.fnL ++ p.e.fnL p.T
def Pk.ts (p : Pk) : List He.Tab := p.cn.filterMap cnTs
def Pk.ex (p : Pk) (K : PySem.W.Frag) : Bool := p.T.dis K && (p.e.exB p.T.cl K && cnsB p.cn K)
abbrev Pk.hk (p : Pk) : PySem.W.Hook := PyH.hookY p.fa p.fn p.ts p.T.tfL p.ex
def Pk.ob (p : Pk) (s : PySem.W.SharedT) : He.AlX := PyH.obY p.fa p.fn p.ts p.T.tfL p.ex (HandSHeadRun.getT s)
theorem Pk.ob_eq (p : Pk) (s : PySem.W.SharedT) : p.ob s = p.hk.obs s.abs := PyH.obY_eq (HandSHeadRun.getT_eq s)
theorem pk_law {p : Pk} {m n : Nat} {l : PySem.W.OpenLaw} {w : World} {h : Heap} {mg : PySem.Str → Option Value} {wf kk j : Nat} {f : Addr} {dL : Dd} (ok : TxOk p.T m n) (eo : ErOk p.T p.e) (hc : p.T.con = cnCon p.cn)
    (Y : ∃ K : PySem.W.Frag, K.In h ∧ He.SaysX p.fa p.fn p.ts p.T.tfL p.ex w h K) (Nh : h.Ns mainGlobals mg) (hj : p.T.fns.lookup dL.x = some j) (hd : p.T.at j = some dL) (hps : dL.ps = [("script" : PySem.Str)]) (hmg : mg dL.x = some (.ref f))
    (law : ∀ ns : List Int, ns.length ≤ 63 → (∀ z ∈ ns, Builtin.Int.intBits z ≤ 1048576) → ∃ M', callD (p.T.defs m n) wf kk j [.d (.scr ns)] [] = .ok (.d (.bl true), M')) :
    ∃ K : PySem.W.Frag, K.In h ∧ LamX.LawAtS l w K (L2N.CX l.prog w) (3 * kk) 63 "script" mg f h := by
  obtain ⟨K, X, c⟩ := Y
  obtain ⟨x1, x2⟩ := He.ba c.more
  obtain ⟨x2, x3⟩ := He.ba x2
  have hfa : ∀ f ∈ p.T.faL, f ∈ p.fa := fun f hf => List.mem_append_left _ hf
  have hfe : ∀ f ∈ p.e.faL, f ∈ p.fa := fun f hf => List.mem_append_right _ (List.mem_append_left _ hf)
  have hfc : ∀ q ∈ p.cn, cnFa q ∈ p.fa := fun q hq => List.mem_append_right _ (List.mem_append_right _ (List.mem_map.mpr ⟨q, hq, rfl⟩))
  exact ⟨K, X, law_at ok c X Nh hfa (fun d hd => List.mem_append_left _ hd) x1 (con_of hc c X Nh hfc rfl x3) (fun _ => le_of eo c X Nh hfa hfe (fun d hd => List.mem_append_right _ hd) x2) hj hd hps hmg law⟩
end PyD

set_option Elab.async false
set_option linter.all false
set_option maxRecDepth 100000
set_option maxHeartbeats 4000000
/-! PyP1: how the small language is followed by hand: what must hold behind (Q), what of an error (E); what is still to be done stands in named pieces, so that simp goes step by step. -/
namespace PyP
open PySem hiding Env
open PySem.Spec PyProof.Rows L2 PyD
abbrev XE := Nat → Ms → Prop
@[irreducible] def Wx {α : Type} (r : R α) (Q : α → Prop) (E : XE) : Prop := match r with
  | .ok a => Q a
  | .exc c M => E c M
  | .stuck => False
abbrev NoE : XE := fun _ _ => False
section
variable {α β : Type} {r : R α} {Q : α → Prop} {E : XE}
@[simp] theorem wx_ok {a : α} : Wx (.ok a) Q E = Q a := by unfold Wx; rfl
@[simp] theorem wx_stuck : Wx (.stuck) Q E = False := by unfold Wx; rfl
@[simp] theorem wx_exc {c : Nat} {M : Ms} : Wx (.exc c M) Q E = E c M := by unfold Wx; rfl
@[simp] theorem bind_ok' {a : α} {f : α → R β} : (R.ok a).bind f = f a := rfl
@[simp] theorem bind_exc' {c : Nat} {M : Ms} {f : α → R β} : (R.exc c M).bind f = .exc c M := rfl
@[simp] theorem bind_stuck' {f : α → R β} : (R.stuck).bind f = .stuck := rfl
@[simp] theorem wx_bind {f : α → R β} {Q : β → Prop} : Wx (r.bind f) Q E = Wx r (fun a => Wx (f a) Q E) E := by cases r <;> simp
theorem Wx.imp {Q' : α → Prop} {E' : XE} (h : Wx r Q E) (k : ∀ a, Q a → Q' a) (e : ∀ c M, E c M → E' c M) : Wx r Q' E' := by
  cases r with
  | ok a => rw [wx_ok] at h ⊢; exact k a h
  | exc c M => rw [wx_exc] at h ⊢; exact e c M h
  | stuck => rw [wx_stuck] at h; exact h.elim
theorem Wx.to {Q' : α → Prop} (h : Wx r Q E) (k : ∀ a, Q a → Q' a) : Wx r Q' E := h.imp k fun _ _ q => q
theorem Wx.no {Q' : α → Prop} (h : Wx r Q NoE) (k : ∀ a, Q a → Q' a) : Wx r Q' E := h.imp k fun _ _ q => q.elim
theorem wx_iff : Wx r Q NoE ↔ ∃ a, r = .ok a ∧ Q a := by
  cases r with
  | ok a => rw [wx_ok]; exact ⟨fun h => ⟨a, rfl, h⟩, fun ⟨b, e, h⟩ => by cases e; exact h⟩
  | exc c M => rw [wx_exc]; exact ⟨fun h => h.elim, fun ⟨b, e, h⟩ => by cases e⟩
  | stuck => rw [wx_stuck]; exact ⟨fun h => h.elim, fun ⟨b, e, h⟩ => by cases e⟩
/-- the result itself -/
theorem eq_of {r0 : R α} (h : Wx r (fun a => r0 = .ok a) fun c M => r0 = .exc c M) : r = r0 := by
  cases r with
  | ok a => rw [wx_ok] at h; exact h.symm
  | exc c M => rw [wx_exc] at h; exact h.symm
  | stuck => rw [wx_stuck] at h; exact h.elim
theorem wx_eq {r0 : R α} (e : r = r0) (h : Wx r0 Q E) : Wx r Q E := by rw [e]; exact h
@[simp] theorem wx_ite {c : Prop} [Decidable c] {a b : R α} : Wx (if c then a else b) Q E = if c then Wx a Q E else Wx b Q E := by split <;> rfl
@[simp] theorem stuckIf_true {r : R α} : stuckIf true r = r := rfl
@[simp] theorem wx_stuckIf {b : Bool} : Wx (stuckIf b r) Q E = (b = true ∧ Wx r Q E) := by
  cases b
  · rw [show stuckIf false r = .stuck from rfl, wx_stuck]; exact propext ⟨fun h => h.elim, fun h => by cases h.1⟩
  · exact propext ⟨fun h => ⟨rfl, h⟩, fun h => h.2⟩
@[simp] theorem optR_some {a : α} : optR (some a) = .ok a := rfl
@[simp] theorem asB_bl {b : Bool} {f : Bool → R α} : asB (.bl b) f = f b := rfl
@[simp] theorem asI_int {b : Int} {f : Int → R α} : asI (.int b) f = f b := rfl
@[simp] theorem asS_str {b : PySem.Str} {f : PySem.Str → R α} : asS (.str b) f = f b := rfl
@[simp] theorem view_d {M : Ms} {x : D} : view M (.d x) = .ok x := rfl
@[simp] theorem frz_d {M : Ms} {x : D} : frz M (.d x) = .ok (x, M) := rfl
end
/-! ### expressions -/
section
variable {cl : Nat → List W → Ms → R (W × Ms)} {ρ : Env} {M : Ms} {E : XE} {Q : W × Ms → Prop}
def lkV (o : Option (Option W)) (M : Ms) (Q : W × Ms → Prop) : Prop := match o with
  | some (some w) => Q (w, M)
  | _ => False
@[simp] theorem lkV_some {w : W} : lkV (some (some w)) M Q = Q (w, M) := rfl
@[simp] theorem w_var {i : Nat} : Wx (evE cl (.var i) ρ M) Q E = lkV ρ[i]? M Q := by
  rw [evE]; split <;> simp_all [lkV]
@[simp] theorem w_con {d : D} : Wx (evE cl (.con d) ρ M) Q E = Q (.d d, M) := by rw [evE]; with_unfolding_all rfl
def kTup (Q : W × Ms → Prop) (q : List D × Ms) : Prop := q.1.length ≤ sizeLine ∧ Q (.d (.tup q.1), q.2)
@[simp] theorem kTup_mk {ds : List D} : kTup Q (ds, M) = (ds.length ≤ sizeLine ∧ Q (.d (.tup ds), M)) := rfl
@[simp] theorem w_tup {es : Es} : Wx (evE cl (.tup es) ρ M) Q E = Wx (evDs cl es ρ M) (kTup Q) E := by
  rw [evE, wx_bind]; congr 1; funext q; simp [kTup]
def kFr (Q : W × Ms → Prop) (q : List D × Ms) : Prop := Q (.d (.lst q.1), q.2)
@[simp] theorem kFr_mk {ds : List D} : kFr Q (ds, M) = Q (.d (.lst ds), M) := rfl
@[simp] theorem w_fr {f : F} : Wx (evE cl (.fr f) ρ M) Q E = Wx (evF cl f ρ M) (kFr Q) E := by
  rw [evE, wx_bind]; with_unfolding_all rfl
def kNw (Q : W × Ms → Prop) (q : List D × Ms) : Prop := Q (.c q.2.length, q.2 ++ [.lst q.1])
@[simp] theorem kNw_mk {ds : List D} : kNw Q (ds, M) = Q (.c M.length, M ++ [.lst ds]) := rfl
@[simp] theorem w_nw {f : F} : Wx (evE cl (.nw f) ρ M) Q E = Wx (evF cl f ρ M) (kNw Q) E := by
  rw [evE, wx_bind]; with_unfolding_all rfl
def kOp1 (cl : Nat → List W → Ms → R (W × Ms)) (f : D → D → R D) (b : PyD.E) (ρ : Env) (Q : W × Ms → Prop) (E : XE) (p : W × Ms) : Prop := Wx (evE cl b ρ p.2) (fun q => Wx (view q.2 p.1) (fun x => Wx (view q.2 q.1) (fun y => Wx (f x y) (fun z => Q (.d z, q.2)) E) E) E) E
def kOp2 (f : D → D → R D) (w : W) (Q : W × Ms → Prop) (E : XE) (q : W × Ms) : Prop := Wx (view q.2 w) (fun x => Wx (view q.2 q.1) (fun y => Wx (f x y) (fun z => Q (.d z, q.2)) E) E) E
@[simp] theorem kOp1_mk {f : D → D → R D} {b : PyD.E} {w : W} : kOp1 cl f b ρ Q E (w, M) = Wx (evE cl b ρ M) (kOp2 f w Q E) E := rfl
@[simp] theorem kOp2_mk {f : D → D → R D} {v w : W} : kOp2 f v Q E (w, M) = Wx (view M v) (fun x => Wx (view M w) (fun y => Wx (f x y) (fun z => Q (.d z, M)) E) E) E := rfl
@[simp] theorem w_op2 {o : B2} {a b : PyD.E} : Wx (evE cl (.op2 o a b) ρ M) Q E = Wx (evE cl a ρ M) (kOp1 cl (dop2 o) b ρ Q E) E := by
  rw [evE]; simp [kOp1, -w_var]; with_unfolding_all rfl
@[simp] theorem w_cmp {o : Cp} {a b : PyD.E} : Wx (evE cl (.cmp o a b) ρ M) Q E = Wx (evE cl a ρ M) (kOp1 cl (dcmp o) b ρ Q E) E := by
  rw [evE]; simp [kOp1, -w_var]; with_unfolding_all rfl
@[simp] theorem w_ix {a b : PyD.E} : Wx (evE cl (.ix a b) ρ M) Q E = Wx (evE cl a ρ M) (kOp1 cl dix b ρ Q E) E := by
  rw [evE]; simp [kOp1, -w_var]; with_unfolding_all rfl
def kU (f : D → R D) (Q : W × Ms → Prop) (E : XE) (p : W × Ms) : Prop := Wx (view p.2 p.1) (fun x => Wx (f x) (fun z => Q (.d z, p.2)) E) E
@[simp] theorem kU_mk {f : D → R D} {w : W} : kU f Q E (w, M) = Wx (view M w) (fun x => Wx (f x) (fun z => Q (.d z, M)) E) E := rfl
@[simp] theorem w_neg {a : PyD.E} : Wx (evE cl (.neg a) ρ M) Q E = Wx (evE cl a ρ M) (kU (fun x => asI x fun i => .ok (.int (-i))) Q E) E := by
  rw [evE, wx_bind]; congr 1; funext p; simp only [kU, wx_bind]; congr 1; funext x; cases x <;> with_unfolding_all rfl
@[simp] theorem w_not {a : PyD.E} : Wx (evE cl (.not a) ρ M) Q E = Wx (evE cl a ρ M) (kU (fun x => asB x fun i => .ok (.bl (!i))) Q E) E := by
  rw [evE, wx_bind]; congr 1; funext p; simp only [kU, wx_bind]; congr 1; funext x; cases x <;> with_unfolding_all rfl
@[simp] theorem w_notv {a : PyD.E} : Wx (evE cl (.notv a) ρ M) Q E = Wx (evE cl a ρ M) (kU (fun x => (dtru x).bind fun i => .ok (.bl (!i))) Q E) E := by
  rw [evE, wx_bind]; congr 1; funext p; simp only [kU, wx_bind, wx_ok]
@[simp] theorem w_rev {a : PyD.E} : Wx (evE cl (.rev a) ρ M) Q E = Wx (evE cl a ρ M) (kU drev Q E) E := by
  rw [evE, wx_bind]; congr 1; funext p; simp only [kU, wx_bind, wx_ok]
@[simp] theorem w_isi {a : PyD.E} {t : Ty} : Wx (evE cl (.isi a t) ρ M) Q E = Wx (evE cl a ρ M) (kU (fun x => disi x t) Q E) E := by
  rw [evE, wx_bind]; congr 1; funext p; simp only [kU, wx_bind, wx_ok]
@[simp] theorem w_isn {a : PyD.E} : Wx (evE cl (.isn a) ρ M) Q E = Wx (evE cl a ρ M) (kU (fun x => .ok (.bl (isNon x))) Q E) E := by
  rw [evE, wx_bind]; congr 1; funext p; simp only [kU, wx_bind, wx_ok]
@[simp] theorem w_isnn {a : PyD.E} : Wx (evE cl (.isnn a) ρ M) Q E = Wx (evE cl a ρ M) (kU (fun x => .ok (.bl (!isNon x))) Q E) E := by
  rw [evE, wx_bind]; congr 1; funext p; simp only [kU, wx_bind, wx_ok]
def trgD (x : D) : R D := asI x fun n => stuckIf (rgOk 0 n) (.ok (.tup (rgD 0 n)))
@[simp] theorem w_trg {a : PyD.E} : Wx (evE cl (.trg a) ρ M) Q E = Wx (evE cl a ρ M) (kU trgD Q E) E := by
  rw [evE, wx_bind]; congr 1; funext p; simp only [kU, wx_bind]; congr 1; funext x; cases x <;> first | with_unfolding_all rfl | (simp [trgD])
@[simp] theorem w_dsp {kvs : List (PySem.Str × Int)} : Wx (evE cl (.dsp kvs) ρ M) Q E = Q (.d (.dc kvs), M) := by rw [evE]; with_unfolding_all rfl
/-- which way -/
def brB (d : D) (a b : Prop) : Prop := match d with
  | .bl true => a
  | .bl false => b
  | _ => False
@[simp] theorem brB_bl {k : Bool} {a b : Prop} : brB (.bl k) a b = if k = true then a else b := by cases k <;> with_unfolding_all rfl
theorem asB_br {α : Type} {d : D} {a b : R α} {Q : α → Prop} : Wx (asB d fun i => if i = true then a else b) Q E = brB d (Wx a Q E) (Wx b Q E) := by
  cases d with
  | bl k => cases k <;> with_unfolding_all rfl
  | _ => with_unfolding_all rfl
def kAnd (cl : Nat → List W → Ms → R (W × Ms)) (b : PyD.E) (ρ : Env) (Q : W × Ms → Prop) (E : XE) (p : W × Ms) : Prop := Wx (view p.2 p.1) (fun x => brB x (Wx (evE cl b ρ p.2) Q E) (Q (.d (.bl false), p.2))) E
def kAnd2 (cl : Nat → List W → Ms → R (W × Ms)) (b : PyD.E) (ρ : Env) (M : Ms) (Q : W × Ms → Prop) (E : XE) (x : D) : Prop := brB x (Wx (evE cl b ρ M) Q E) (Q (.d (.bl false), M))
@[simp] theorem kAnd_mk {b : PyD.E} {w : W} : kAnd cl b ρ Q E (w, M) = Wx (view M w) (kAnd2 cl b ρ M Q E) E := rfl
@[simp] theorem kAnd2_mk {b : PyD.E} {k : Bool} : kAnd2 cl b ρ M Q E (.bl k) = if k = true then Wx (evE cl b ρ M) Q E else Q (.d (.bl false), M) := by cases k <;> with_unfolding_all rfl
@[simp] theorem w_and {a b : PyD.E} : Wx (evE cl (.and a b) ρ M) Q E = Wx (evE cl a ρ M) (kAnd cl b ρ Q E) E := by
  rw [evE, wx_bind]; congr 1; funext p; simp only [kAnd, wx_bind]; congr 1; funext x; rw [asB_br]; with_unfolding_all rfl
def kOr (cl : Nat → List W → Ms → R (W × Ms)) (b : PyD.E) (ρ : Env) (Q : W × Ms → Prop) (E : XE) (p : W × Ms) : Prop := Wx (view p.2 p.1) (fun x => brB x (Q (.d (.bl true), p.2)) (Wx (evE cl b ρ p.2) Q E)) E
def kOr2 (cl : Nat → List W → Ms → R (W × Ms)) (b : PyD.E) (ρ : Env) (M : Ms) (Q : W × Ms → Prop) (E : XE) (x : D) : Prop := brB x (Q (.d (.bl true), M)) (Wx (evE cl b ρ M) Q E)
@[simp] theorem kOr_mk {b : PyD.E} {w : W} : kOr cl b ρ Q E (w, M) = Wx (view M w) (kOr2 cl b ρ M Q E) E := rfl
@[simp] theorem kOr2_mk {b : PyD.E} {k : Bool} : kOr2 cl b ρ M Q E (.bl k) = if k = true then Q (.d (.bl true), M) else Wx (evE cl b ρ M) Q E := by cases k <;> with_unfolding_all rfl
@[simp] theorem w_or {a b : PyD.E} : Wx (evE cl (.or a b) ρ M) Q E = Wx (evE cl a ρ M) (kOr cl b ρ Q E) E := by
  rw [evE, wx_bind]; congr 1; funext p; simp only [kOr, wx_bind]; congr 1; funext x; rw [asB_br]; with_unfolding_all rfl
def kIfe (cl : Nat → List W → Ms → R (W × Ms)) (a b : PyD.E) (ρ : Env) (Q : W × Ms → Prop) (E : XE) (p : W × Ms) : Prop := Wx (view p.2 p.1) (fun x => brB x (Wx (evE cl a ρ p.2) Q E) (Wx (evE cl b ρ p.2) Q E)) E
def kIfe2 (cl : Nat → List W → Ms → R (W × Ms)) (a b : PyD.E) (ρ : Env) (M : Ms) (Q : W × Ms → Prop) (E : XE) (x : D) : Prop := brB x (Wx (evE cl a ρ M) Q E) (Wx (evE cl b ρ M) Q E)
@[simp] theorem kIfe_mk {a b : PyD.E} {w : W} : kIfe cl a b ρ Q E (w, M) = Wx (view M w) (kIfe2 cl a b ρ M Q E) E := rfl
@[simp] theorem kIfe2_mk {a b : PyD.E} {k : Bool} : kIfe2 cl a b ρ M Q E (.bl k) = if k = true then Wx (evE cl a ρ M) Q E else Wx (evE cl b ρ M) Q E := by cases k <;> with_unfolding_all rfl
@[simp] theorem w_ife {c a b : PyD.E} : Wx (evE cl (.ife c a b) ρ M) Q E = Wx (evE cl c ρ M) (kIfe cl a b ρ Q E) E := by
  rw [evE, wx_bind]; congr 1; funext p; simp only [kIfe, wx_bind]; congr 1; funext x; rw [asB_br]
def kChn1 (cl : Nat → List W → Ms → R (W × Ms)) (o o' : Cp) (b c : PyD.E) (ρ : Env) (Q : W × Ms → Prop) (E : XE) (p : W × Ms) : Prop := Wx (evE cl b ρ p.2) (fun q => Wx (view q.2 p.1) (fun x => Wx (view q.2 q.1) (fun y => Wx (dcmp o x y) (fun z => brB z (Wx (evE cl c ρ q.2) (fun r => Wx (view r.2 q.1) (fun y' => Wx (view r.2 r.1) (fun z' => Wx (dcmp o' y' z') (fun u => Q (.d u, r.2)) E) E) E) E) (Q (.d (.bl false), q.2))) E) E) E) E
def kChn2 (cl : Nat → List W → Ms → R (W × Ms)) (o o' : Cp) (w : W) (c : PyD.E) (ρ : Env) (Q : W × Ms → Prop) (E : XE) (q : W × Ms) : Prop := Wx (view q.2 w) (fun x => Wx (view q.2 q.1) (fun y => Wx (dcmp o x y) (fun z => brB z (Wx (evE cl c ρ q.2) (fun r => Wx (view r.2 q.1) (fun y' => Wx (view r.2 r.1) (fun z' => Wx (dcmp o' y' z') (fun u => Q (.d u, r.2)) E) E) E) E) (Q (.d (.bl false), q.2))) E) E) E
def kChn3 (cl : Nat → List W → Ms → R (W × Ms)) (o' : Cp) (w : W) (c : PyD.E) (ρ : Env) (M : Ms) (Q : W × Ms → Prop) (E : XE) (z : D) : Prop := brB z (Wx (evE cl c ρ M) (kOp2 (dcmp o') w Q E) E) (Q (.d (.bl false), M))
@[simp] theorem kChn1_mk {o o' : Cp} {b c : PyD.E} {w : W} : kChn1 cl o o' b c ρ Q E (w, M) = Wx (evE cl b ρ M) (kChn2 cl o o' w c ρ Q E) E := rfl
@[simp] theorem kChn2_mk {o o' : Cp} {c : PyD.E} {v w : W} : kChn2 cl o o' v c ρ Q E (w, M) = Wx (view M v) (fun x => Wx (view M w) (fun y => Wx (dcmp o x y) (kChn3 cl o' w c ρ M Q E) E) E) E := rfl
@[simp] theorem kChn3_mk {o' : Cp} {c : PyD.E} {w : W} {k : Bool} : kChn3 cl o' w c ρ M Q E (.bl k) = if k = true then Wx (evE cl c ρ M) (kOp2 (dcmp o') w Q E) E else Q (.d (.bl false), M) := by cases k <;> with_unfolding_all rfl
@[simp] theorem w_chn {o o' : Cp} {a b c : PyD.E} : Wx (evE cl (.chn o o' a b c) ρ M) Q E = Wx (evE cl a ρ M) (kChn1 cl o o' b c ρ Q E) E := by
  rw [evE, wx_bind]; congr 1; funext p; simp only [kChn1, wx_bind]; congr 1; funext q; congr 1; funext x; congr 1; funext y; congr 1; funext z; rw [asB_br]; simp only [wx_bind, wx_ok]
def kSl1 (cl : Nat → List W → Ms → R (W × Ms)) (lo hi : Eo) (ρ : Env) (Q : W × Ms → Prop) (E : XE) (p : W × Ms) : Prop := Wx (evO cl lo ρ p.2) (fun q => Wx (evO cl hi ρ q.2) (fun r => Wx (view r.2 p.1) (fun x => Wx (dsl x q.1 r.1) (fun z => Q (.d z, r.2)) E) E) E) E
def kSl2 (cl : Nat → List W → Ms → R (W × Ms)) (hi : Eo) (w : W) (ρ : Env) (Q : W × Ms → Prop) (E : XE) (q : Option Int × Ms) : Prop := Wx (evO cl hi ρ q.2) (fun r => Wx (view r.2 w) (fun x => Wx (dsl x q.1 r.1) (fun z => Q (.d z, r.2)) E) E) E
def kSl3 (w : W) (lo : Option Int) (Q : W × Ms → Prop) (E : XE) (r : Option Int × Ms) : Prop := Wx (view r.2 w) (fun x => Wx (dsl x lo r.1) (fun z => Q (.d z, r.2)) E) E
@[simp] theorem kSl1_mk {lo hi : Eo} {w : W} : kSl1 cl lo hi ρ Q E (w, M) = Wx (evO cl lo ρ M) (kSl2 cl hi w ρ Q E) E := rfl
@[simp] theorem kSl2_mk {hi : Eo} {w : W} {lo : Option Int} : kSl2 cl hi w ρ Q E (lo, M) = Wx (evO cl hi ρ M) (kSl3 w lo Q E) E := rfl
@[simp] theorem kSl3_mk {w : W} {lo hi : Option Int} : kSl3 w lo Q E (hi, M) = Wx (view M w) (fun x => Wx (dsl x lo hi) (fun z => Q (.d z, M)) E) E := rfl
@[simp] theorem w_sl {a : PyD.E} {lo hi : Eo} : Wx (evE cl (.sl a lo hi) ρ M) Q E = Wx (evE cl a ρ M) (kSl1 cl lo hi ρ Q E) E := by
  rw [evE]; simp only [wx_bind, wx_ok]; with_unfolding_all rfl
def kCall (cl : Nat → List W → Ms → R (W × Ms)) (f : Nat) (Q : W × Ms → Prop) (E : XE) (q : List W × Ms) : Prop := Wx (cl f q.1 q.2) Q E
@[simp] theorem kCall_mk {f : Nat} {ws : List W} : kCall cl f Q E (ws, M) = Wx (cl f ws M) Q E := rfl
@[simp] theorem w_call {f : Nat} {es : Es} : Wx (evE cl (.call f es) ρ M) Q E = Wx (evWs cl es ρ M) (kCall cl f Q E) E := by
  rw [evE, wx_bind]; with_unfolding_all rfl
def kBi (b : Bi) (Q : W × Ms → Prop) (E : XE) (q : List D × Ms) : Prop := Wx (dbi b q.1) (fun z => Q (.d z, q.2)) E
@[simp] theorem kBi_mk {b : Bi} {ds : List D} : kBi b Q E (ds, M) = Wx (dbi b ds) (fun z => Q (.d z, M)) E := rfl
@[simp] theorem w_bi {b : Bi} {es : Es} : Wx (evE cl (.bi b es) ρ M) Q E = Wx (evVs cl es ρ M) (kBi b Q E) E := by
  rw [evE]; simp only [wx_bind, wx_ok]; with_unfolding_all rfl
def kMt1 (cl : Nat → List W → Ms → R (W × Ms)) (m : Me) (es : Es) (ρ : Env) (Q : W × Ms → Prop) (E : XE) (p : W × Ms) : Prop := Wx (view p.2 p.1) (fun x => Wx (asS x fun a => (evVs cl es ρ p.2).bind fun q => (dmt m a q.1).bind fun z => .ok (.d z, q.2)) Q E) E
def kMt2 (m : Me) (a : PySem.Str) (Q : W × Ms → Prop) (E : XE) (q : List D × Ms) : Prop := Wx (dmt m a q.1) (fun z => Q (.d z, q.2)) E
def kMt3 (cl : Nat → List W → Ms → R (W × Ms)) (m : Me) (es : Es) (ρ : Env) (M : Ms) (Q : W × Ms → Prop) (E : XE) (x : D) : Prop := match x with
  | .str a => Wx (evVs cl es ρ M) (kMt2 m a Q E) E
  | _ => False
@[simp] theorem kMt1_mk {m : Me} {es : Es} {w : W} : kMt1 cl m es ρ Q E (w, M) = Wx (view M w) (kMt3 cl m es ρ M Q E) E := by
  unfold kMt1; congr 1; funext x; cases x <;> first | with_unfolding_all rfl | (simp only [asS, wx_bind, wx_ok, kMt3]; with_unfolding_all rfl)
@[simp] theorem kMt3_mk {m : Me} {es : Es} {a : PySem.Str} : kMt3 cl m es ρ M Q E (.str a) = Wx (evVs cl es ρ M) (kMt2 m a Q E) E := rfl
@[simp] theorem kMt2_mk {m : Me} {a : PySem.Str} {ds : List D} : kMt2 m a Q E (ds, M) = Wx (dmt m a ds) (fun z => Q (.d z, M)) E := rfl
@[simp] theorem w_mt {m : Me} {a : PyD.E} {es : Es} : Wx (evE cl (.mt m a es) ρ M) Q E = Wx (evE cl a ρ M) (kMt1 cl m es ρ Q E) E := by
  rw [evE]; simp only [wx_bind]; with_unfolding_all rfl
def kSm1 (cl : Nat → List W → Ms → R (W × Ms)) (m : Sm) (b : PyD.E) (ρ : Env) (Q : W × Ms → Prop) (E : XE) (p : W × Ms) : Prop := Wx (view p.2 p.1) (fun x0 => isLst x0 = true ∧ Wx (evE cl b ρ p.2) (fun q => Wx (view q.2 p.1) (fun x => Wx (view q.2 q.1) (fun y => Wx (dsm m x y) (fun z => Q (.d z, q.2)) E) E) E) E) E
def kSm2 (cl : Nat → List W → Ms → R (W × Ms)) (m : Sm) (b : PyD.E) (ρ : Env) (M : Ms) (w : W) (Q : W × Ms → Prop) (E : XE) (x0 : D) : Prop := isLst x0 = true ∧ Wx (evE cl b ρ M) (kOp2 (dsm m) w Q E) E
@[simp] theorem kSm1_mk {m : Sm} {b : PyD.E} {w : W} : kSm1 cl m b ρ Q E (w, M) = Wx (view M w) (kSm2 cl m b ρ M w Q E) E := rfl
@[simp] theorem kSm2_mk {m : Sm} {b : PyD.E} {w : W} {ds : List D} : kSm2 cl m b ρ M w Q E (.lst ds) = Wx (evE cl b ρ M) (kOp2 (dsm m) w Q E) E := by
  unfold kSm2
  simp [isLst]
@[simp] theorem w_sm {m : Sm} {a b : PyD.E} : Wx (evE cl (.sm m a b) ρ M) Q E = Wx (evE cl a ρ M) (kSm1 cl m b ρ Q E) E := by
  rw [evE]; simp only [wx_bind, wx_stuckIf, wx_ok]; with_unfolding_all rfl
@[simp] theorem w_cix {ys : List PySem.Str} {a : PyD.E} : Wx (evE cl (.cix ys a) ρ M) Q E = Wx (evE cl a ρ M) (kU (dcix ys) Q E) E := by
  rw [evE, wx_bind]; congr 1; funext p; simp only [kU, wx_bind, wx_ok]
@[simp] theorem w_zd {z : PySem.Str} {a : PyD.E} : Wx (evE cl (.zd z a) ρ M) Q E = Wx (evE cl a ρ M) (kU (dzd z) Q E) E := by
  rw [evE, wx_bind]; congr 1; funext p; simp only [kU, wx_bind, wx_ok]
def kCalv (cl : Nat → List W → Ms → R (W × Ms)) (es : Es) (ρ : Env) (M : Ms) (Q : W × Ms → Prop) (E : XE) (o : Option (Option W)) : Prop := match o with
  | some (some (.d (.fn j))) => Wx (evWs cl es ρ M) (kCall cl j Q E) NoE
  | _ => False
@[simp] theorem kCalv_fn {j : Nat} {es : Es} : kCalv cl es ρ M Q E (some (some (.d (.fn j)))) = Wx (evWs cl es ρ M) (kCall cl j Q E) NoE := rfl
theorem wx_okOnly {α β : Type} {r : R α} {f : α → R β} {Q : β → Prop} {E : XE} : Wx (okOnly r f) Q E = Wx r (fun a => Wx (f a) Q E) NoE := by
  cases r with
  | ok a => rw [wx_ok]; rfl
  | exc c M => rw [wx_exc]; show Wx R.stuck Q E = _; rw [wx_stuck]
  | stuck => rw [wx_stuck]; show Wx R.stuck Q E = _; rw [wx_stuck]
@[simp] theorem w_calv {i : Nat} {es : Es} : Wx (evE cl (.calv i es) ρ M) Q E = kCalv cl es ρ M Q E ρ[i]? := by
  rw [evE]
  match ρ[i]? with
  | some (some (.d (.fn j))) => show Wx (okOnly (evWs cl es ρ M) _) Q E = _; rw [wx_okOnly]; rfl
  | none => exact wx_stuck
  | some none => exact wx_stuck
  | some (some (.c _)) => exact wx_stuck
  | some (some (.d .non)) => exact wx_stuck
  | some (some (.d (.bl _))) => exact wx_stuck
  | some (some (.d (.int _))) => exact wx_stuck
  | some (some (.d (.str _))) => exact wx_stuck
  | some (some (.d (.tup _))) => exact wx_stuck
  | some (some (.d (.lst _))) => exact wx_stuck
  | some (some (.d (.scr _))) => exact wx_stuck
  | some (some (.d (.dc _))) => exact wx_stuck
def kErr (n : Nat) (Q : W × Ms → Prop) (q : W × Ms) : Prop := Q (.d (.str ""), q.2.take n)
@[simp] theorem kErr_mk {n : Nat} {w : W} : kErr n Q (w, M) = Q (.d (.str ""), M.take n) := rfl
def nmE (nms : List PySem.Str) (n : Nat) (Q : W × Ms → Prop) : XE := fun c M => match nms[c]? with
  | some z => Q (.d (.str z), M.take n)
  | none => False
@[simp] theorem w_err {e : PyD.E} {nms : List PySem.Str} : Wx (evE cl (.err e nms) ρ M) Q E = Wx (evE cl e ρ M) (kErr M.length Q) (nmE nms M.length Q) := by
  rw [evE]
  cases evE cl e ρ M with
  | ok p => rw [wx_ok]; show Wx (R.ok _) Q E = _; rw [wx_ok]; rfl
  | exc c M' =>
    rw [wx_exc]
    show Wx (match nms[c]? with | some z => R.ok (W.d (D.str z), M'.take M.length) | none => .stuck) Q E = _
    unfold nmE
    cases nms[c]? with
    | none => rw [wx_stuck]
    | some z => rw [wx_ok]
  | stuck => rw [wx_stuck]; show Wx R.stuck Q E = _; rw [wx_stuck]
theorem nmE_mk {nms : List PySem.Str} {n c : Nat} {z : PySem.Str} (h : nms[c]? = some z) : nmE nms n Q c M = Q (.d (.str z), M.take n) := by
  unfold nmE
  rw [h]
end
/-! ### lists of expressions -/
section
variable {cl : Nat → List W → Ms → R (W × Ms)} {ρ : Env} {M : Ms} {E : XE}
section
variable {Q : List W × Ms → Prop}
def kWs (cl : Nat → List W → Ms → R (W × Ms)) (es : Es) (ρ : Env) (Q : List W × Ms → Prop) (E : XE) (p : W × Ms) : Prop := Wx (evWs cl es ρ p.2) (fun q => Q (p.1 :: q.1, q.2)) E
def kWs2 (w : W) (Q : List W × Ms → Prop) (q : List W × Ms) : Prop := Q (w :: q.1, q.2)
@[simp] theorem kWs_mk {es : Es} {w : W} : kWs cl es ρ Q E (w, M) = Wx (evWs cl es ρ M) (kWs2 w Q) E := rfl
@[simp] theorem kWs2_mk {w : W} {ws : List W} : kWs2 w Q (ws, M) = Q (w :: ws, M) := rfl
@[simp] theorem w_ws0 : Wx (evWs cl .nil ρ M) Q E = Q ([], M) := by rw [evWs]; with_unfolding_all rfl
@[simp] theorem w_ws {e : PyD.E} {es : Es} : Wx (evWs cl (.cons e es) ρ M) Q E = Wx (evE cl e ρ M) (kWs cl es ρ Q E) E := by
  rw [evWs]; simp only [wx_bind, wx_ok]; with_unfolding_all rfl
end
section
variable {Q : List D × Ms → Prop}
def kDs (cl : Nat → List W → Ms → R (W × Ms)) (es : Es) (ρ : Env) (Q : List D × Ms → Prop) (E : XE) (p : W × Ms) : Prop := Wx (frz p.2 p.1) (fun p => Wx (evDs cl es ρ p.2) (fun q => Q (p.1 :: q.1, q.2)) E) E
def kDs1 (cl : Nat → List W → Ms → R (W × Ms)) (es : Es) (ρ : Env) (Q : List D × Ms → Prop) (E : XE) (p : D × Ms) : Prop := Wx (evDs cl es ρ p.2) (fun q => Q (p.1 :: q.1, q.2)) E
def kDs2 (w : D) (Q : List D × Ms → Prop) (q : List D × Ms) : Prop := Q (w :: q.1, q.2)
@[simp] theorem kDs_mk {es : Es} {w : W} : kDs cl es ρ Q E (w, M) = Wx (frz M w) (kDs1 cl es ρ Q E) E := rfl
@[simp] theorem kDs1_mk {es : Es} {w : D} : kDs1 cl es ρ Q E (w, M) = Wx (evDs cl es ρ M) (kDs2 w Q) E := rfl
@[simp] theorem kDs2_mk {w : D} {ws : List D} : kDs2 w Q (ws, M) = Q (w :: ws, M) := rfl
@[simp] theorem w_ds0 : Wx (evDs cl .nil ρ M) Q E = Q ([], M) := by rw [evDs]; with_unfolding_all rfl
@[simp] theorem w_ds {e : PyD.E} {es : Es} : Wx (evDs cl (.cons e es) ρ M) Q E = Wx (evE cl e ρ M) (kDs cl es ρ Q E) E := by
  rw [evDs]; simp only [wx_bind, wx_ok]; with_unfolding_all rfl
def kVs1 (Q : List D × Ms → Prop) (E : XE) (p : W × Ms) : Prop := Wx (view p.2 p.1) (fun x => Q ([x], p.2)) E
@[simp] theorem kVs1_mk {w : W} : kVs1 Q E (w, M) = Wx (view M w) (fun x => Q ([x], M)) E := rfl
@[simp] theorem w_vs0 : Wx (evVs cl .nil ρ M) Q E = Q ([], M) := by rw [evVs]; with_unfolding_all rfl
@[simp] theorem w_vs1 {e : PyD.E} : Wx (evVs cl (.cons e .nil) ρ M) Q E = Wx (evE cl e ρ M) (kVs1 Q E) E := by
  rw [evVs]; simp only [wx_bind, wx_ok]; with_unfolding_all rfl
@[simp] theorem w_vs2 {e e' : PyD.E} {es : Es} : Wx (evVs cl (.cons e (.cons e' es)) ρ M) Q E = Wx (evE cl e ρ M) (kDs cl (.cons e' es) ρ Q E) E := by
  rw [evVs]
  · simp only [wx_bind, wx_ok]; with_unfolding_all rfl
  · intro h; cases h
end
section
variable {Q : Option Int × Ms → Prop}
def kO (Q : Option Int × Ms → Prop) (E : XE) (p : W × Ms) : Prop := Wx (view p.2 p.1) (fun x => Wx (asI x fun i => .ok (some i, p.2)) Q E) E
@[simp] theorem kO_mk {w : W} : kO Q E (w, M) = Wx (view M w) (fun x => Wx (asI x fun i => .ok (some i, M)) Q E) E := rfl
@[simp] theorem w_o0 : Wx (evO cl .none ρ M) Q E = Q (none, M) := by rw [evO]; with_unfolding_all rfl
@[simp] theorem w_o {e : PyD.E} : Wx (evO cl (.some e) ρ M) Q E = Wx (evE cl e ρ M) (kO Q E) E := by
  rw [evO]; simp only [wx_bind]; with_unfolding_all rfl
end
section
variable {Q : Bool × Ms → Prop}
def kC (Q : Bool × Ms → Prop) (E : XE) (p : W × Ms) : Prop := Wx (view p.2 p.1) (fun x => Wx (asB x fun i => .ok (i, p.2)) Q E) E
@[simp] theorem kC_mk {w : W} : kC Q E (w, M) = Wx (view M w) (fun x => Wx (asB x fun i => .ok (i, M)) Q E) E := rfl
@[simp] theorem w_c0 : Wx (evC cl .none ρ M) Q E = Q (true, M) := by rw [evC]; with_unfolding_all rfl
@[simp] theorem w_c {e : PyD.E} : Wx (evC cl (.some e) ρ M) Q E = Wx (evE cl e ρ M) (kC Q E) E := by
  rw [evC]; simp only [wx_bind]; with_unfolding_all rfl
end
/-! ### what is walked -/
section
variable {Q : List D × Ms → Prop}
def kSeq (Q : List D × Ms → Prop) (E : XE) (p : W × Ms) : Prop := Wx (frz p.2 p.1) (fun p => Wx (itemsOf p.1) (fun ds => Q (ds, p.2)) E) E
@[simp] theorem kSeq_mk {w : W} : kSeq Q E (w, M) = Wx (frz M w) (fun p => Wx (itemsOf p.1) (fun ds => Q (ds, p.2)) E) E := rfl
@[simp] theorem w_seq {e : PyD.E} : Wx (evI cl (.seq e) ρ M) Q E = Wx (evE cl e ρ M) (kSeq Q E) E := by
  rw [evI]; simp only [wx_bind, wx_ok]; with_unfolding_all rfl
def kEnum (Q : List D × Ms → Prop) (E : XE) (p : W × Ms) : Prop := Wx (frz p.2 p.1) (fun p => Wx (itemsOf p.1) (fun ds => Q (enumD 0 ds, p.2)) E) E
@[simp] theorem kEnum_mk {w : W} : kEnum Q E (w, M) = Wx (frz M w) (fun p => Wx (itemsOf p.1) (fun ds => Q (enumD 0 ds, p.2)) E) E := rfl
@[simp] theorem w_enum {e : PyD.E} : Wx (evI cl (.enum e) ρ M) Q E = Wx (evE cl e ρ M) (kEnum Q E) E := by
  rw [evI]; simp only [wx_bind, wx_ok]; with_unfolding_all rfl
def kRg1 (Q : List D × Ms → Prop) (E : XE) (p : W × Ms) : Prop := Wx (view p.2 p.1) (fun x => Wx (asI x fun n => stuckIf (decide (-(2 ^ 62) ≤ n ∧ n < 2 ^ 62)) (.ok (rgD 0 n, p.2))) Q E) E
@[simp] theorem kRg1_mk {w : W} : kRg1 Q E (w, M) = Wx (view M w) (fun x => Wx (asI x fun n => stuckIf (decide (-(2 ^ 62) ≤ n ∧ n < 2 ^ 62)) (.ok (rgD 0 n, M))) Q E) E := rfl
@[simp] theorem w_rg1 {e : PyD.E} : Wx (evI cl (.rg1 e) ρ M) Q E = Wx (evE cl e ρ M) (kRg1 Q E) E := by
  rw [evI]; simp only [wx_bind]; with_unfolding_all rfl
def kRg2a (cl : Nat → List W → Ms → R (W × Ms)) (b : PyD.E) (ρ : Env) (Q : List D × Ms → Prop) (E : XE) (p : W × Ms) : Prop := Wx (view p.2 p.1) (fun x => Wx (evE cl b ρ p.2) (fun q => Wx (view q.2 q.1) (fun y => Wx (asI x fun m => asI y fun n =>
      stuckIf (decide (-(2 ^ 62) ≤ m ∧ m < 2 ^ 62 ∧ -(2 ^ 62) ≤ n ∧ n < 2 ^ 62)) (.ok (rgD m n, q.2))) Q E) E) E) E
def kRg2b (cl : Nat → List W → Ms → R (W × Ms)) (b : PyD.E) (ρ : Env) (M : Ms) (Q : List D × Ms → Prop) (E : XE) (x : D) : Prop := Wx (evE cl b ρ M) (fun q => Wx (view q.2 q.1) (fun y => Wx (asI x fun m => asI y fun n =>
      stuckIf (decide (-(2 ^ 62) ≤ m ∧ m < 2 ^ 62 ∧ -(2 ^ 62) ≤ n ∧ n < 2 ^ 62)) (.ok (rgD m n, q.2))) Q E) E) E
def kRg2c (x : D) (Q : List D × Ms → Prop) (E : XE) (q : W × Ms) : Prop := Wx (view q.2 q.1) (fun y => Wx (asI x fun m => asI y fun n =>
      stuckIf (decide (-(2 ^ 62) ≤ m ∧ m < 2 ^ 62 ∧ -(2 ^ 62) ≤ n ∧ n < 2 ^ 62)) (.ok (rgD m n, q.2))) Q E) E
@[simp] theorem kRg2a_mk {b : PyD.E} {w : W} : kRg2a cl b ρ Q E (w, M) = Wx (view M w) (kRg2b cl b ρ M Q E) E := rfl
@[simp] theorem kRg2b_mk {b : PyD.E} {x : D} : kRg2b cl b ρ M Q E x = Wx (evE cl b ρ M) (kRg2c x Q E) E := rfl
@[simp] theorem kRg2c_mk {x : D} {w : W} : kRg2c x Q E (w, M) = Wx (view M w) (fun y => Wx (asI x fun m => asI y fun n =>
      stuckIf (decide (-(2 ^ 62) ≤ m ∧ m < 2 ^ 62 ∧ -(2 ^ 62) ≤ n ∧ n < 2 ^ 62)) (.ok (rgD m n, M))) Q E) E := rfl
@[simp] theorem w_rg2 {a b : PyD.E} : Wx (evI cl (.rg2 a b) ρ M) Q E = Wx (evE cl a ρ M) (kRg2a cl b ρ Q E) E := by
  rw [evI]; simp only [wx_bind]; with_unfolding_all rfl
def kZip1 (cl : Nat → List W → Ms → R (W × Ms)) (b : PyD.E) (ρ : Env) (Q : List D × Ms → Prop) (E : XE) (p : W × Ms) : Prop := Wx (frz p.2 p.1) (fun p => Wx (evE cl b ρ p.2) (fun q => Wx (frz q.2 q.1) (fun q => Wx (itemsOf p.1) (fun ds => Wx (itemsOf q.1) (fun es => Q (zipD ds es, q.2)) E) E) E) E) E
def kZip2 (cl : Nat → List W → Ms → R (W × Ms)) (b : PyD.E) (ρ : Env) (Q : List D × Ms → Prop) (E : XE) (p : D × Ms) : Prop := Wx (evE cl b ρ p.2) (fun q => Wx (frz q.2 q.1) (fun q => Wx (itemsOf p.1) (fun ds => Wx (itemsOf q.1) (fun es => Q (zipD ds es, q.2)) E) E) E) E
def kZip3 (x : D) (Q : List D × Ms → Prop) (E : XE) (q : W × Ms) : Prop := Wx (frz q.2 q.1) (fun q => Wx (itemsOf x) (fun ds => Wx (itemsOf q.1) (fun es => Q (zipD ds es, q.2)) E) E) E
@[simp] theorem kZip1_mk {b : PyD.E} {w : W} : kZip1 cl b ρ Q E (w, M) = Wx (frz M w) (kZip2 cl b ρ Q E) E := rfl
@[simp] theorem kZip2_mk {b : PyD.E} {x : D} : kZip2 cl b ρ Q E (x, M) = Wx (evE cl b ρ M) (kZip3 x Q E) E := rfl
@[simp] theorem kZip3_mk {x : D} {w : W} : kZip3 x Q E (w, M) = Wx (frz M w) (fun q => Wx (itemsOf x) (fun ds => Wx (itemsOf q.1) (fun es => Q (zipD ds es, q.2)) E) E) E := rfl
@[simp] theorem w_zip {a b : PyD.E} : Wx (evI cl (.zip a b) ρ M) Q E = Wx (evE cl a ρ M) (kZip1 cl b ρ Q E) E := by
  rw [evI]; simp only [wx_bind, wx_ok]; with_unfolding_all rfl
/-! ### fresh lists -/
def kLst (Q : List D × Ms → Prop) (q : List D × Ms) : Prop := q.1.length ≤ sizeLine ∧ Q q
@[simp] theorem kLst_mk {ds : List D} : kLst Q (ds, M) = (ds.length ≤ sizeLine ∧ Q (ds, M)) := rfl
@[simp] theorem w_lst {es : Es} : Wx (evF cl (.lst es) ρ M) Q E = Wx (evDs cl es ρ M) (kLst Q) E := by
  rw [evF, wx_bind]; congr 1; funext q; simp [kLst]
def dof (x : D) : R (List D) := match x with
  | .lst ds => .ok ds
  | .tup ds => .ok ds
  | _ => .stuck
@[simp] theorem dof_lst {ds : List D} : dof (.lst ds) = .ok ds := rfl
@[simp] theorem dof_tup {ds : List D} : dof (.tup ds) = .ok ds := rfl
def kOf (Q : List D × Ms → Prop) (E : XE) (p : W × Ms) : Prop := Wx (view p.2 p.1) (fun x => Wx (dof x) (fun ds => Q (ds, p.2)) E) E
@[simp] theorem kOf_mk {w : W} : kOf Q E (w, M) = Wx (view M w) (fun x => Wx (dof x) (fun ds => Q (ds, M)) E) E := rfl
@[simp] theorem w_of {e : PyD.E} : Wx (evF cl (.of e) ρ M) Q E = Wx (evE cl e ρ M) (kOf Q E) E := by
  rw [evF]; simp only [wx_bind]; congr 1; funext p; unfold kOf; congr 1; funext x; cases x <;> with_unfolding_all rfl
def kRg (Q : List D × Ms → Prop) (E : XE) (p : W × Ms) : Prop := Wx (view p.2 p.1) (fun x => Wx (asI x fun n => stuckIf (rgOk 0 n) (.ok (rgD 0 n, p.2))) Q E) E
@[simp] theorem kRg_mk {w : W} : kRg Q E (w, M) = Wx (view M w) (fun x => Wx (asI x fun n => stuckIf (rgOk 0 n) (.ok (rgD 0 n, M))) Q E) E := rfl
@[simp] theorem w_rg {e : PyD.E} : Wx (evF cl (.rg e) ρ M) Q E = Wx (evE cl e ρ M) (kRg Q E) E := by
  rw [evF]; simp only [wx_bind]; with_unfolding_all rfl
def kFop1 (cl : Nat → List W → Ms → R (W × Ms)) (f : D → D → R (List D)) (b : PyD.E) (ρ : Env) (Q : List D × Ms → Prop) (E : XE) (p : W × Ms) : Prop := Wx (evE cl b ρ p.2) (fun q => Wx (view q.2 p.1) (fun x => Wx (view q.2 q.1) (fun y => Wx (f x y) (fun z => Q (z, q.2)) E) E) E) E
def kFop2 (f : D → D → R (List D)) (w : W) (Q : List D × Ms → Prop) (E : XE) (q : W × Ms) : Prop := Wx (view q.2 w) (fun x => Wx (view q.2 q.1) (fun y => Wx (f x y) (fun z => Q (z, q.2)) E) E) E
@[simp] theorem kFop1_mk {f : D → D → R (List D)} {b : PyD.E} {w : W} : kFop1 cl f b ρ Q E (w, M) = Wx (evE cl b ρ M) (kFop2 f w Q E) E := rfl
@[simp] theorem kFop2_mk {f : D → D → R (List D)} {v w : W} : kFop2 f v Q E (w, M) = Wx (view M v) (fun x => Wx (view M w) (fun y => Wx (f x y) (fun z => Q (z, M)) E) E) E := rfl
@[simp] theorem w_fop {o : B2} {a b : PyD.E} : Wx (evF cl (.op o a b) ρ M) Q E = Wx (evE cl a ρ M) (kFop1 cl (lop o) b ρ Q E) E := by
  rw [evF]; simp only [wx_bind, wx_ok]; with_unfolding_all rfl
def rg2F (x y : D) : R (List D) := asI x fun m => asI y fun n => stuckIf (rgOk m n) (.ok (rgD m n))
@[simp] theorem w_frg2 {a b : PyD.E} : Wx (evF cl (.rg2 a b) ρ M) Q E = Wx (evE cl a ρ M) (kFop1 cl rg2F b ρ Q E) E := by
  rw [evF]; simp only [wx_bind]; congr 1; funext p; unfold kFop1; congr 1; funext q; congr 1; funext x; congr 1; funext y; cases x <;> first | with_unfolding_all rfl | (cases y <;> first | with_unfolding_all rfl | simp [rg2F, asI])
/-- one turn of a comprehension -/
def lcE (cl : Nat → List W → Ms → R (W × Ms)) (e : PyD.E) (t : Tg) (c : Eo) (own : List Nat) (ρ : Env) (d : D) (M : Ms) : R (Option D × Ms) := (bindT t d (wipeD ρ own)).bind fun ρ' => (evC cl c ρ' M).bind fun q =>
      if q.1 = true then (evE cl e ρ' q.2).bind fun r => (frz r.2 r.1).bind fun r => .ok (some r.1, r.2) else .ok (none, q.2)
def kLc (cl : Nat → List W → Ms → R (W × Ms)) (e : PyD.E) (t : Tg) (c : Eo) (own : List Nat) (ρ : Env) (Q : List D × Ms → Prop) (E : XE) (p : List D × Ms) : Prop := Wx (lcL (lcE cl e t c own ρ) p.1 [] p.2) Q E
@[simp] theorem kLc_mk {e : PyD.E} {t : Tg} {c : Eo} {own : List Nat} {ds : List D} : kLc cl e t c own ρ Q E (ds, M) = Wx (lcL (lcE cl e t c own ρ) ds [] M) Q E := rfl
@[simp] theorem w_lc {e : PyD.E} {t : Tg} {it : Ir} {c : Eo} {own : List Nat} : Wx (evF cl (.lc e t it c own) ρ M) Q E = Wx (evI cl it ρ M) (kLc cl e t c own ρ Q E) E := by
  rw [evF]; simp only [wx_bind]; with_unfolding_all rfl
def kLe1 (cl : Nat → List W → Ms → R (W × Ms)) (e : PyD.E) (c : Eo) (M : Ms) (Q : Option D × Ms → Prop) (E : XE) (ρ' : Env) : Prop := Wx (evC cl c ρ' M) (fun q => Wx (if q.1 = true then (evE cl e ρ' q.2).bind fun r => (frz r.2 r.1).bind fun r => .ok (some r.1, r.2) else .ok (none, q.2)) Q E) E
def kLe2 (cl : Nat → List W → Ms → R (W × Ms)) (e : PyD.E) (ρ' : Env) (Q : Option D × Ms → Prop) (E : XE) (q : Bool × Ms) : Prop := Wx (if q.1 = true then (evE cl e ρ' q.2).bind fun r => (frz r.2 r.1).bind fun r => .ok (some r.1, r.2) else .ok (none, q.2)) Q E
def kLe3 (Q : Option D × Ms → Prop) (E : XE) (r : W × Ms) : Prop := Wx (frz r.2 r.1) (fun r => Q (some r.1, r.2)) E
@[simp] theorem w_le {e : PyD.E} {t : Tg} {c : Eo} {own : List Nat} {d : D} {Q : Option D × Ms → Prop} : Wx (lcE cl e t c own ρ d M) Q E = Wx (bindT t d (wipeD ρ own)) (kLe1 cl e c M Q E) E := by
  unfold lcE; simp only [wx_bind]; with_unfolding_all rfl
@[simp] theorem kLe1_mk {e : PyD.E} {c : Eo} {ρ' : Env} {Q : Option D × Ms → Prop} : kLe1 cl e c M Q E ρ' = Wx (evC cl c ρ' M) (kLe2 cl e ρ' Q E) E := rfl
@[simp] theorem kLe2_mk {e : PyD.E} {ρ' : Env} {b : Bool} {Q : Option D × Ms → Prop} : kLe2 cl e ρ' Q E (b, M) = if b = true then Wx (evE cl e ρ' M) (kLe3 Q E) E else Q (none, M) := by
  unfold kLe2; rw [wx_ite]; simp only [wx_bind, wx_ok]; with_unfolding_all rfl
@[simp] theorem kLe3_mk {w : W} {Q : Option D × Ms → Prop} : kLe3 Q E (w, M) = Wx (frz M w) (fun r => Q (some r.1, r.2)) E := rfl
end
end
/-! ### statements -/
section
variable {cl : Nat → List W → Ms → R (W × Ms)} {wf : Nat} {ρ : Env} {M : Ms} {E : XE} {Q : (Fl × Env) × Ms → Prop}
def kSs (cl : Nat → List W → Ms → R (W × Ms)) (wf : Nat) (ss : Ss) (Q : (Fl × Env) × Ms → Prop) (E : XE) (q : (Fl × Env) × Ms) : Prop := match q.1.1 with
  | .nx => Wx (evSs cl wf ss q.1.2 q.2) Q E
  | .rt w => Q ((.rt w, q.1.2), q.2)
@[simp] theorem kSs_nx {ss : Ss} : kSs cl wf ss Q E ((.nx, ρ), M) = Wx (evSs cl wf ss ρ M) Q E := rfl
@[simp] theorem kSs_rt {ss : Ss} {w : W} : kSs cl wf ss Q E ((.rt w, ρ), M) = Q ((.rt w, ρ), M) := rfl
@[simp] theorem w_ss0 : Wx (evSs cl wf .nil ρ M) Q E = Q ((.nx, ρ), M) := by rw [evSs]; with_unfolding_all rfl
@[simp] theorem w_ss {s : S} {ss : Ss} : Wx (evSs cl wf (.cons s ss) ρ M) Q E = Wx (evS cl wf s ρ M) (kSs cl wf ss Q E) E := by
  rw [evSs, wx_bind]; congr 1; funext q; obtain ⟨⟨f, ρ'⟩, M'⟩ := q; cases f <;> with_unfolding_all rfl
def kAsg (i : Nat) (ρ : Env) (Q : (Fl × Env) × Ms → Prop) (p : W × Ms) : Prop := Q ((.nx, ρ.set i (some p.1)), p.2)
@[simp] theorem kAsg_mk {i : Nat} {w : W} : kAsg i ρ Q (w, M) = Q ((.nx, ρ.set i (some w)), M) := rfl
@[simp] theorem w_asg {i : Nat} {e : PyD.E} : Wx (evS cl wf (.asg (.nm i) e) ρ M) Q E = Wx (evE cl e ρ M) (kAsg i ρ Q) E := by
  rw [evS, wx_bind]; with_unfolding_all rfl
def kAsgT (is : List Nat) (ρ : Env) (Q : (Fl × Env) × Ms → Prop) (E : XE) (p : W × Ms) : Prop := Wx (frz p.2 p.1) (fun p => Wx (bindT (.tp is) p.1 ρ) (fun ρ' => Q ((.nx, ρ'), p.2)) E) E
@[simp] theorem kAsgT_mk {is : List Nat} {w : W} : kAsgT is ρ Q E (w, M) = Wx (frz M w) (fun p => Wx (bindT (.tp is) p.1 ρ) (fun ρ' => Q ((.nx, ρ'), p.2)) E) E := rfl
@[simp] theorem w_asgT {is : List Nat} {e : PyD.E} : Wx (evS cl wf (.asg (.tp is) e) ρ M) Q E = Wx (evE cl e ρ M) (kAsgT is ρ Q E) E := by
  rw [evS]; simp only [wx_bind, wx_ok]; with_unfolding_all rfl
def kPar (is : List Nat) (ρ : Env) (Q : (Fl × Env) × Ms → Prop) (E : XE) (p : List W × Ms) : Prop := Wx (setW is p.1 ρ) (fun ρ' => Q ((.nx, ρ'), p.2)) E
@[simp] theorem kPar_mk {is : List Nat} {ws : List W} : kPar is ρ Q E (ws, M) = Wx (setW is ws ρ) (fun ρ' => Q ((.nx, ρ'), M)) E := rfl
@[simp] theorem w_par {is : List Nat} {es : Es} : Wx (evS cl wf (.par is es) ρ M) Q E = Wx (evWs cl es ρ M) (kPar is ρ Q E) E := by
  rw [evS]; simp only [wx_bind, wx_ok]; with_unfolding_all rfl
/-- a store in a list -/
def stI (M : Ms) (w : W) (k : Int) (x : D) : R Ms := match w with
  | .c i => (match M[i]? with
    | some (.lst ds) => (match ixN ds.length k with
      | some j => .ok (M.set i (.lst (ds.set j x)))
      | none => .stuck)
    | _ => .stuck)
  | _ => .stuck
def kSti1 (cl : Nat → List W → Ms → R (W × Ms)) (o k : PyD.E) (ρ : Env) (Q : (Fl × Env) × Ms → Prop) (E : XE) (p : W × Ms) : Prop := Wx (frz p.2 p.1) (fun p => Wx (evE cl o ρ p.2) (fun q => Wx (evE cl k ρ q.2) (fun r => Wx (view r.2 r.1) (fun k => Wx (asI k fun k => (stI r.2 q.1 k p.1)) (fun M => Q ((.nx, ρ), M)) E) E) E) E) E
def kSti2 (cl : Nat → List W → Ms → R (W × Ms)) (o k : PyD.E) (ρ : Env) (Q : (Fl × Env) × Ms → Prop) (E : XE) (p : D × Ms) : Prop := Wx (evE cl o ρ p.2) (fun q => Wx (evE cl k ρ q.2) (fun r => Wx (view r.2 r.1) (fun k => Wx (asI k fun k => (stI r.2 q.1 k p.1)) (fun M => Q ((.nx, ρ), M)) E) E) E) E
def kSti3 (cl : Nat → List W → Ms → R (W × Ms)) (x : D) (k : PyD.E) (ρ : Env) (Q : (Fl × Env) × Ms → Prop) (E : XE) (q : W × Ms) : Prop := Wx (evE cl k ρ q.2) (fun r => Wx (view r.2 r.1) (fun k => Wx (asI k fun k => (stI r.2 q.1 k x)) (fun M => Q ((.nx, ρ), M)) E) E) E
def kSti4 (x : D) (w : W) (ρ : Env) (Q : (Fl × Env) × Ms → Prop) (E : XE) (r : W × Ms) : Prop := Wx (view r.2 r.1) (fun k => Wx (asI k fun k => (stI r.2 w k x)) (fun M => Q ((.nx, ρ), M)) E) E
@[simp] theorem kSti1_mk {o k : PyD.E} {w : W} : kSti1 cl o k ρ Q E (w, M) = Wx (frz M w) (kSti2 cl o k ρ Q E) E := rfl
@[simp] theorem kSti2_mk {o k : PyD.E} {x : D} : kSti2 cl o k ρ Q E (x, M) = Wx (evE cl o ρ M) (kSti3 cl x k ρ Q E) E := rfl
@[simp] theorem kSti3_mk {k : PyD.E} {x : D} {w : W} : kSti3 cl x k ρ Q E (w, M) = Wx (evE cl k ρ M) (kSti4 x w ρ Q E) E := rfl
@[simp] theorem kSti4_mk {x : D} {w v : W} : kSti4 x w ρ Q E (v, M) = Wx (view M v) (fun k => Wx (asI k fun k => (stI M w k x)) (fun M => Q ((.nx, ρ), M)) E) E := rfl
@[simp] theorem w_sti {o k e : PyD.E} : Wx (evS cl wf (.sti o k e) ρ M) Q E = Wx (evE cl e ρ M) (kSti1 cl o k ρ Q E) E := by
  rw [evS, wx_bind]; congr 1; funext p; unfold kSti1; rw [wx_bind]; congr 1; funext p; rw [wx_bind]; congr 1; funext q; rw [wx_bind]; congr 1; funext r; rw [wx_bind]; congr 1; funext x
  cases x with
  | int k =>
    obtain ⟨w, M1⟩ := q
    cases w with
    | d y => with_unfolding_all rfl
    | c i =>
      show Wx (match r.2[i]? with | some (.lst ds) => (match ixN ds.length k with | some j => R.ok ((Fl.nx, ρ), r.2.set i (.lst (ds.set j p.1))) | none => .stuck) | _ => .stuck) Q E = Wx (match r.2[i]? with | some (.lst ds) => (match ixN ds.length k with | some j => .ok (r.2.set i (.lst (ds.set j p.1))) | none => .stuck) | _ => .stuck) _ E
      cases r.2[i]? with
      | none => with_unfolding_all rfl
      | some c =>
        cases c with
        | lst ds => dsimp only; cases ixN ds.length k <;> with_unfolding_all rfl
        | dic _ => with_unfolding_all rfl
        | fro _ => with_unfolding_all rfl
  | _ => with_unfolding_all rfl
/-- an item more -/
def apI (M : Ms) (i : Nat) (x : D) : R Ms := match M[i]? with
  | some (.lst ds) => stuckIf (decide (ds.length < sizeLine)) (.ok (M.set i (.lst (ds ++ [x]))))
  | _ => .stuck
def kApp1 (cl : Nat → List W → Ms → R (W × Ms)) (e : PyD.E) (ρ : Env) (Q : (Fl × Env) × Ms → Prop) (E : XE) (q : W × Ms) : Prop := Wx (cellOf q.2 q.1) (fun i => Wx (evE cl e ρ q.2) (fun p => Wx (frz p.2 p.1) (fun p => Wx (apI p.2 i p.1) (fun M => Q ((.nx, ρ), M)) E) E) E) E
def kApp2 (cl : Nat → List W → Ms → R (W × Ms)) (e : PyD.E) (ρ : Env) (M : Ms) (Q : (Fl × Env) × Ms → Prop) (E : XE) (i : Nat) : Prop := Wx (evE cl e ρ M) (fun p => Wx (frz p.2 p.1) (fun p => Wx (apI p.2 i p.1) (fun M => Q ((.nx, ρ), M)) E) E) E
def kApp3 (i : Nat) (ρ : Env) (Q : (Fl × Env) × Ms → Prop) (E : XE) (p : W × Ms) : Prop := Wx (frz p.2 p.1) (fun p => Wx (apI p.2 i p.1) (fun M => Q ((.nx, ρ), M)) E) E
@[simp] theorem kApp1_mk {e : PyD.E} {w : W} : kApp1 cl e ρ Q E (w, M) = Wx (cellOf M w) (kApp2 cl e ρ M Q E) E := rfl
@[simp] theorem kApp2_mk {e : PyD.E} {i : Nat} : kApp2 cl e ρ M Q E i = Wx (evE cl e ρ M) (kApp3 i ρ Q E) E := rfl
@[simp] theorem kApp3_mk {i : Nat} {w : W} : kApp3 i ρ Q E (w, M) = Wx (frz M w) (fun p => Wx (apI p.2 i p.1) (fun M => Q ((.nx, ρ), M)) E) E := rfl
@[simp] theorem w_app {o e : PyD.E} : Wx (evS cl wf (.app o e) ρ M) Q E = Wx (evE cl o ρ M) (kApp1 cl e ρ Q E) E := by
  rw [evS, wx_bind]; congr 1; funext q; unfold kApp1; rw [wx_bind]; congr 1; funext i; rw [wx_bind]; congr 1; funext p; rw [wx_bind]; congr 1; funext p
  unfold apI
  cases p.2[i]? with
  | none => with_unfolding_all rfl
  | some c =>
    cases c with
    | lst ds => dsimp only; rw [wx_stuckIf, wx_stuckIf]; with_unfolding_all rfl
    | dic _ => with_unfolding_all rfl
    | fro _ => with_unfolding_all rfl
def kEx (ρ : Env) (Q : (Fl × Env) × Ms → Prop) (p : W × Ms) : Prop := Q ((.nx, ρ), p.2)
@[simp] theorem kEx_mk {w : W} : kEx ρ Q (w, M) = Q ((.nx, ρ), M) := rfl
@[simp] theorem w_ex {e : PyD.E} : Wx (evS cl wf (.ex e) ρ M) Q E = Wx (evE cl e ρ M) (kEx ρ Q) E := by
  rw [evS, wx_bind]; with_unfolding_all rfl
def kIf (cl : Nat → List W → Ms → R (W × Ms)) (wf : Nat) (a b : Ss) (ρ : Env) (Q : (Fl × Env) × Ms → Prop) (E : XE) (p : W × Ms) : Prop := Wx (view p.2 p.1) (fun x => brB x (Wx (evSs cl wf a ρ p.2) Q E) (Wx (evSs cl wf b ρ p.2) Q E)) E
def kIf2 (cl : Nat → List W → Ms → R (W × Ms)) (wf : Nat) (a b : Ss) (ρ : Env) (M : Ms) (Q : (Fl × Env) × Ms → Prop) (E : XE) (x : D) : Prop := brB x (Wx (evSs cl wf a ρ M) Q E) (Wx (evSs cl wf b ρ M) Q E)
@[simp] theorem kIf_mk {a b : Ss} {w : W} : kIf cl wf a b ρ Q E (w, M) = Wx (view M w) (kIf2 cl wf a b ρ M Q E) E := rfl
@[simp] theorem kIf2_mk {a b : Ss} {k : Bool} : kIf2 cl wf a b ρ M Q E (.bl k) = if k = true then Wx (evSs cl wf a ρ M) Q E else Wx (evSs cl wf b ρ M) Q E := by cases k <;> with_unfolding_all rfl
@[simp] theorem w_if {c : PyD.E} {a b : Ss} : Wx (evS cl wf (.ife c a b) ρ M) Q E = Wx (evE cl c ρ M) (kIf cl wf a b ρ Q E) E := by
  rw [evS, wx_bind]; congr 1; funext p; simp only [kIf, wx_bind]; congr 1; funext x; rw [asB_br]
def forB (cl : Nat → List W → Ms → R (W × Ms)) (wf : Nat) (t : Tg) (b : Ss) (d : D) (ρ : Env) (M : Ms) : R ((Fl × Env) × Ms) := (bindT t d ρ).bind fun ρ' => evSs cl wf b ρ' M
def kFor (cl : Nat → List W → Ms → R (W × Ms)) (wf : Nat) (t : Tg) (b : Ss) (ρ : Env) (Q : (Fl × Env) × Ms → Prop) (E : XE) (p : List D × Ms) : Prop := Wx (forL (forB cl wf t b) p.1 ρ p.2) Q E
@[simp] theorem kFor_mk {t : Tg} {b : Ss} {ds : List D} : kFor cl wf t b ρ Q E (ds, M) = Wx (forL (forB cl wf t b) ds ρ M) Q E := rfl
@[simp] theorem w_for {t : Tg} {it : Ir} {b : Ss} : Wx (evS cl wf (.fr t it b) ρ M) Q E = Wx (evI cl it ρ M) (kFor cl wf t b ρ Q E) E := by
  rw [evS, wx_bind]; with_unfolding_all rfl
def kFb (cl : Nat → List W → Ms → R (W × Ms)) (wf : Nat) (b : Ss) (M : Ms) (Q : (Fl × Env) × Ms → Prop) (E : XE) (ρ' : Env) : Prop := Wx (evSs cl wf b ρ' M) Q E
@[simp] theorem kFb_mk {b : Ss} : kFb cl wf b M Q E ρ = Wx (evSs cl wf b ρ M) Q E := rfl
@[simp] theorem w_fb {t : Tg} {b : Ss} {d : D} : Wx (forB cl wf t b d ρ M) Q E = Wx (bindT t d ρ) (kFb cl wf b M Q E) E := by
  unfold forB; rw [wx_bind]; with_unfolding_all rfl
@[simp] theorem bindT_nm {i : Nat} {d : D} : bindT (.nm i) d ρ = .ok (ρ.set i (some (.d d))) := rfl
@[simp] theorem bindT_tp {is : List Nat} {ds : List D} : bindT (.tp is) (.tup ds) ρ = setAll is ds ρ := rfl
@[simp] theorem setAll_nil : setAll [] [] ρ = .ok ρ := rfl
@[simp] theorem setAll_cons {i : Nat} {is : List Nat} {d : D} {ds : List D} : setAll (i :: is) (d :: ds) ρ = setAll is ds (ρ.set i (some (.d d))) := rfl
@[simp] theorem setW_nil : setW [] [] ρ = .ok ρ := rfl
@[simp] theorem setW_cons {i : Nat} {is : List Nat} {d : W} {ds : List W} : setW (i :: is) (d :: ds) ρ = setW is ds (ρ.set i (some d)) := rfl
@[simp] theorem wipe_nil : wipeD ρ [] = ρ := rfl
@[simp] theorem wipe_cons {i : Nat} {is : List Nat} : wipeD ρ (i :: is) = (wipeD ρ is).set i none := rfl
def whC (cl : Nat → List W → Ms → R (W × Ms)) (c : PyD.E) (ρ : Env) (M : Ms) : R (Bool × Ms) := (evE cl c ρ M).bind fun p => (view p.2 p.1).bind fun x => asB x fun i => .ok (i, p.2)
@[simp] theorem w_wh {c : PyD.E} {b : Ss} : evS cl wf (.wh c b) ρ M = whL (whC cl c) (fun ρ M => evSs cl wf b ρ M) wf ρ M := by
  rw [evS]; with_unfolding_all rfl
@[simp] theorem w_whC {c : PyD.E} {Q : Bool × Ms → Prop} : Wx (whC cl c ρ M) Q E = Wx (evE cl c ρ M) (kC Q E) E := by
  unfold whC; simp only [wx_bind]; with_unfolding_all rfl
def kRet (ρ : Env) (Q : (Fl × Env) × Ms → Prop) (E : XE) (p : W × Ms) : Prop := Wx (frz p.2 p.1) (fun p => Q ((.rt (.d p.1), ρ), p.2)) E
@[simp] theorem kRet_mk {w : W} : kRet ρ Q E (w, M) = Wx (frz M w) (fun p => Q ((.rt (.d p.1), ρ), p.2)) E := rfl
@[simp] theorem w_ret {e : PyD.E} : Wx (evS cl wf (.ret e) ρ M) Q E = Wx (evE cl e ρ M) (kRet ρ Q E) E := by
  rw [evS]; simp only [wx_bind, wx_ok]; with_unfolding_all rfl
@[simp] theorem w_retn : Wx (evS cl wf .retn ρ M) Q E = Q ((.rt (.d .non), ρ), M) := by rw [evS]; with_unfolding_all rfl
def kRetc (ρ : Env) (Q : (Fl × Env) × Ms → Prop) (p : W × Ms) : Prop := Q ((.rt p.1, ρ), p.2)
@[simp] theorem kRetc_mk {w : W} : kRetc ρ Q (w, M) = Q ((.rt w, ρ), M) := rfl
@[simp] theorem w_retc {e : PyD.E} : Wx (evS cl wf (.retc e) ρ M) Q E = Wx (evE cl e ρ M) (kRetc ρ Q) E := by
  rw [evS, wx_bind]; with_unfolding_all rfl
@[simp] theorem w_rai {c : Nat} : Wx (evS cl wf (.rai c) ρ M) Q E = E c M := by rw [evS]; with_unfolding_all rfl
@[simp] theorem w_bad : Wx (evS cl wf .bad ρ M) Q E = False := by rw [evS]; exact wx_stuck
@[simp] theorem w_pass : Wx (evS cl wf .pass ρ M) Q E = Q ((.nx, ρ), M) := by rw [evS]; with_unfolding_all rfl
end
/-! ### calls -/
def kEnd (n : Nat) (Q : W × Ms → Prop) (E : XE) (q : (Fl × Env) × Ms) : Prop := match q.1.1 with
  | .nx => Q (.d .non, q.2.take n)
  | .rt w => Wx (retD n w q.2) Q E
@[simp] theorem kEnd_nx {n : Nat} {Q : W × Ms → Prop} {E : XE} {ρ : Env} {M : Ms} : kEnd n Q E ((.nx, ρ), M) = Q (.d .non, M.take n) := rfl
@[simp] theorem kEnd_rt {n : Nat} {Q : W × Ms → Prop} {E : XE} {ρ : Env} {M : Ms} {w : W} : kEnd n Q E ((.rt w, ρ), M) = Wx (retD n w M) Q E := rfl
@[simp] theorem retD_d {n : Nat} {x : D} {M : Ms} : retD n (.d x) M = .ok (.d x, M.take n) := rfl
def xEnd (n : Nat) (E : XE) : XE := fun c M => E c (M.take n)
@[simp] theorem xEnd_mk {n c : Nat} {E : XE} {M : Ms} : xEnd n E c M = E c (M.take n) := rfl
theorem w_callD {Df : Nat → Option Def} {wf k i : Nat} {d : Def} {ws : List W} {M : Ms} {Q : W × Ms → Prop} {E : XE} (h : Df i = some d) (hl : ws.length = d.np) :
    Wx (callD Df wf (k + 1) i ws M) Q E = Wx (evSs (callD Df wf k) wf d.body (startD d.nN ws) M) (kEnd M.length Q E) (xEnd M.length E) := by
  rw [callD, h]
  show Wx (if ws.length = d.np then _ else _) Q E = _
  rw [if_pos hl]
  match evSs (callD Df wf k) wf d.body (startD d.nN ws) M with
  | .ok ((.nx, _), M) => with_unfolding_all rfl
  | .ok ((.rt w, _), M) => with_unfolding_all rfl
  | .exc c M => with_unfolding_all rfl
  | .stuck => with_unfolding_all rfl
/-! ### loops -/
section
variable {E : XE}
theorem wx_forL {body : D → Env → Ms → R ((Fl × Env) × Ms)} {Q : (Fl × Env) × Ms → Prop} (I : List D → Env → Ms → Prop) :
    ∀ {ds : List D} {ρ : Env} {M : Ms}, I ds ρ M → (∀ d r ρ M, I (d :: r) ρ M → Wx (body d ρ M) (fun q => match q.1.1 with
      | .nx => I r q.1.2 q.2
      | .rt w => Q ((.rt w, q.1.2), q.2)) E) → (∀ ρ M, I [] ρ M → Q ((.nx, ρ), M)) → Wx (forL body ds ρ M) Q E
  | [], ρ, M, h0, _, he => by rw [forL, wx_ok]; exact he ρ M h0
  | d :: r, ρ, M, h0, hs, he => by
    rw [forL, wx_bind]
    refine (hs d r ρ M h0).to fun q hq => ?_
    obtain ⟨⟨f, ρ'⟩, M'⟩ := q
    cases f with
    | nx => exact wx_forL I hq hs he
    | rt w => with_unfolding_all exact hq
/-- a loop over a written list, turn by turn -/
def kForR (body : D → Env → Ms → R ((Fl × Env) × Ms)) (r : List D) (Q : (Fl × Env) × Ms → Prop) (E : XE) (q : (Fl × Env) × Ms) : Prop := match q.1.1 with
  | .nx => Wx (forL body r q.1.2 q.2) Q E
  | .rt w => Q ((.rt w, q.1.2), q.2)
@[simp] theorem kForR_nx {body : D → Env → Ms → R ((Fl × Env) × Ms)} {r : List D} {Q : (Fl × Env) × Ms → Prop} {ρ : Env} {M : Ms} : kForR body r Q E ((.nx, ρ), M) = Wx (forL body r ρ M) Q E := rfl
@[simp] theorem kForR_rt {body : D → Env → Ms → R ((Fl × Env) × Ms)} {r : List D} {Q : (Fl × Env) × Ms → Prop} {ρ : Env} {M : Ms} {w : W} : kForR body r Q E ((.rt w, ρ), M) = Q ((.rt w, ρ), M) := rfl
theorem wFor0 {body : D → Env → Ms → R ((Fl × Env) × Ms)} {Q : (Fl × Env) × Ms → Prop} {ρ : Env} {M : Ms} : Wx (forL body [] ρ M) Q E = Q ((.nx, ρ), M) := by rw [forL, wx_ok]
theorem wForC {body : D → Env → Ms → R ((Fl × Env) × Ms)} {d : D} {r : List D} {Q : (Fl × Env) × Ms → Prop} {ρ : Env} {M : Ms} : Wx (forL body (d :: r) ρ M) Q E = Wx (body d ρ M) (kForR body r Q E) E := by
  rw [forL, wx_bind]
  congr 1
  funext q
  obtain ⟨⟨f, ρ'⟩, M'⟩ := q
  cases f with
  | nx => rfl
  | rt w => simp
/-- a comprehension without change -/
theorem lcL_pure {elt : D → Ms → R (Option D × Ms)} {M : Ms} (f : D → Option D) : ∀ {ds acc : List D}, (∀ d ∈ ds, elt d M = .ok (f d, M)) → acc.length + ds.length ≤ sizeLine → lcL elt ds acc M = .ok (acc ++ ds.filterMap f, M)
  | [], acc, _, _ => by rw [lcL, List.filterMap_nil, List.append_nil]
  | d :: r, acc, h, hl => by
    rw [lcL, h d List.mem_cons_self]
    rw [List.length_cons] at hl
    cases e : f d with
    | none =>
      show lcL elt r acc M = _
      rw [lcL_pure f (fun x hx => h x (List.mem_cons_of_mem _ hx)) (by omega), List.filterMap_cons, e]
    | some x =>
      show stuckIf (decide (acc.length < sizeLine)) (lcL elt r (acc ++ [x]) M) = _
      rw [decide_eq_true (by omega), stuckIf_true, lcL_pure f (fun x hx => h x (List.mem_cons_of_mem _ hx)) (by simp; omega), List.filterMap_cons, e, List.append_assoc]
      with_unfolding_all rfl
theorem wx_lcL {elt : D → Ms → R (Option D × Ms)} {Q : List D × Ms → Prop} (I : List D → List D → Ms → Prop) : ∀ {ds acc : List D} {M : Ms}, I ds acc M → (∀ d r acc M, I (d :: r) acc M → acc.length < sizeLine ∧ Wx (elt d M) (fun q => match q.1 with
      | some x => I r (acc ++ [x]) q.2
      | none => I r acc q.2) NoE) → (∀ acc M, I [] acc M → Q (acc, M)) → Wx (lcL elt ds acc M) Q E
  | [], acc, M, h0, _, he => by rw [lcL, wx_ok]; exact he acc M h0
  | d :: r, acc, M, h0, hs, he => by
    obtain ⟨h1, h2⟩ := hs d r acc M h0
    rw [lcL]
    obtain ⟨⟨o, M'⟩, e, h⟩ := wx_iff.mp h2
    rw [e]
    cases o with
    | none => exact wx_lcL I h hs he
    | some x =>
      show Wx (stuckIf (decide (acc.length < sizeLine)) _) Q E
      rw [decide_eq_true h1]
      exact wx_lcL I h hs he
theorem wx_whL {c : Env → Ms → R (Bool × Ms)} {body : Env → Ms → R ((Fl × Env) × Ms)} {Q : (Fl × Env) × Ms → Prop} (I : Nat → Env → Ms → Prop) :
    ∀ {n : Nat} {ρ : Env} {M : Ms} (m : Nat), m < n → I m ρ M → (∀ m ρ M, I m ρ M → Wx (c ρ M) (fun q => if q.1 = true then Wx (body ρ q.2) (fun q => match q.1.1 with
      | .nx => ∃ m', m' < m ∧ I m' q.1.2 q.2
      | .rt w => Q ((.rt w, q.1.2), q.2)) E else Q ((.nx, ρ), q.2)) E) → Wx (whL c body n ρ M) Q E
  | 0, _, _, m, hm, _, _ => by omega
  | n + 1, ρ, M, m, hm, h, hs => by
    rw [whL, wx_bind]
    refine (hs m ρ M h).to fun q hq => ?_
    obtain ⟨b, M1⟩ := q
    cases b with
    | false => with_unfolding_all exact hq
    | true =>
      show Wx ((body ρ M1).bind _) Q E
      rw [wx_bind]
      have hq : Wx (body ρ M1) _ E := hq
      refine hq.to fun q hq => ?_
      obtain ⟨⟨f, ρ'⟩, M'⟩ := q
      cases f with
      | nx =>
        obtain ⟨m', h1, h2⟩ := hq
        exact wx_whL I m' (by omega) h2 hs
      | rt w => with_unfolding_all exact hq
end
end PyP

set_option Elab.async false
set_option linter.all false
set_option maxRecDepth 100000
set_option maxHeartbeats 4000000
/-! PyP2: machines, families, shapes: what the program's own looks at values answer. -/
namespace PyP
open PySem hiding Env
open PySem.Spec PyProof.Rows L2 PyD
/-- is_whole -/
def b0 : Def := ⟨3, 3, (.cons (.ret (.and (.isi (.var 0) .int) (.and (.notv (.isi (.var 0) .bool)) (.chn .le .le (.var 1) (.var 0) (.var 2))))) .nil), ["value", "low", "high"]⟩
/-- is_word -/
def b1 : Def := ⟨2, 2, (.cons (.ret (.and (.isi (.var 0) .str) (.cmp .mem (.var 0) (.var 1)))) .nil), ["value", "words"]⟩
/-- is_one_of -/
def b2 : Def := ⟨2, 2, (.cons (.ret (.and (.isi (.var 0) .int) (.and (.notv (.isi (.var 0) .bool)) (.cmp .mem (.var 0) (.var 1))))) .nil), ["value", "numbers"]⟩
/-- has_sizes -/
def b3 : Def := ⟨1, 1, (.cons (.ife (.or (.not (.isi (.var 0) .tuple)) (.cmp .ne (.bi .len (.cons (.var 0) .nil)) (.con (.int 3)))) (.cons (.ret (.con (.bl false))) .nil) .nil) (.cons (.ret (.and (.call 2 (.cons (.ix (.var 0) (.con (.int 0))) (.cons (.tup (.cons (.con (.int 1)) (.cons (.con (.int 2)) .nil))) .nil))) (.and (.call 2 (.cons (.ix (.var 0) (.con (.int 1))) (.cons (.tup (.cons (.con (.int 2)) (.cons (.con (.int 4)) .nil))) .nil))) (.call 2 (.cons (.ix (.var 0) (.con (.int 2))) (.cons (.tup (.cons (.con (.int 4)) (.cons (.con (.int 8)) .nil))) .nil)))))) .nil)), ["value"]⟩
/-- is_machine -/
def b4 : Def := ⟨1, 1, (.cons (.ife (.or (.not (.isi (.var 0) .tuple)) (.or (.cmp .ne (.bi .len (.cons (.var 0) .nil)) (.con (.int 4))) (.not (.call 3 (.cons (.ix (.var 0) (.con (.int 0))) .nil))))) (.cons (.ret (.con (.bl false))) .nil) .nil) (.cons (.ret (.and (.call 2 (.cons (.ix (.var 0) (.con (.int 1))) (.cons (.tup (.cons (.con (.int 1)) (.cons (.con (.int 2)) (.cons (.con (.int 4)) (.cons (.con (.int 8)) .nil))))) .nil))) (.and (.call 1 (.cons (.ix (.var 0) (.con (.int 2))) (.cons (.con (.tup [.str "big", .str "little", .str "pairs"])) .nil))) (.isi (.ix (.var 0) (.con (.int 3))) .bool)))) .nil)), ["value"]⟩
/-- is_family -/
def b5 : Def := ⟨1, 2, (.cons (.ife (.or (.not (.isi (.var 0) .tuple)) (.not (.chn .le .le (.con (.int 1)) (.bi .len (.cons (.var 0) .nil)) (.con (.int 5))))) (.cons (.ret (.con (.bl false))) .nil) .nil) (.cons (.ret (.cmp .eq (.fr (.lc (.var 1) (.nm 1) (.seq (.var 0)) (.some (.not (.call 4 (.cons (.var 1) .nil)))) [1])) (.fr (.lst .nil)))) .nil)), ["value"]⟩
/-- are_widths -/
def b6 : Def := ⟨1, 2, (.cons (.ife (.or (.not (.isi (.var 0) .tuple)) (.not (.chn .le .le (.con (.int 1)) (.bi .len (.cons (.var 0) .nil)) (.con (.int 4))))) (.cons (.ret (.con (.bl false))) .nil) .nil) (.cons (.ret (.and (.cmp .eq (.fr (.lc (.var 1) (.nm 1) (.seq (.var 0)) (.some (.not (.call 0 (.cons (.var 1) (.cons (.con (.int 1)) (.cons (.con (.int 8)) .nil)))))) [1])) (.fr (.lst .nil))) (.cmp .le (.bi .sum (.cons (.var 0) .nil)) (.con (.int 8))))) .nil)), ["value"]⟩
/-- is_part -/
def b7 : Def := ⟨2, 3, (.cons (.ife (.isi (.var 0) .str) (.cons (.ret (.cmp .mem (.var 0) (.con (.tup [.str "s", .str "m", .str "l"])))) .nil) .nil) (.cons (.ife (.or (.not (.isi (.var 0) .tuple)) (.or (.cmp .nmem (.bi .len (.cons (.var 0) .nil)) (.tup (.cons (.con (.int 2)) (.cons (.con (.int 3)) .nil)))) (.or (.cmp .eq (.var 1) (.con (.int 0))) (.not (.isi (.ix (.var 0) (.con (.int 0))) .str))))) (.cons (.ret (.con (.bl false))) .nil) .nil) (.cons (.ife (.cmp .eq (.ix (.var 0) (.con (.int 0))) (.con (.str "bits"))) (.cons (.ret (.and (.cmp .eq (.bi .len (.cons (.var 0) .nil)) (.con (.int 2))) (.call 6 (.cons (.ix (.var 0) (.con (.int 1))) .nil)))) .nil) .nil) (.cons (.ife (.cmp .eq (.ix (.var 0) (.con (.int 0))) (.con (.str "row"))) (.cons (.ret (.and (.cmp .eq (.bi .len (.cons (.var 0) .nil)) (.con (.int 3))) (.and (.call 0 (.cons (.ix (.var 0) (.con (.int 1))) (.cons (.con (.int 1)) (.cons (.con (.int 4)) .nil)))) (.call 7 (.cons (.ix (.var 0) (.con (.int 2))) (.cons (.op2 .sub (.var 1) (.con (.int 1))) .nil)))))) .nil) .nil) (.cons (.ife (.or (.cmp .ne (.ix (.var 0) (.con (.int 0))) (.con (.str "all"))) (.or (.cmp .ne (.bi .len (.cons (.var 0) .nil)) (.con (.int 2))) (.or (.not (.isi (.ix (.var 0) (.con (.int 1))) .tuple)) (.not (.chn .le .le (.con (.int 1)) (.bi .len (.cons (.ix (.var 0) (.con (.int 1))) .nil)) (.con (.int 4))))))) (.cons (.ret (.con (.bl false))) .nil) .nil) (.cons (.ret (.cmp .eq (.fr (.lc (.var 2) (.nm 2) (.seq (.ix (.var 0) (.con (.int 1)))) (.some (.not (.call 7 (.cons (.var 2) (.cons (.op2 .sub (.var 1) (.con (.int 1))) .nil))))) [2])) (.fr (.lst .nil)))) .nil)))))), ["value", "deep"]⟩
/-- all_widths -/
def b8 : Def := ⟨1, 3, (.cons (.ife (.isi (.var 0) .str) (.cons (.ret (.fr (.lst (.cons (.ix (.con (.dc [("s", 8), ("m", 16), ("l", 32)])) (.var 0)) .nil)))) .nil) .nil) (.cons (.ife (.cmp .eq (.ix (.var 0) (.con (.int 0))) (.con (.str "bits"))) (.cons (.ret (.fr (.of (.ix (.var 0) (.con (.int 1)))))) .nil) .nil) (.cons (.ife (.cmp .eq (.ix (.var 0) (.con (.int 0))) (.con (.str "row"))) (.cons (.ret (.op2 .mul (.call 8 (.cons (.ix (.var 0) (.con (.int 2))) .nil)) (.ix (.var 0) (.con (.int 1))))) .nil) .nil) (.cons (.asg (.nm 1) (.fr (.lst .nil))) (.cons (.fr (.nm 2) (.seq (.ix (.var 0) (.con (.int 1)))) (.cons (.asg (.nm 1) (.op2 .add (.var 1) (.call 8 (.cons (.var 2) .nil)))) .nil)) (.cons (.ret (.var 1)) .nil)))))), ["shape"]⟩
/-- is_shape -/
def b9 : Def := ⟨1, 1, (.cons (.ret (.and (.call 7 (.cons (.var 0) (.cons (.con (.int 3)) .nil))) (.cmp .le (.bi .len (.cons (.call 8 (.cons (.var 0) .nil)) .nil)) (.con (.int 10))))) .nil), ["value"]⟩
/-- need_shape -/
def b10 : Def := ⟨1, 1, (.cons (.ife (.not (.call 9 (.cons (.var 0) .nil))) (.cons (.rai 3) .nil) .nil) .nil), ["shape"]⟩
/-- widths -/
def b11 : Def := ⟨1, 1, (.cons (.ex (.call 10 (.cons (.var 0) .nil))) (.cons (.ret (.call 8 (.cons (.var 0) .nil))) .nil)), ["shape"]⟩
def enm : List PySem.Str := ["value", "machine value", "family value", "shape value", "program value", "contents value", "bytes value", "role value", "index value", "number value", "step value", "steps value", "text value", "unlike value", "misfit value", "undo value"]
/-- fine data: no defs, no script, no dicts; depth at most n, lengths, numbers and texts within bounds -/
inductive Fi (L : Nat) : Nat → D → Prop
  | non {n : Nat} : Fi L n .non
  | bl {n : Nat} (b : Bool) : Fi L n (.bl b)
  | int {n : Nat} {i : Int} (h : i.natAbs < 2 ^ (200 + 2 * L)) : Fi L n (.int i)
  | str {n : Nat} {z : PySem.Str} (h : ∀ c ∈ z.cps.toList, c < 128) (hl : z.length ≤ 1000) : Fi L n (.str z)
  | tup {n : Nat} {ds : List D} (hl : ds.length ≤ 100 + L) (h : ∀ d ∈ ds, Fi L n d) : Fi L (n + 1) (.tup ds)
  | lst {n : Nat} {ds : List D} (hl : ds.length ≤ 100 + L) (h : ∀ d ∈ ds, Fi L n d) : Fi L (n + 1) (.lst ds)
/-! ### what simp should know -/
section
variable {i j : Int} {z y : PySem.Str} {L n : Nat}
@[simp] theorem eqv_int : (D.int i).eqv (.int j) = (i == j) := rfl
@[simp] theorem eqv_str : (D.str z).eqv (.str y) = (z == y) := rfl
@[simp] theorem eqv_bl {a b : Bool} : (D.bl a).eqv (.bl b) = (a == b) := rfl
@[simp] theorem eqv_lst_nil {ds : List D} : (D.lst ds).eqv (.lst []) = ds.isEmpty := by cases ds <;> rfl
@[simp] theorem eqv_tup_nil {ds : List D} : (D.tup ds).eqv (.tup []) = ds.isEmpty := by cases ds <;> rfl
@[simp] theorem sh_int : (D.int i).sh = true := rfl
@[simp] theorem sh_bl {b : Bool} : (D.bl b).sh = true := rfl
@[simp] theorem sh_non : D.non.sh = true := rfl
@[simp] theorem sh_nil : (D.lst []).sh = true := rfl
@[simp] theorem sh_tnil : (D.tup []).sh = true := rfl
@[simp] theorem flat_int : (D.int i).flat = true := rfl
@[simp] theorem flat_str : (D.str z).flat = true := rfl
@[simp] theorem flat_bl {b : Bool} : (D.bl b).flat = true := rfl
@[simp] theorem isi_non_int : disi (.non) .int = .ok (.bl false) := rfl
@[simp] theorem isi_non_bool : disi (.non) .bool = .ok (.bl false) := rfl
@[simp] theorem isi_non_str : disi (.non) .str = .ok (.bl false) := rfl
@[simp] theorem isi_non_tuple : disi (.non) .tuple = .ok (.bl false) := rfl
@[simp] theorem isi_bl_int {b : Bool} : disi (.bl b) .int = .ok (.bl true) := rfl
@[simp] theorem isi_bl_bool {b : Bool} : disi (.bl b) .bool = .ok (.bl true) := rfl
@[simp] theorem isi_bl_str {b : Bool} : disi (.bl b) .str = .ok (.bl false) := rfl
@[simp] theorem isi_bl_tuple {b : Bool} : disi (.bl b) .tuple = .ok (.bl false) := rfl
@[simp] theorem isi_int_int {i : Int} : disi (.int i) .int = .ok (.bl true) := rfl
@[simp] theorem isi_int_bool {i : Int} : disi (.int i) .bool = .ok (.bl false) := rfl
@[simp] theorem isi_int_str {i : Int} : disi (.int i) .str = .ok (.bl false) := rfl
@[simp] theorem isi_int_tuple {i : Int} : disi (.int i) .tuple = .ok (.bl false) := rfl
@[simp] theorem isi_str_int {z : PySem.Str} : disi (.str z) .int = .ok (.bl false) := rfl
@[simp] theorem isi_str_bool {z : PySem.Str} : disi (.str z) .bool = .ok (.bl false) := rfl
@[simp] theorem isi_str_str {z : PySem.Str} : disi (.str z) .str = .ok (.bl true) := rfl
@[simp] theorem isi_str_tuple {z : PySem.Str} : disi (.str z) .tuple = .ok (.bl false) := rfl
@[simp] theorem isi_tup_int {ds : List D} : disi (.tup ds) .int = .ok (.bl false) := rfl
@[simp] theorem isi_tup_bool {ds : List D} : disi (.tup ds) .bool = .ok (.bl false) := rfl
@[simp] theorem isi_tup_str {ds : List D} : disi (.tup ds) .str = .ok (.bl false) := rfl
@[simp] theorem isi_tup_tuple {ds : List D} : disi (.tup ds) .tuple = .ok (.bl true) := rfl
@[simp] theorem isi_lst_int {ds : List D} : disi (.lst ds) .int = .ok (.bl false) := rfl
@[simp] theorem isi_lst_bool {ds : List D} : disi (.lst ds) .bool = .ok (.bl false) := rfl
@[simp] theorem isi_lst_str {ds : List D} : disi (.lst ds) .str = .ok (.bl false) := rfl
@[simp] theorem isi_lst_tuple {ds : List D} : disi (.lst ds) .tuple = .ok (.bl false) := rfl
@[simp] theorem isNon_non : PyD.isNon .non = true := rfl
@[simp] theorem isNon_bl {b : Bool} : PyD.isNon (.bl b) = false := rfl
@[simp] theorem isNon_int {b : Int} : PyD.isNon (.int b) = false := rfl
@[simp] theorem isNon_str {b : PySem.Str} : PyD.isNon (.str b) = false := rfl
@[simp] theorem isNon_tup {b : List D} : PyD.isNon (.tup b) = false := rfl
@[simp] theorem isNon_lst {b : List D} : PyD.isNon (.lst b) = false := rfl
@[simp] theorem tru_bl {b : Bool} : dtru (.bl b) = .ok b := rfl
@[simp] theorem tru_int {i : Int} : dtru (.int i) = .ok (i != 0) := rfl
@[simp] theorem tru_non : dtru .non = .ok false := rfl
@[simp] theorem cmp_lt {i j : Int} : dcmp .lt (.int i) (.int j) = .ok (.bl (decide (i < j))) := rfl
@[simp] theorem cmp_le {i j : Int} : dcmp .le (.int i) (.int j) = .ok (.bl (decide (i ≤ j))) := rfl
@[simp] theorem cmp_gt {i j : Int} : dcmp .gt (.int i) (.int j) = .ok (.bl (decide (j < i))) := rfl
@[simp] theorem cmp_ge {i j : Int} : dcmp .ge (.int i) (.int j) = .ok (.bl (decide (j ≤ i))) := rfl
@[simp] theorem cmp_eq_int {i j : Int} : dcmp .eq (.int i) (.int j) = .ok (.bl (i == j)) := rfl
@[simp] theorem cmp_ne_int {i j : Int} : dcmp .ne (.int i) (.int j) = .ok (.bl (!(i == j))) := rfl
@[simp] theorem cmp_eq_bl {i j : Bool} : dcmp .eq (.bl i) (.bl j) = .ok (.bl (i == j)) := rfl
@[simp] theorem cmp_mem_tup {x : D} {ds : List D} : dcmp .mem x (.tup ds) = stuckIf (x.flat && ds.all D.flat) (.ok (.bl (ds.any fun d => d.eqv x))) := rfl
@[simp] theorem cmp_nmem_tup {x : D} {ds : List D} : dcmp .nmem x (.tup ds) = stuckIf (x.flat && ds.all D.flat) (.ok (.bl (!ds.any fun d => d.eqv x))) := rfl
@[simp] theorem cmp_mem_lst {x : D} {ds : List D} : dcmp .mem x (.lst ds) = stuckIf (x.sh && (D.lst ds).sh) (.ok (.bl (ds.any fun d => d.eqv x))) := rfl
@[simp] theorem cmp_nmem_lst {x : D} {ds : List D} : dcmp .nmem x (.lst ds) = stuckIf (x.sh && (D.lst ds).sh) (.ok (.bl (!ds.any fun d => d.eqv x))) := rfl
theorem cmp_eq {x y : D} (h1 : x.sh = true) (h2 : y.sh = true) : dcmp .eq x y = .ok (.bl (x.eqv y)) := by unfold dcmp; rw [h1, h2]; rfl
theorem cmp_ne {x y : D} (h1 : x.sh = true) (h2 : y.sh = true) : dcmp .ne x y = .ok (.bl (!x.eqv y)) := by unfold dcmp; rw [h1, h2]; rfl
@[simp] theorem cmp_eq_str {z y : PySem.Str} : dcmp .eq (.str z) (.str y) = stuckIf (D.sh (.str z) && D.sh (.str y)) (.ok (.bl (z == y))) := rfl
@[simp] theorem cmp_ne_str {z y : PySem.Str} : dcmp .ne (.str z) (.str y) = stuckIf (D.sh (.str z) && D.sh (.str y)) (.ok (.bl (!(z == y)))) := rfl
@[simp] theorem bi_len_tup {ds : List D} : dbi .len [.tup ds] = .ok (.int ds.length) := rfl
@[simp] theorem bi_len_lst {ds : List D} : dbi .len [.lst ds] = .ok (.int ds.length) := rfl
@[simp] theorem bi_len_scr {ns : List Int} : dbi .len [.scr ns] = .ok (.int ns.length) := rfl
@[simp] theorem bi_int {i : Int} : dbi .int [.int i] = .ok (.int i) := rfl
@[simp] theorem bi_abs {i : Int} : dbi .abs [.int i] = .ok (.int (if i < 0 then -i else i)) := rfl
@[simp] theorem bi_max {i j : Int} : dbi .max [.int i, .int j] = .ok (.int (if j > i then j else i)) := rfl
@[simp] theorem bi_min {i j : Int} : dbi .min [.int i, .int j] = .ok (.int (if j < i then j else i)) := rfl
@[simp] theorem bi_tup_lst {ds : List D} : dbi .tuple [.lst ds] = .ok (.tup ds) := rfl
@[simp] theorem bi_tup_tup {ds : List D} : dbi .tuple [.tup ds] = .ok (.tup ds) := rfl
@[simp] theorem bi_sum_lst {ds : List D} : dbi .sum [.lst ds] = optR ((intsOf ds).map fun ns => D.int ns.sum) := rfl
@[simp] theorem bi_sum_tup {ds : List D} : dbi .sum [.tup ds] = optR ((intsOf ds).map fun ns => D.int ns.sum) := rfl
@[simp] theorem op_int' {o : B2} {i j : Int} : dop2 o (.int i) (.int j) = iop o i j := by cases o <;> rfl
@[simp] theorem iop_add {i j : Int} : iop .add i j = .ok (.int (i + j)) := rfl
@[simp] theorem iop_sub {i j : Int} : iop .sub i j = .ok (.int (i - j)) := rfl
@[simp] theorem iop_mul {i j : Int} : iop .mul i j = stuckIf (mulOk i j) (.ok (.int (i * j))) := rfl
@[simp] theorem iop_fdiv {i j : Int} : iop .fdiv i j = stuckIf (decide (0 < j ∧ j < 2 ^ 64)) (.ok (.int (i / j))) := rfl
@[simp] theorem iop_mod {i j : Int} : iop .mod i j = stuckIf (decide (0 < j)) (.ok (.int (i % j))) := rfl
@[simp] theorem items_lst {ds : List D} : itemsOf (.lst ds) = .ok ds := rfl
@[simp] theorem items_tup {ds : List D} : itemsOf (.tup ds) = .ok ds := rfl
@[simp] theorem ix_lst {ds : List D} {i : Int} : dix (.lst ds) (.int i) = optR (atI ds i) := rfl
@[simp] theorem ix_tup {ds : List D} {i : Int} : dix (.tup ds) (.int i) = optR (atI ds i) := rfl
@[simp] theorem ix_scr {ns : List Int} {i : Int} : dix (.scr ns) (.int i) = optR ((atI ns i).map D.int) := rfl
@[simp] theorem ix_dc {kvs : List (PySem.Str × Int)} {z : PySem.Str} : dix (.dc kvs) (.str z) = optR ((dcGet kvs z).map D.int) := rfl
@[simp] theorem sl_tup {ds : List D} {lo hi : Option Int} : dsl (.tup ds) lo hi = .ok (.tup (cutD ds lo hi)) := rfl
@[simp] theorem sl_lst {ds : List D} {lo hi : Option Int} : dsl (.lst ds) lo hi = .ok (.lst (cutD ds lo hi)) := rfl
@[simp] theorem rev_tup {ds : List D} : drev (.tup ds) = .ok (.tup ds.reverse) := rfl
@[simp] theorem rev_lst {ds : List D} : drev (.lst ds) = .ok (.lst ds.reverse) := rfl
@[simp] theorem op_addT {a b : List D} : dop2 .add (.tup a) (.tup b) = stuckIf (decide (a.length + b.length ≤ sizeLine)) (.ok (.tup (a ++ b))) := rfl
@[simp] theorem op_addL {a b : List D} : dop2 .add (.lst a) (.lst b) = stuckIf (decide (a.length + b.length ≤ sizeLine)) (.ok (.lst (a ++ b))) := rfl
@[simp] theorem op_addS {a b : PySem.Str} : dop2 .add (.str a) (.str b) = stuckIf (decide (a.length + b.length ≤ sizeLine)) (.ok (.str (a ++ b))) := rfl
@[simp] theorem op_mulL {a : List D} {k : Int} : dop2 .mul (.lst a) (.int k) = stuckIf (decide (-(2 ^ 63) ≤ k ∧ k < 2 ^ 63 ∧ a.length * k.toNat ≤ sizeLine)) (.ok (.lst (repD a k))) := rfl
@[simp] theorem lop_addL {a b : List D} : lop .add (.lst a) (.lst b) = stuckIf (decide (a.length + b.length ≤ sizeLine)) (.ok (a ++ b)) := rfl
@[simp] theorem lop_mulL {a : List D} {k : Int} : lop .mul (.lst a) (.int k) = stuckIf (decide (-(2 ^ 63) ≤ k ∧ k < 2 ^ 63 ∧ a.length * k.toNat ≤ sizeLine)) (.ok (repD a k)) := rfl
theorem Fi.mono {n m : Nat} {d : D} (h : Fi L n d) (hl : n ≤ m) : Fi L m d := by
  induction h generalizing m with
  | non => exact .non
  | bl b => exact .bl b
  | int h => exact .int h
  | str h1 h2 => exact .str h1 h2
  | tup hl' _ ih =>
    obtain ⟨m, rfl⟩ : ∃ k, m = k + 1 := ⟨m - 1, by omega⟩
    exact .tup hl' fun d hd => ih d hd (by omega)
  | lst hl' _ ih =>
    obtain ⟨m, rfl⟩ : ∃ k, m = k + 1 := ⟨m - 1, by omega⟩
    exact .lst hl' fun d hd => ih d hd (by omega)
theorem Fi.up {L' n : Nat} {d : D} (h : Fi L n d) (hl : L ≤ L') : Fi L' n d := by
  induction h with
  | non => exact .non
  | bl b => exact .bl b
  | int h => exact .int (Nat.lt_of_lt_of_le h (Nat.pow_le_pow_right (by omega) (by omega)))
  | str h1 h2 => exact .str h1 h2
  | tup hl' _ ih => exact .tup (by omega) ih
  | lst hl' _ ih => exact .lst (by omega) ih
theorem asc_ok {z : PySem.Str} (h : ∀ c ∈ z.cps.toList, c < 128) : PyData.strOk z = true := by
  unfold PyData.strOk
  rw [← Array.all_toList]
  rw [List.all_eq_true]
  intro c hc
  have := h c hc
  exact decide_eq_true (by omega)
@[simp high] theorem ofStr_inj {a b : String} : (PySem.Str.ofString a = PySem.Str.ofString b) = (a = b) := by
  refine propext ⟨fun h => ?_, fun h => by rw [h]⟩
  rw [PySem.Str.ofString_eq_toList, PySem.Str.ofString_eq_toList] at h
  have h1 : a.toList.map Char.toNat = b.toList.map Char.toNat := by
    have := congrArg (fun z : PySem.Str => z.cps.toList) h
    simpa using this
  have h2 : a.toList = b.toList := by
    have inj : ∀ (x y : List Char), x.map Char.toNat = y.map Char.toNat → x = y := by
      intro x
      induction x with
      | nil => intro y h; cases y with
        | nil => rfl
        | cons _ _ => cases h
      | cons c x ih => intro y h; cases y with
        | nil => cases h
        | cons d y =>
          rw [List.map_cons, List.map_cons, List.cons.injEq] at h
          rw [ih y h.2, Char.toNat_inj.mp h.1]
    exact inj _ _ h1
  exact String.toList_inj.mp h2
@[simp] theorem ofStr_beq {a b : String} : (PySem.Str.ofString a == PySem.Str.ofString b) = (a == b) := by
  by_cases h : a = b
  · subst h; simp
  · have : ¬ PySem.Str.ofString a = PySem.Str.ofString b := by rw [ofStr_inj]; exact h
    rw [beq_eq_false_iff_ne.mpr this, beq_eq_false_iff_ne.mpr h]
@[simp] theorem lit_comm {a : String} {z : PySem.Str} : (PySem.Str.ofString a = z) = (z = PySem.Str.ofString a) := propext eq_comm
theorem sh_str {z : PySem.Str} (h : PyData.strOk z = true) : (D.str z).sh = true := by
  unfold D.sh SeqAt.shaped
  rw [D.toP, PyData.canLay0, h]
  rfl
@[simp] theorem sh_lit {a : String} : (D.str (PySem.Str.ofString a)).sh = true := by
  refine sh_str ?_
  unfold PyData.strOk
  rw [PySem.Str.ofString_eq_toList, ← Array.all_toList, List.all_eq_true]
  intro c hc
  simp at hc
  obtain ⟨d, _, rfl⟩ := hc
  have := d.valid
  refine decide_eq_true ?_
  rcases this with h | ⟨_, h⟩
  · exact Nat.lt_trans h (by decide)
  · exact h
theorem lay_all : ∀ {ds : List D}, (∀ d ∈ ds, d.toP.canLay0 = true) → PyData.canLayAll0 (D.toPs ds) = true
  | [], _ => rfl
  | d :: ds, h => by
    rw [D.toPs, PyData.canLayAll0, h d List.mem_cons_self, lay_all fun x hx => h x (List.mem_cons_of_mem _ hx)]
    rfl
theorem dep_all {m : Nat} : ∀ {ds : List D}, (∀ d ∈ ds, d.toP.depth ≤ m) → PyData.depthAll (D.toPs ds) ≤ m
  | [], _ => by simp [D.toPs, PyData.depthAll]
  | d :: ds, h => by
    rw [D.toPs, PyData.depthAll]
    have h1 := h d List.mem_cons_self
    have h2 := dep_all fun x hx => h x (List.mem_cons_of_mem _ hx)
    omega
theorem Fi.lay {d : D} (h : Fi L n d) : d.toP.canLay0 = true := by
  induction h with
  | non => rfl
  | bl b => rfl
  | int h => rfl
  | str h hl => rw [D.toP, PyData.canLay0]; exact asc_ok h
  | tup hl _ ih => rw [D.toP, PyData.canLay0]; exact lay_all ih
  | lst hl _ ih => rw [D.toP, PyData.canLay0]; exact lay_all ih
theorem Fi.dep {d : D} (h : Fi L n d) : d.toP.depth ≤ n := by
  induction h with
  | non => simp [D.toP, PyData.depth]
  | bl b => simp [D.toP, PyData.depth]
  | int h => simp [D.toP, PyData.depth]
  | str h hl => simp [D.toP, PyData.depth]
  | tup hl _ ih => rw [D.toP, PyData.depth]; have := dep_all ih; omega
  | lst hl _ ih => rw [D.toP, PyData.depth]; have := dep_all ih; omega
theorem Fi.sh {d : D} (h : Fi L n d) (hn : n ≤ 64) : d.sh = true := by
  unfold D.sh SeqAt.shaped
  rw [h.lay]
  exact decide_eq_true (Nat.le_trans h.dep hn)
/-- of a comprehension that keeps what is bad -/
def badO (p : D → Bool) (d : D) : Option D := if p d = true then none else some d
theorem badO_all {p : D → Bool} : ∀ {ds : List D}, (ds.filterMap (badO p)).isEmpty = ds.all p
  | [] => rfl
  | d :: ds => by
    rw [List.filterMap_cons, List.all_cons]
    unfold badO
    cases p d with
    | true => exact badO_all
    | false => rfl
theorem badO_mem {p : D → Bool} {ds : List D} {d : D} (h : d ∈ ds.filterMap (badO p)) : d ∈ ds := by
  obtain ⟨x, hx, e⟩ := List.mem_filterMap.mp h
  unfold badO at e
  split at e
  · cases e
  · cases e; exact hx
theorem bad_sh {p : D → Bool} {ds : List D} (h : ∀ d ∈ ds, Fi L n d) (hl : ds.length ≤ 100 + L) (hn : n ≤ 63) : (D.lst (ds.filterMap (badO p))).sh = true :=
  (Fi.lst (Nat.le_trans (List.length_filterMap_le _ _) hl) fun d hd => h d (badO_mem hd)).sh (n := n + 1) (by omega)
end
/-- an item that is there -/
theorem atI_nat {α : Type} {xs : List α} {i : Int} {j : Nat} (e : i = j) : atI xs i = xs[j]? := by
  subst e
  unfold atI ixN
  by_cases h : j < xs.length
  · rw [if_pos (by omega), if_pos (by omega)]
    rfl
  · rw [if_pos (by omega), if_neg (by omega), List.getElem?_eq_none (by omega)]
    rfl
@[simp] theorem atI_0 {α : Type} {xs : List α} : atI xs 0 = xs[0]? := atI_nat rfl
@[simp] theorem atI_1 {α : Type} {xs : List α} : atI xs 1 = xs[1]? := atI_nat rfl
@[simp] theorem atI_2 {α : Type} {xs : List α} : atI xs 2 = xs[2]? := atI_nat rfl
@[simp] theorem atI_3 {α : Type} {xs : List α} : atI xs 3 = xs[3]? := atI_nat rfl
def isWhole (v : D) (lo hi : Int) : Bool := match v with
  | .int i => decide (lo ≤ i) && decide (i ≤ hi)
  | _ => false
def isWord (v : D) (ds : List D) : Bool := match v with
  | .str z => ds.any fun d => d.eqv (.str z)
  | _ => false
def isOneOf (v : D) (ds : List D) : Bool := match v with
  | .int z => ds.any fun d => d.eqv (.int z)
  | _ => false
def isBool (v : D) : Bool := match v with
  | .bl _ => true
  | _ => false
def sizesB (v : D) : Bool := match v with
  | .tup [a, b, c] => isOneOf a [.int 1, .int 2] && (isOneOf b [.int 2, .int 4] && isOneOf c [.int 4, .int 8])
  | _ => false
def machB (v : D) : Bool := match v with
  | .tup [s, a, b, c] => sizesB s && (isOneOf a [.int 1, .int 2, .int 4, .int 8] && (isWord b [.str "big", .str "little", .str "pairs"] && isBool c))
  | _ => false
def famB (v : D) : Bool := match v with
  | .tup ds => decide (1 ≤ (ds.length : Int)) && (decide ((ds.length : Int) ≤ 5) && ds.all machB)
  | _ => false
theorem sizesB_ne {ds : List D} (h : ¬ ds.length = 3) : sizesB (.tup ds) = false := by
  unfold sizesB
  split
  · rename_i e; cases e; exact absurd rfl h
  · rfl
theorem machB_ne {ds : List D} (h : ¬ ds.length = 4) : machB (.tup ds) = false := by
  unfold machB
  split
  · rename_i e; cases e; exact absurd rfl h
  · rfl
/-! ### widths -/
def strW (v : D) : Option (List Int) := match v with
  | .str z => if z = "s" then some [8] else if z = "m" then some [16] else if z = "l" then some [32] else none
  | _ => none
def lenB (ds : List D) : Bool := decide (1 ≤ (ds.length : Int)) && decide ((ds.length : Int) ≤ 4)
def bitsW (ds : List D) : Option (List Int) := if (lenB ds && ds.all fun w => isWhole w 1 8) = true then (intsOf ds).bind fun ns => if ns.sum ≤ 8 then some ns else none else none
def joinW : List (Option (List Int)) → Option (List Int)
  | [] => some []
  | o :: r => o.bind fun a => (joinW r).map (a ++ ·)
def repI (ns : List Int) (k : Int) : List Int := (List.replicate k.toNat ns).flatten
def rowW (x : D) (o : Option (List Int)) : Option (List Int) := match x with
  | .int i => if (decide (1 ≤ i) && decide (i ≤ 4)) = true then o.map fun ns => repI ns i else none
  | _ => none
def allW (f : D → Option (List Int)) (v : D) : Option (List Int) := match v with
  | .tup ws => if lenB ws = true then joinW (ws.map f) else none
  | _ => none
def bitW (v : D) : Option (List Int) := match v with
  | .tup ws => bitsW ws
  | _ => none
/-- the widths of a shape, so deep at most -/
def wide : Nat → D → Option (List Int)
  | 0, v => strW v
  | d + 1, v => match v with
    | .tup [.str z, x] => if z = "bits" then bitW x else if z = "all" then allW (wide d) x else none
    | .tup [.str z, x, y] => if z = "row" then rowW x (wide d y) else none
    | .tup _ => none
    | v => strW v
theorem joinW_some : ∀ {os : List (Option (List Int))}, (joinW os).isSome = os.all Option.isSome
  | [] => rfl
  | o :: r => by
    rw [joinW, List.all_cons, ← joinW_some (os := r)]
    cases o with
    | none => rfl
    | some a => cases joinW r <;> rfl
theorem intsOf_whole {lo hi : Int} : ∀ {ds : List D}, (ds.all fun w => isWhole w lo hi) = true → ∃ ns, intsOf ds = some ns ∧ ds = ns.map D.int
  | [], _ => ⟨[], rfl, rfl⟩
  | d :: ds, h => by
    rw [List.all_cons] at h
    obtain ⟨h1, h2⟩ := He.ba h
    obtain ⟨ns, e1, e2⟩ := intsOf_whole h2
    cases d with
    | int i => exact ⟨i :: ns, by rw [intsOf, e1]; rfl, by rw [e2]; rfl⟩
    | _ => cases h1
theorem joinW_len {m : Nat} : ∀ {os : List (Option (List Int))} {ns : List Int}, joinW os = some ns → (∀ o ∈ os, ∀ a, o = some a → a.length ≤ m) → ns.length ≤ os.length * m
  | [], ns, h, _ => by cases h; simp
  | o :: r, ns, h, hl => by
    rw [joinW] at h
    obtain ⟨a, rfl, h⟩ := Option.bind_eq_some_iff.mp h
    obtain ⟨b, hb, rfl⟩ := Option.map_eq_some_iff.mp h
    have h1 := hl _ List.mem_cons_self a rfl
    have h2 := joinW_len hb fun o ho => hl o (List.mem_cons_of_mem _ ho)
    rw [List.length_append, List.length_cons, Nat.succ_mul]
    omega
theorem repI_len {ns : List Int} {k : Int} : (repI ns k).length = k.toNat * ns.length := by
  unfold repI
  simp
theorem strW_len {v : D} {ns : List Int} (h : strW v = some ns) : ns.length ≤ 4 := by
  unfold strW at h
  repeat' split at h
  all_goals first | (cases h; simp) | cases h
theorem bitsW_len {ds : List D} {ns : List Int} (h : bitsW ds = some ns) : ds = ns.map D.int ∧ ns.length ≤ 4 := by
  unfold bitsW at h
  split at h
  · rename_i h1
    obtain ⟨h1, h2⟩ := He.ba h1
    obtain ⟨ms, e1, e2⟩ := intsOf_whole h2
    rw [e1] at h
    have h : (if ms.sum ≤ 8 then some ms else none) = some ns := h
    split at h
    · cases h
      refine ⟨e2, ?_⟩
      unfold lenB at h1
      obtain ⟨_, h4⟩ := He.ba h1
      have := of_decide_eq_true h4
      rw [e2, List.length_map] at this
      omega
    · cases h
  · cases h
theorem wide_len : ∀ {d : Nat} {v : D} {ns : List Int}, wide d v = some ns → ns.length ≤ 4 ^ (d + 1)
  | 0, v, ns, h => strW_len h
  | d + 1, v, ns, h => by
    have p4 : 4 ≤ 4 ^ (d + 1 + 1) := Nat.le_self_pow (by omega) 4
    unfold wide at h
    split at h
    · split at h
      · unfold bitW at h
        split at h
        · exact Nat.le_trans (bitsW_len h).2 p4
        · cases h
      · split at h
        · unfold allW at h
          split at h
          · rename_i ws _
            split at h
            · rename_i hl
              have h1 := joinW_len (m := 4 ^ (d + 1)) h fun o ho a e => by
                obtain ⟨w, _, rfl⟩ := List.mem_map.mp ho
                exact wide_len e
              rw [List.length_map] at h1
              unfold lenB at hl
              have h4 := of_decide_eq_true (He.ba hl).2
              refine Nat.le_trans h1 ?_
              rw [Nat.pow_succ 4 (d + 1), Nat.mul_comm]
              exact Nat.mul_le_mul_left _ (by omega)
            · cases h
          · cases h
        · cases h
    · split at h
      · unfold rowW at h
        split at h
        · split at h
          · rename_i i _ hi
            obtain ⟨a, ha, rfl⟩ := Option.map_eq_some_iff.mp h
            have h1 := wide_len ha
            rw [repI_len, Nat.pow_succ 4 (d + 1), Nat.mul_comm]
            have := of_decide_eq_true (He.ba hi).2
            exact Nat.mul_le_mul h1 (by omega)
          · cases h
        · cases h
      · cases h
    · cases h
    · exact Nat.le_trans (strW_len h) p4
end PyP

set_option Elab.async false
set_option linter.all false
set_option maxRecDepth 100000
set_option maxHeartbeats 4000000
/-! PyP3: what the program's own looks at values answer. -/
namespace PyP
open PySem hiding Env
open PySem.Spec PyProof.Rows L2 PyD
section
variable {Df : Nat → Option Def} {wf k : Nat} {M : Ms} {L n : Nat}
theorem s0 (H : Df 0 = some b0) {v : D} {lo hi : Int} (hv : Fi L n v) : callD Df wf (k + 1) 0 [.d v, .d (.int lo), .d (.int hi)] M = .ok (.d (.bl (isWhole v lo hi)), M) := by
  refine eq_of ?_
  rw [w_callD H rfl]
  cases hv <;> simp [b0, startD, isWhole]
  split <;> simp_all <;> omega
theorem s1 (H : Df 1 = some b1) {v : D} {ds : List D} (hv : Fi L n v) (hd : ds.all D.flat = true) : callD Df wf (k + 1) 1 [.d v, .d (.tup ds)] M = .ok (.d (.bl (isWord v ds)), M) := by
  refine eq_of ?_
  rw [w_callD H rfl]
  cases hv <;> simp [b1, startD, isWord, hd]
theorem s2 (H : Df 2 = some b2) {v : D} {ds : List D} (hv : Fi L n v) (hd : ds.all D.flat = true) : callD Df wf (k + 1) 2 [.d v, .d (.tup ds)] M = .ok (.d (.bl (isOneOf v ds)), M) := by
  refine eq_of ?_
  rw [w_callD H rfl]
  cases hv <;> simp [b2, startD, isOneOf, hd]
theorem s3 (H2 : Df 2 = some b2) (H : Df 3 = some b3) {v : D} (hv : Fi L n v) : callD Df wf (k + 2) 3 [.d v] M = .ok (.d (.bl (sizesB v)), M) := by
  refine eq_of ?_
  rw [w_callD H rfl]
  cases hv with
  | tup hl hm =>
    rename_i m ds
    by_cases h : ds.length = 3
    · match ds, h with
      | [a, b, c], _ =>
      have ha := hm a (by simp)
      have hb := hm b (by simp)
      have hc := hm c (by simp)
      simp [b3, startD, s2 H2 ha, s2 H2 hb, s2 H2 hc, sizesB, sizeLine_eq]
      (repeat' split) <;> simp_all
    · rw [sizesB_ne h]
      have h' : ¬ (ds.length : Int) = 3 := by omega
      simp [b3, startD, h']
  | _ => simp [b3, startD, sizesB]
theorem s4 (H1 : Df 1 = some b1) (H2 : Df 2 = some b2) (H3 : Df 3 = some b3) (H : Df 4 = some b4) {v : D} (hv : Fi L n v) : callD Df wf (k + 3) 4 [.d v] M = .ok (.d (.bl (machB v)), M) := by
  refine eq_of ?_
  rw [w_callD H rfl]
  cases hv with
  | tup hl hm =>
    rename_i m ds
    by_cases h : ds.length = 4
    · match ds, h with
      | [s, a, b, c], _ =>
      have hs := hm s (by simp)
      have ha := hm a (by simp)
      have hb := hm b (by simp)
      have hc := hm c (by simp)
      have e : disi c .bool = .ok (.bl (isBool c)) := by cases hc <;> rfl
      simp [b4, startD, s2 H2 ha, s1 H1 hb, s3 H2 H3 hs, machB, sizeLine_eq]
      split
      · split
        · simp_all [e]
        · simp_all
      · simp_all
    · rw [machB_ne h]
      have h' : ¬ (ds.length : Int) = 4 := by omega
      simp [b4, startD, h']
  | _ => simp [b4, startD, machB]
theorem s5 (H1 : Df 1 = some b1) (H2 : Df 2 = some b2) (H3 : Df 3 = some b3) (H4 : Df 4 = some b4) (H : Df 5 = some b5) {v : D} (hv : Fi L n v) (hn : n ≤ 60) (hL : L ≤ 100) : callD Df wf (k + 4) 5 [.d v] M = .ok (.d (.bl (famB v)), M) := by
  refine eq_of ?_
  rw [w_callD H rfl]
  cases hv with
  | tup hl hm =>
    rename_i m ds
    have lc : ∀ ρ, lcL (lcE (callD Df wf (k + 3)) (.var 1) (.nm 1) (.some (.not (.call 4 (.cons (.var 1) .nil)))) [1] [some (.d (.tup ds)), ρ]) ds [] M = .ok ([] ++ ds.filterMap (badO machB), M) := fun ρ =>
      lcL_pure _ (fun d hd => by
        refine eq_of ?_
        simp [s4 H1 H2 H3 H4 (hm d hd), badO]) (by rw [sizeLine_eq]; simp; omega)
    have sh := bad_sh (p := machB) hm hl (by omega)
    simp [b5, startD, lc, sh, famB, sizeLine_eq, badO_all, cmp_eq sh sh_nil]
    (repeat' split) <;> simp_all <;> (intros; omega)
  | _ => simp [b5, startD, famB]
theorem s6 (H0 : Df 0 = some b0) (H : Df 6 = some b6) {v : D} (hv : Fi L n v) (hn : n ≤ 60) (hL : L ≤ 100) : callD Df wf (k + 2) 6 [.d v] M = .ok (.d (.bl (bitW v).isSome), M) := by
  refine eq_of ?_
  rw [w_callD H rfl]
  cases hv with
  | tup hl hm =>
    rename_i m ds
    have lc : ∀ ρ, lcL (lcE (callD Df wf (k + 1)) (.var 1) (.nm 1) (.some (.not (.call 0 (.cons (.var 1) (.cons (.con (.int 1)) (.cons (.con (.int 8)) .nil)))))) [1] [some (.d (.tup ds)), ρ]) ds [] M = .ok ([] ++ ds.filterMap (badO fun w => isWhole w 1 8), M) := fun ρ =>
      lcL_pure _ (fun d hd => by
        refine eq_of ?_
        simp [s0 H0 (hm d hd), badO]) (by rw [sizeLine_eq]; simp; omega)
    have sh := bad_sh (p := fun w => isWhole w 1 8) hm hl (by omega)
    simp [b6, startD, lc, sh, bitW, bitsW, lenB, sizeLine_eq, badO_all, cmp_eq sh sh_nil]
    by_cases h : (ds.all fun w => isWhole w 1 8) = true
    · obtain ⟨ns, e1, e2⟩ := intsOf_whole h
      simp [h, e1]
      (repeat' split) <;> simp_all <;> (intros; omega)
    · (repeat' split) <;> simp_all <;> first | (intros; omega) | grind
  | _ => simp [b6, startD, bitW]
theorem bl_len2 {ds : List D} (h : ¬ ds.length = 2) (h' : ¬ ds.length = 3) : ∀ d, (wide d (.tup ds)) = none := by
  intro d
  cases d with
  | zero => rfl
  | succ d =>
    unfold wide
    split
    · rename_i e; cases e; exact absurd rfl h
    · rename_i e; cases e; exact absurd rfl h'
    · rfl
    · rename_i e; exact absurd rfl (e _)
theorem s7 (H0 : Df 0 = some b0) (H6 : Df 6 = some b6) (H : Df 7 = some b7) (hL : L ≤ 100) : ∀ {d : Nat} {v : D} {n k : Nat} {M : Ms}, Fi L n v → n ≤ 60 → callD Df wf (k + d + 3) 7 [.d v, .d (.int d)] M = .ok (.d (.bl (wide d v).isSome), M) := by
  intro d
  induction d with
  | zero =>
    intro v n k M hv hn
    refine eq_of ?_
    rw [w_callD H rfl]
    cases hv with
    | tup hl hm =>
      rename_i m ds
      simp [b7, startD, wide, strW, sizeLine_eq]
    | str h hl =>
      simp [b7, startD, wide, strW, sizeLine_eq]
      (repeat' split) <;> simp_all
    | _ => simp [b7, startD, wide, strW]
  | succ d ih =>
    intro v n k M hv hn
    refine eq_of ?_
    rw [show k + (d + 1) + 3 = (k + d + 3) + 1 by omega, w_callD H rfl]
    have hd1 : ¬ ((d : Int) + 1 = 0) := by omega
    cases hv with
    | tup hl hm =>
      rename_i m ds
      by_cases h2 : ds.length = 2
      · match ds, h2 with
        | [a, x], _ =>
        have ha := hm a (by simp)
        have hx := hm x (by simp)
        cases ha with
        | @str _ z hz hzl =>
          have hsz : (D.str z).sh = true := sh_str (asc_ok hz)
          by_cases zb : z = "bits"
          · subst zb
            simp [b7, startD, wide, hd1, sizeLine_eq, s6 H0 H6 hx (by omega) hL]
          · by_cases zr : z = "row"
            · subst zr
              simp [b7, startD, wide, hd1, sizeLine_eq]
            · by_cases za : z = "all"
              · subst za
                cases hx with
                | @tup m' ws hxl hxm =>
                  have lc : ∀ ρ, lcL (lcE (callD Df wf (k + d + 3)) (.var 2) (.nm 2) (.some (.not (.call 7 (.cons (.var 2) (.cons (.op2 .sub (.var 1) (.con (.int 1))) .nil))))) [2] [some (.d (.tup [.str "all", .tup ws])), some (.d (.int (d + 1))), ρ]) ws [] M = .ok ([] ++ ws.filterMap (badO fun w => (wide d w).isSome), M) := fun ρ =>
                    lcL_pure _ (fun d hd => by
                      refine eq_of ?_
                      simp [ih (hxm d hd) (by omega), badO]) (by rw [sizeLine_eq]; simp; omega)
                  have sh := bad_sh (p := fun w => (wide d w).isSome) hxm hxl (by omega)
                  simp [b7, startD, wide, hd1, sizeLine_eq, allW, lenB, lc, sh, cmp_eq sh sh_nil, badO_all]
                  (repeat' split) <;> simp_all [joinW_some] <;> first | (intros; omega) | rfl
                | _ => simp [b7, startD, wide, hd1, sizeLine_eq, allW]
              · simp [b7, startD, wide, hd1, sizeLine_eq, zb, zr, za, hsz]
        | _ => simp [b7, startD, wide, hd1, sizeLine_eq, strW]
      · by_cases h3 : ds.length = 3
        · match ds, h3 with
          | [a, x, y], _ =>
          have ha := hm a (by simp)
          have hx := hm x (by simp)
          have hy := hm y (by simp)
          cases ha with
          | @str _ z hz hzl =>
            have hsz : (D.str z).sh = true := sh_str (asc_ok hz)
            by_cases zb : z = "bits"
            · subst zb
              simp [b7, startD, wide, hd1, sizeLine_eq]
            · by_cases zr : z = "row"
              · subst zr
                simp [b7, startD, wide, hd1, sizeLine_eq, s0 H0 hx, ih hy (by omega), rowW]
                cases hx with
                | @int _ i _ =>
                  by_cases h1 : 1 ≤ i ∧ i ≤ 4
                  · simp [isWhole, h1]
                  · simp [isWhole, h1]
                | _ => simp [isWhole]
              · by_cases za : z = "all"
                · subst za
                  simp [b7, startD, wide, hd1, sizeLine_eq]
                · simp [b7, startD, wide, hd1, sizeLine_eq, zb, zr, za, hsz]
          | _ => simp [b7, startD, wide, hd1, sizeLine_eq, strW]
        · rw [bl_len2 h2 h3]
          have h2' : ¬ (2 = (ds.length : Int)) := by omega
          have h3' : ¬ (3 = (ds.length : Int)) := by omega
          simp [b7, startD, h2', h3', sizeLine_eq]
    | str h hl =>
      simp [b7, startD, wide, strW, sizeLine_eq]
      (repeat' split) <;> simp_all
    | _ => simp [b7, startD, wide, strW]
def iL (ns : List Int) : D := .lst (ns.map D.int)
theorem repD_ints {ns : List Int} {k : Int} : repD (ns.map D.int) k = (repI ns k).map D.int := by
  unfold repD repI
  rw [List.map_flatten, List.map_replicate]
theorem s8_str (H : Df 8 = some b8) {v : D} {ns : List Int} (h : strW v = some ns) : callD Df wf (k + 1) 8 [.d v] M = .ok (.d (iL ns), M) := by
  refine eq_of ?_
  rw [w_callD H rfl]
  unfold strW at h
  split at h
  · have e1 : dcGet [("s", 8), ("m", 16), ("l", 32)] "s" = some 8 := by decide +kernel
    have e2 : dcGet [("s", 8), ("m", 16), ("l", 32)] "m" = some 16 := by decide +kernel
    have e3 : dcGet [("s", 8), ("m", 16), ("l", 32)] "l" = some 32 := by decide +kernel
    repeat' split at h
    all_goals first | cases h | skip
    all_goals subst_vars
    all_goals simp [b8, startD, e1, e2, e3, iL, sizeLine_eq]
  · cases h
/-- all widths of a shape -/
theorem s8 (H : Df 8 = some b8) : ∀ {d : Nat} {v : D} {k : Nat} {M : Ms} {ns : List Int}, d ≤ 6 → wide d v = some ns → callD Df wf (k + d + 1) 8 [.d v] M = .ok (.d (iL ns), M)
  | 0, v, k, M, ns, _, h => s8_str H h
  | d + 1, v, k, M, ns, hd, h => by
    have h' := h
    unfold wide at h
    split at h
    · rename_i z x
      split at h
      · rename_i hz
        subst hz
        cases x with
        | tup ws =>
          have := bitsW_len h
          rw [this.1]
          refine eq_of ?_
          rw [w_callD H rfl]
          simp [b8, startD, iL]
        | _ => cases h
      · split at h
        · rename_i hz
          subst hz
          cases x with
          | tup ws =>
            refine eq_of ?_
            rw [show k + (d + 1) + 1 = (k + d + 1) + 1 by omega, w_callD H rfl]
            have h : (if lenB ws = true then joinW (ws.map (wide d)) else none) = some ns := h
            split at h
            · have hl : ns.length ≤ ws.length * 4 ^ (d + 1) := by
                have h1 := joinW_len (m := 4 ^ (d + 1)) h fun o ho a e => by
                  obtain ⟨w, _, rfl⟩ := List.mem_map.mp ho
                  exact wide_len e
                rwa [List.length_map] at h1
              simp [b8, startD, sizeLine_eq]
              refine wx_forL (fun r ρ M' => M' = M ∧ ∃ ms a o, ms ++ a = ns ∧ joinW (r.map (wide d)) = some a ∧ ρ = [some (.d (.tup [.str "all", .tup ws])), some (.d (iL ms)), o]) ⟨rfl, [], ns, _, rfl, h, rfl⟩ (fun x r ρ M' hI => ?_) (fun ρ M' hI => ?_)
              · obtain ⟨rfl, ms, a, o, e1, e2, rfl⟩ := hI
                rw [List.map_cons, joinW] at e2
                obtain ⟨b, eb, e2⟩ := Option.bind_eq_some_iff.mp e2
                obtain ⟨c, ec, rfl⟩ := Option.map_eq_some_iff.mp e2
                have := s8 H (k := k) (M := M') (by omega) eb
                simp [this, iL]
                refine ⟨?_, ms ++ b, c, by rw [List.append_assoc]; exact e1, ec, by rw [List.map_append]⟩
                have q1 := wide_len h'
                have q2 : 4 ^ (d + 1 + 1) ≤ 4 ^ 7 := Nat.pow_le_pow_right (by omega) (by omega)
                rw [← e1] at q1
                simp at q1
                rw [sizeLine_eq]
                omega
              · obtain ⟨rfl, ms, a, o, e1, e2, rfl⟩ := hI
                cases e2
                simp [← e1, iL]
            · cases h
          | _ => cases h
        · cases h
    · rename_i z x y
      split at h
      · rename_i hz
        subst hz
        unfold rowW at h
        split at h
        · split at h
          · rename_i i hi
            obtain ⟨a, ha, rfl⟩ := Option.map_eq_some_iff.mp h
            refine eq_of ?_
            rw [show k + (d + 1) + 1 = (k + d + 1) + 1 by omega, w_callD H rfl]
            have := s8 H (k := k) (M := M) (by omega) ha
            simp [b8, startD, iL, this, repD_ints]
            obtain ⟨i1, i2⟩ := He.ba hi
            have i1 := of_decide_eq_true i1
            have i2 := of_decide_eq_true i2
            refine ⟨by omega, by omega, ?_⟩
            have q1 := wide_len h'
            have q2 : 4 ^ (d + 1 + 1) ≤ 4 ^ 7 := Nat.pow_le_pow_right (by omega) (by omega)
            rw [repI_len, Nat.mul_comm] at q1
            rw [sizeLine_eq]
            omega
          · cases h
        · cases h
      · cases h
    · cases h
    · exact s8_str (k := k + (d + 1)) H h
/-- the widths of a shape -/
def shapeW (v : D) : Option (List Int) := (wide 3 v).bind fun ns => if ns.length ≤ 10 then some ns else none
theorem s9 (H0 : Df 0 = some b0) (H6 : Df 6 = some b6) (H7 : Df 7 = some b7) (H8 : Df 8 = some b8) (H : Df 9 = some b9) {v : D} (hv : Fi L n v) (hn : n ≤ 60) (hL : L ≤ 100) : callD Df wf (k + 7) 9 [.d v] M = .ok (.d (.bl (shapeW v).isSome), M) := by
  refine eq_of ?_
  rw [w_callD H rfl]
  have e7 : ∀ M, callD Df wf (k + 6) 7 [.d v, .d (.int 3)] M = .ok (.d (.bl (wide 3 v).isSome), M) := fun M => s7 (wf := wf) H0 H6 H7 hL (d := 3) (k := k) (M := M) hv hn
  cases e : wide 3 v with
  | none => simp [b9, startD, e7, shapeW, e]
  | some ns =>
    have e8 := s8 (wf := wf) H8 (d := 3) (k := k + 2) (M := M) (by omega) e
    simp [b9, startD, shapeW, e, e7, e8, iL]
    split <;> simp_all <;> omega
theorem s10 (H0 : Df 0 = some b0) (H6 : Df 6 = some b6) (H7 : Df 7 = some b7) (H8 : Df 8 = some b8) (H9 : Df 9 = some b9) (H : Df 10 = some b10) {v : D} (hv : Fi L n v) (hn : n ≤ 60) (hL : L ≤ 100) : callD Df wf (k + 8) 10 [.d v] M = if (shapeW v).isSome = true then .ok (.d .non, M) else .exc 3 M := by
  refine eq_of ?_
  rw [w_callD H rfl]
  cases e : (shapeW v).isSome <;> simp [b10, startD, s9 H0 H6 H7 H8 H9 hv hn hL, e]
theorem s11 (H0 : Df 0 = some b0) (H6 : Df 6 = some b6) (H7 : Df 7 = some b7) (H8 : Df 8 = some b8) (H9 : Df 9 = some b9) (H10 : Df 10 = some b10) (H : Df 11 = some b11) {v : D} (hv : Fi L n v) (hn : n ≤ 60) (hL : L ≤ 100) :
    callD Df wf (k + 9) 11 [.d v] M = match shapeW v with
      | some ns => .ok (.d (iL ns), M)
      | none => .exc 3 M := by
  refine eq_of ?_
  rw [w_callD H rfl]
  cases e : shapeW v with
  | none => simp [b11, startD, s10 H0 H6 H7 H8 H9 H10 hv hn hL, e]
  | some ns =>
    have e1 : wide 3 v = some ns := by
      unfold shapeW at e
      obtain ⟨a, ha, h⟩ := Option.bind_eq_some_iff.mp e
      split at h
      · cases h; exact ha
      · cases h
    have e8 := s8 (wf := wf) H8 (d := 3) (k := k + 4) (M := M) (by omega) e1
    simp [b11, startD, s10 H0 H6 H7 H8 H9 H10 hv hn hL, e, e8]
end
end PyP

set_option Elab.async false
set_option linter.all false
set_option maxRecDepth 100000
set_option maxHeartbeats 4000000
/-! PyP4: what the law's own looks at values answer. -/
namespace PyP
open PySem hiding Env
open PySem.Spec PyProof.Rows L2 PyD
/-- _law_is_whole -/
def b15 : Def := ⟨3, 3, (.cons (.ret (.and (.isi (.var 0) .int) (.and (.notv (.isi (.var 0) .bool)) (.chn .le .le (.var 1) (.var 0) (.var 2))))) .nil), ["value", "low", "high"]⟩
/-- _law_truly -/
def b16 : Def := ⟨2, 2, (.cons (.ret (.and (.isi (.var 0) .bool) (.cmp .eq (.var 0) (.var 1)))) .nil), ["found", "due"]⟩
/-- _law_is_in -/
def b17 : Def := ⟨2, 2, (.cons (.ret (.and (.isi (.var 0) .int) (.and (.notv (.isi (.var 0) .bool)) (.cmp .mem (.var 0) (.var 1))))) .nil), ["value", "numbers"]⟩
/-- _law_is_machine -/
def b18 : Def := ⟨1, 3, (.cons (.ife (.or (.not (.isi (.var 0) .tuple)) (.or (.cmp .ne (.bi .len (.cons (.var 0) .nil)) (.con (.int 4))) (.or (.not (.isi (.ix (.var 0) (.con (.int 0))) .tuple)) (.cmp .ne (.bi .len (.cons (.ix (.var 0) (.con (.int 0))) .nil)) (.con (.int 3)))))) (.cons (.ret (.con (.bl false))) .nil) .nil) (.cons (.fr (.tp [1, 2]) (.zip (.ix (.var 0) (.con (.int 0))) (.fr (.lst (.cons (.fr (.lst (.cons (.con (.int 1)) (.cons (.con (.int 2)) .nil)))) (.cons (.fr (.lst (.cons (.con (.int 2)) (.cons (.con (.int 4)) .nil)))) (.cons (.fr (.lst (.cons (.con (.int 4)) (.cons (.con (.int 8)) .nil)))) .nil)))))) (.cons (.ife (.not (.call 17 (.cons (.var 1) (.cons (.var 2) .nil)))) (.cons (.ret (.con (.bl false))) .nil) .nil) .nil)) (.cons (.ife (.or (.not (.isi (.ix (.var 0) (.con (.int 2))) .str)) (.cmp .nmem (.ix (.var 0) (.con (.int 2))) (.fr (.lst (.cons (.con (.str "big")) (.cons (.con (.str "little")) (.cons (.con (.str "pairs")) .nil))))))) (.cons (.ret (.con (.bl false))) .nil) .nil) (.cons (.ret (.and (.call 17 (.cons (.ix (.var 0) (.con (.int 1))) (.cons (.fr (.lst (.cons (.con (.int 1)) (.cons (.con (.int 2)) (.cons (.con (.int 4)) (.cons (.con (.int 8)) .nil)))))) .nil))) (.isi (.ix (.var 0) (.con (.int 3))) .bool))) .nil)))), ["value"]⟩
/-- _law_is_family -/
def b19 : Def := ⟨1, 2, (.cons (.ife (.or (.not (.isi (.var 0) .tuple)) (.cmp .nmem (.bi .len (.cons (.var 0) .nil)) (.tup (.cons (.con (.int 1)) (.cons (.con (.int 2)) (.cons (.con (.int 3)) (.cons (.con (.int 4)) (.cons (.con (.int 5)) .nil)))))))) (.cons (.ret (.con (.bl false))) .nil) .nil) (.cons (.ret (.cmp .eq (.fr (.lc (.var 1) (.nm 1) (.seq (.var 0)) (.some (.not (.call 18 (.cons (.var 1) .nil)))) [1])) (.fr (.lst .nil)))) .nil)), ["value"]⟩
/-- _law_wide -/
def b20 : Def := ⟨2, 7, (.cons (.ife (.isi (.var 0) .str) (.cons (.ret (.ife (.cmp .mem (.var 0) (.fr (.lst (.cons (.con (.str "s")) (.cons (.con (.str "m")) (.cons (.con (.str "l")) .nil)))))) (.fr (.lst (.cons (.ix (.dsp [("s", 8), ("m", 16), ("l", 32)]) (.var 0)) .nil))) (.con (.non)))) .nil) .nil) (.cons (.ife (.or (.cmp .eq (.var 1) (.con (.int 0))) (.or (.not (.isi (.var 0) .tuple)) (.or (.cmp .lt (.bi .len (.cons (.var 0) .nil)) (.con (.int 2))) (.not (.isi (.ix (.var 0) (.con (.int 0))) .str))))) (.cons (.ret (.con (.non))) .nil) .nil) (.cons (.ife (.cmp .eq (.ix (.var 0) (.con (.int 0))) (.con (.str "row"))) (.cons (.asg (.nm 2) (.ife (.and (.cmp .eq (.bi .len (.cons (.var 0) .nil)) (.con (.int 3))) (.call 15 (.cons (.ix (.var 0) (.con (.int 1))) (.cons (.con (.int 1)) (.cons (.con (.int 4)) .nil))))) (.call 20 (.cons (.ix (.var 0) (.con (.int 2))) (.cons (.op2 .sub (.var 1) (.con (.int 1))) .nil))) (.con (.non)))) (.cons (.ret (.ife (.isn (.var 2)) (.con (.non)) (.op2 .mul (.var 2) (.ix (.var 0) (.con (.int 1)))))) .nil)) .nil) (.cons (.ife (.or (.cmp .ne (.bi .len (.cons (.var 0) .nil)) (.con (.int 2))) (.or (.not (.isi (.ix (.var 0) (.con (.int 1))) .tuple)) (.not (.chn .le .le (.con (.int 1)) (.bi .len (.cons (.ix (.var 0) (.con (.int 1))) .nil)) (.con (.int 4)))))) (.cons (.ret (.con (.non))) .nil) .nil) (.cons (.ife (.cmp .eq (.ix (.var 0) (.con (.int 0))) (.con (.str "bits"))) (.cons (.asg (.nm 3) (.fr (.lc (.var 4) (.nm 4) (.seq (.ix (.var 0) (.con (.int 1)))) (.some (.not (.call 15 (.cons (.var 4) (.cons (.con (.int 1)) (.cons (.con (.int 8)) .nil)))))) [4]))) (.cons (.ret (.ife (.and (.cmp .eq (.var 3) (.fr (.lst .nil))) (.cmp .le (.bi .sum (.cons (.ix (.var 0) (.con (.int 1))) .nil)) (.con (.int 8)))) (.fr (.of (.ix (.var 0) (.con (.int 1))))) (.con (.non)))) .nil)) .nil) (.cons (.asg (.nm 5) (.ife (.cmp .eq (.ix (.var 0) (.con (.int 0))) (.con (.str "all"))) (.fr (.lst .nil)) (.con (.non)))) (.cons (.fr (.nm 6) (.seq (.ix (.var 0) (.con (.int 1)))) (.cons (.asg (.nm 2) (.call 20 (.cons (.var 6) (.cons (.op2 .sub (.var 1) (.con (.int 1))) .nil)))) (.cons (.asg (.nm 5) (.ife (.or (.isn (.var 5)) (.isn (.var 2))) (.con (.non)) (.op2 .add (.var 5) (.var 2)))) .nil))) (.cons (.ret (.var 5)) .nil)))))))), ["value", "deep"]⟩
/-- _law_widths -/
def b21 : Def := ⟨1, 2, (.cons (.asg (.nm 1) (.call 20 (.cons (.var 0) (.cons (.con (.int 3)) .nil)))) (.cons (.ret (.ife (.and (.isnn (.var 1)) (.cmp .le (.bi .len (.cons (.var 1) .nil)) (.con (.int 10)))) (.var 1) (.con (.non)))) .nil)), ["value"]⟩
section
variable {Df : Nat → Option Def} {wf k : Nat} {M : Ms} {L n : Nat}
theorem s15 (H : Df 15 = some b15) {v : D} {lo hi : Int} (hv : Fi L n v) : callD Df wf (k + 1) 15 [.d v, .d (.int lo), .d (.int hi)] M = .ok (.d (.bl (isWhole v lo hi)), M) := by
  refine eq_of ?_
  rw [w_callD H rfl]
  cases hv <;> simp [b15, startD, isWhole]
  split <;> simp_all <;> omega
theorem s16 (H : Df 16 = some b16) {a b : Bool} : callD Df wf (k + 1) 16 [.d (.bl a), .d (.bl b)] M = .ok (.d (.bl (a == b)), M) := by
  refine eq_of ?_
  rw [w_callD H rfl]
  simp [b16, startD]
theorem s17 (H : Df 17 = some b17) {v : D} {ds : List D} (hv : Fi L n v) (hd : (D.lst ds).sh = true) : callD Df wf (k + 1) 17 [.d v, .d (.lst ds)] M = .ok (.d (.bl (isOneOf v ds)), M) := by
  refine eq_of ?_
  rw [w_callD H rfl]
  cases hv <;> simp [b17, startD, isOneOf, hd]
theorem s18 (H17 : Df 17 = some b17) (H : Df 18 = some b18) {v : D} (hv : Fi L n v) (hn : n ≤ 60) : callD Df wf (k + 2) 18 [.d v] M = .ok (.d (.bl (machB v)), M) := by
  refine eq_of ?_
  rw [w_callD H rfl]
  cases hv with
  | tup hl hm =>
    rename_i m ds
    by_cases h : ds.length = 4
    · match ds, h with
      | [s, a, b, c], _ =>
      have hs := hm s (by simp)
      have ha := hm a (by simp)
      have hb := hm b (by simp)
      have hc := hm c (by simp)
      have e : disi c .bool = .ok (.bl (isBool c)) := by cases hc <;> rfl
      cases hs with
      | @tup m' ws hsl hsm =>
        by_cases h3 : ws.length = 3
        · match ws, h3 with
          | [x, y, z], _ =>
          have hx := hsm x (by simp)
          have hy := hsm y (by simp)
          have hz := hsm z (by simp)
          have g1 : (D.lst [.int 1, .int 2]).sh = true := rfl
          have g2 : (D.lst [.int 2, .int 4]).sh = true := rfl
          have g3 : (D.lst [.int 4, .int 8]).sh = true := rfl
          have g4 : (D.lst [.int 1, .int 2, .int 4, .int 8]).sh = true := rfl
          have g5 : (D.lst [.str "big", .str "little", .str "pairs"]).sh = true := by decide +kernel
          have hbs := hb.sh (by omega)
          cases hb <;> simp [b18, startD, sizeLine_eq, zipD, forL, s17 H17 hx g1, s17 H17 hy g2, s17 H17 hz g3, s17 H17 ha g4, machB, sizesB, g5, hbs, isWord] <;> (repeat' split) <;> simp_all <;> grind
        · have h3' : ¬ (ws.length : Int) = 3 := by omega
          simp [b18, startD, h3', machB, sizesB_ne h3]
      | _ => simp [b18, startD, machB, sizesB, sizeLine_eq]
    · rw [machB_ne h]
      have h' : ¬ (ds.length : Int) = 4 := by omega
      simp [b18, startD, h']
  | _ => simp [b18, startD, machB]
theorem s19 (H17 : Df 17 = some b17) (H18 : Df 18 = some b18) (H : Df 19 = some b19) {v : D} (hv : Fi L n v) (hn : n ≤ 60) (hL : L ≤ 100) : callD Df wf (k + 3) 19 [.d v] M = .ok (.d (.bl (famB v)), M) := by
  refine eq_of ?_
  rw [w_callD H rfl]
  cases hv with
  | tup hl hm =>
    rename_i m ds
    have lc : ∀ ρ, lcL (lcE (callD Df wf (k + 2)) (.var 1) (.nm 1) (.some (.not (.call 18 (.cons (.var 1) .nil)))) [1] [some (.d (.tup ds)), ρ]) ds [] M = .ok ([] ++ ds.filterMap (badO machB), M) := fun ρ =>
      lcL_pure _ (fun d hd => by
        refine eq_of ?_
        simp [s18 H17 H18 (hm d hd) (by omega), badO]) (by rw [sizeLine_eq]; simp; omega)
    have sh := bad_sh (p := machB) hm hl (by omega)
    simp [b19, startD, lc, sh, famB, sizeLine_eq, badO_all, cmp_eq sh sh_nil]
    (repeat' split) <;> simp_all <;> first | (intros; omega) | grind
  | _ => simp [b19, startD, famB]
def optD (o : Option (List Int)) : D := match o with
  | some ns => iL ns
  | none => .non
@[simp] theorem optD_some {ns : List Int} : optD (some ns) = iL ns := rfl
@[simp] theorem optD_none : optD none = .non := rfl
theorem joinW_snoc : ∀ {os : List (Option (List Int))} {o : Option (List Int)}, joinW (os ++ [o]) = (joinW os).bind fun a => o.map (a ++ ·)
  | [], o => by cases o <;> simp [joinW]
  | p :: r, o => by
    rw [List.cons_append, joinW, joinW, joinW_snoc]
    cases p with
    | none => rfl
    | some b => cases joinW r with
      | none => rfl
      | some c => cases o with
        | none => rfl
        | some e => simp
@[simp] theorem isNon_optD {o : Option (List Int)} : PyD.isNon (optD o) = o.isNone := by cases o <;> rfl
@[simp] theorem isNon_iL {ns : List Int} : PyD.isNon (iL ns) = false := rfl
theorem s20_str (H : Df 20 = some b20) {v : D} {deep : Int} (hz : ∃ z, v = .str z ∧ ∀ c ∈ z.cps.toList, c < 128) : callD Df wf (k + 1) 20 [.d v, .d (.int deep)] M = .ok (.d (optD (strW v)), M) := by
  obtain ⟨z, rfl, hz⟩ := hz
  refine eq_of ?_
  rw [w_callD H rfl]
  have hsz : (D.str z).sh = true := sh_str (asc_ok hz)
  have e1 : dcGet [("s", 8), ("m", 16), ("l", 32)] "s" = some 8 := by decide +kernel
  have e2 : dcGet [("s", 8), ("m", 16), ("l", 32)] "m" = some 16 := by decide +kernel
  have e3 : dcGet [("s", 8), ("m", 16), ("l", 32)] "l" = some 32 := by decide +kernel
  have g5 : (D.lst [.str "s", .str "m", .str "l"]).sh = true := by decide +kernel
  by_cases zs : z = "s"
  · subst zs; simp [b20, startD, strW, sizeLine_eq, e1, g5, iL]
  · by_cases zm : z = "m"
    · subst zm; simp [b20, startD, strW, sizeLine_eq, e2, g5, iL]
    · by_cases zl : z = "l"
      · subst zl; simp [b20, startD, strW, sizeLine_eq, e3, g5, iL]
      · simp [b20, startD, strW, sizeLine_eq, g5, hsz, zs, zm, zl]
theorem s20 (H15 : Df 15 = some b15) (H : Df 20 = some b20) (hL : L ≤ 100) : ∀ {d : Nat} {v : D} {n k : Nat} {M : Ms}, d ≤ 6 → Fi L n v → n ≤ 60 → callD Df wf (k + d + 2) 20 [.d v, .d (.int d)] M = .ok (.d (optD (wide d v)), M) := by
  intro d
  induction d with
  | zero =>
    intro v n k M _ hv hn
    cases hv with
    | @str _ z hz hl => exact s20_str (k := k + 1) H ⟨z, rfl, hz⟩
    | _ =>
      refine eq_of ?_
      rw [w_callD H rfl]
      simp [b20, startD, wide, strW]
  | succ d ih =>
    intro v n k M hd hv hn
    have hd1 : ¬ ((d : Int) + 1 = 0) := by omega
    cases hv with
    | @str _ z hz hl => exact s20_str (k := k + (d + 1) + 1) H ⟨z, rfl, hz⟩
    | tup hl hm =>
      rename_i m ds
      refine eq_of ?_
      rw [show k + (d + 1) + 2 = (k + d + 2) + 1 by omega, w_callD H rfl]
      match ds, hl, hm with
      | [], _, _ => simp [b20, startD, wide, hd1]
      | [a], _, _ => simp [b20, startD, wide, hd1]
      | a :: x :: r, hl, hm =>
        have ha := hm a (by simp)
        have hx := hm x (by simp)
        have hlen : ¬ (((r.length + 1 + 1 : Nat) : Int) < 2) := by omega
        cases ha with
        | @str _ z hz hzl =>
          have hsz : (D.str z).sh = true := sh_str (asc_ok hz)
          by_cases zr : z = "row"
          · subst zr
            match r, hl, hm with
            | [], _, _ => simp [b20, startD, wide, hd1]
            | [y], hl, hm =>
              have hy := hm y (by simp)
              simp [b20, startD, wide, hd1, s15 H15 hx, ih (by omega) hy (by omega), rowW]
              cases hx with
              | @int _ i _ =>
                by_cases h1 : 1 ≤ i ∧ i ≤ 4
                · simp [isWhole, h1]
                  cases e : wide d y with
                  | none => simp
                  | some ns =>
                    have q1 := wide_len e
                    have q2 : 4 ^ (d + 1) ≤ 4 ^ 6 := Nat.pow_le_pow_right (by omega) (by omega)
                    simp [iL, repD_ints]
                    have q3 : i.toNat ≤ 4 := by omega
                    have q4 : ns.length * i.toNat ≤ 4 ^ 6 * 4 := Nat.mul_le_mul (by omega) q3
                    rw [sizeLine_eq]
                    omega
                · simp [isWhole, h1]
              | _ => simp [isWhole]
            | y :: y2 :: r, hl, hm =>
              have h3 : ¬ ((((r.length + 1 + 1 + 1 + 1 : Nat)) : Int) = 3) := by omega
              simp at h3
              simp [b20, startD, wide, hd1, h3]
          · match r, hl, hm with
            | y :: r, _, _ =>
              have h2 : ¬ ((((r.length + 1 + 1 + 1 : Nat)) : Int) = 2) := by omega
              simp at h2
              simp at hlen
              simp [b20, startD, wide, hd1, hsz, zr, h2, hlen]
              (repeat' split) <;> simp_all
            | [], _, _ =>
            cases hx with
            | @tup m' ws hxl hxm =>
              by_cases hw : lenB ws = true
              · have hw' := hw
                unfold lenB at hw'
                obtain ⟨w1, w2⟩ := He.ba hw'
                have w1 := of_decide_eq_true w1
                have w2 := of_decide_eq_true w2
                by_cases zb : z = "bits"
                · subst zb
                  have lc : ∀ o5 o6, lcL (lcE (callD Df wf (k + d + 2)) (.var 4) (.nm 4) (.some (.not (.call 15 (.cons (.var 4) (.cons (.con (.int 1)) (.cons (.con (.int 8)) .nil)))))) [4] [some (.d (.tup [.str "bits", .tup ws])), some (.d (.int (d + 1))), none, none, none, o5, o6]) ws [] M = .ok ([] ++ ws.filterMap (badO fun w => isWhole w 1 8), M) := fun o5 o6 =>
                    lcL_pure _ (fun d hd => by
                      refine eq_of ?_
                      simp [s15 H15 (hxm d hd), badO]) (by rw [sizeLine_eq]; simp; omega)
                  have sh := bad_sh (p := fun w => isWhole w 1 8) hxm hxl (by omega)
                  simp [b20, startD, wide, hd1, w1, w2, lc, sh, cmp_eq sh sh_nil, badO_all, bitW, bitsW, hw]
                  by_cases h : (ws.all fun w => isWhole w 1 8) = true
                  · obtain ⟨ns, e1, e2⟩ := intsOf_whole h
                    simp [h, e1]
                    split <;> simp_all [iL]
                  · (repeat' split) <;> simp_all <;> grind
                · by_cases za : z = "all"
                  · subst za
                    simp [b20, startD, wide, hd1, w1, w2, allW, hw]
                    refine wx_forL (fun r ρ M' => M' = M ∧ ∃ dn o2 o6, dn ++ r = ws ∧ ρ = [some (.d (.tup [.str "all", .tup ws])), some (.d (.int (d + 1))), o2, none, none, some (.d (optD (joinW (dn.map (wide d))))), o6]) ⟨rfl, [], none, none, rfl, rfl⟩ (fun x r ρ M' hI => ?_) (fun ρ M' hI => ?_)
                    · obtain ⟨rfl, dn, o2, o6, e1, rfl⟩ := hI
                      have hx := hxm x (by rw [← e1]; simp)
                      have e0 := ih (k := k) (M := M') (by omega) hx (by omega)
                      have e3 : joinW ((dn ++ [x]).map (wide d)) = (joinW (dn.map (wide d))).bind fun a => (wide d x).map (a ++ ·) := by rw [List.map_append]; exact joinW_snoc
                      have fin : ∀ o, (∃ dn' o2' o6', dn' ++ r = ws ∧ [some (W.d (.tup [.str "all", .tup ws])), some (W.d (.int (d + 1))), some (W.d (optD (wide d x))), none, none, some (W.d (optD (joinW ((dn ++ [x]).map (wide d))))), o] = [some (.d (.tup [.str "all", .tup ws])), some (.d (.int (d + 1))), o2', none, none, some (.d (optD (joinW (dn'.map (wide d))))), o6']) := fun o => ⟨dn ++ [x], _, _, by rw [← e1]; simp, rfl⟩
                      cases ea : joinW (dn.map (wide d)) with
                      | none =>
                        rw [e3, ea] at fin
                        simp [e0, ea]
                        simpa using fin (some (.d x))
                      | some a =>
                        cases eb : wide d x with
                        | none =>
                          rw [e3, ea, eb] at fin
                          simp [e0, ea, eb, iL]
                          simpa using fin (some (.d x))
                        | some b =>
                          rw [e3, ea, eb] at fin
                          have q0 := joinW_len (m := 4 ^ (d + 1)) ea fun o ho a e => by
                            obtain ⟨w, _, rfl⟩ := List.mem_map.mp ho
                            exact wide_len e
                          have q1 := wide_len eb
                          have q2 : 4 ^ (d + 1) ≤ 4 ^ 6 := Nat.pow_le_pow_right (by omega) (by omega)
                          have q3 : dn.length ≤ 4 := by
                            have : ws.length = dn.length + (r.length + 1) := by rw [← e1]; simp
                            omega
                          rw [List.length_map] at q0
                          have q4 : dn.length * 4 ^ (d + 1) ≤ 4 * 4 ^ 6 := Nat.mul_le_mul q3 q2
                          simp [e0, ea, eb, iL]
                          refine ⟨by rw [sizeLine_eq]; omega, ?_⟩
                          simpa [iL] using fin (some (.d x))
                    · obtain ⟨rfl, dn, o2, o6, e1, rfl⟩ := hI
                      rw [List.append_nil] at e1
                      subst e1
                      simp
                  · simp [b20, startD, wide, hd1, w1, w2, hsz, zr, zb, za]
                    refine wx_forL (fun r ρ M' => M' = M ∧ ∃ dn o2 o6, dn ++ r = ws ∧ ρ = [some (.d (.tup [.str z, .tup ws])), some (.d (.int (d + 1))), o2, none, none, some (.d .non), o6]) ⟨rfl, [], none, none, rfl, rfl⟩ (fun x r ρ M' hI => ?_) (fun ρ M' hI => ?_)
                    · obtain ⟨rfl, dn, o2, o6, e1, rfl⟩ := hI
                      have hx := hxm x (by rw [← e1]; simp)
                      have e0 := ih (k := k) (M := M') (by omega) hx (by omega)
                      simp [e0]
                      exact ⟨dn ++ [x], by rw [← e1]; simp⟩
                    · obtain ⟨rfl, dn, o2, o6, e1, rfl⟩ := hI
                      simp
              · have hw' : ¬ (1 ≤ (ws.length : Int) ∧ (ws.length : Int) ≤ 4) := by
                  intro q
                  apply hw
                  unfold lenB
                  rw [decide_eq_true q.1, decide_eq_true q.2]
                  rfl
                have hb : bitsW ws = none := by unfold bitsW; simp [hw]
                simp [b20, startD, wide, hd1, hsz, zr, bitW, allW, hw, hb]
                (repeat' split) <;> simp_all <;> (intros; omega)
            | _ => simp [b20, startD, wide, hd1, hsz, zr, bitW, allW]
        | _ => simp [b20, startD, wide, hd1] <;> (repeat' split) <;> simp_all
    | _ =>
      refine eq_of ?_
      rw [show k + (d + 1) + 2 = (k + d + 2) + 1 by omega, w_callD H rfl]
      simp [b20, startD, wide, strW, hd1]
theorem s21 (H15 : Df 15 = some b15) (H20 : Df 20 = some b20) (H : Df 21 = some b21) {v : D} (hv : Fi L n v) (hn : n ≤ 60) (hL : L ≤ 100) : callD Df wf (k + 6) 21 [.d v] M = .ok (.d (optD (shapeW v)), M) := by
  refine eq_of ?_
  rw [w_callD H rfl]
  have e7 : ∀ M, callD Df wf (k + 5) 20 [.d v, .d (.int 3)] M = .ok (.d (optD (wide 3 v)), M) := fun M => s20 (wf := wf) H15 H20 hL (d := 3) (k := k) (M := M) (by omega) hv hn
  cases e : wide 3 v with
  | none => simp [b21, startD, shapeW, e, e7]
  | some ns =>
    by_cases hl : ns.length ≤ 10
    · have hi : (ns.length : Int) ≤ 10 := by omega
      simp [b21, startD, shapeW, e, e7, iL, hl, hi]
    · have hi : ¬ (ns.length : Int) ≤ 10 := by omega
      simp [b21, startD, shapeW, e, e7, iL, hl, hi]
end
end PyP

set_option Elab.async false
set_option linter.all false
set_option maxRecDepth 100000
set_option maxHeartbeats 4000000
/-! PyP5: what the laws draw. -/
namespace PyP
open PySem hiding Env
open PySem.Spec PyProof.Rows L2 PyD
/-- _law_vat -/
def b12 : Def := ⟨2, 3, (.cons (.asg (.nm 2) (.op2 .add (.op2 .mul (.con (.int 7919)) (.var 1)) (.con (.int 43)))) (.cons (.ife (.cmp .lt (.var 1) (.bi .len (.cons (.var 0) .nil))) (.cons (.asg (.nm 2) (.bi .abs (.cons (.bi .int (.cons (.ix (.var 0) (.var 1)) .nil)) .nil))) .nil) .nil) (.cons (.retc (.nw (.lst (.cons (.ife (.cmp .ge (.var 2) (.op2 .pow (.con (.int 10)) (.con (.int 18)))) (.var 2) (.con (.int 0))) (.cons (.op2 .add (.op2 .mod (.bi .int (.cons (.op2 .add (.op2 .add (.op2 .mul (.var 2) (.con (.int 131071))) (.op2 .mul (.con (.int 8191)) (.var 1))) (.con (.int 5))) .nil)) (.con (.int 2147483629))) (.con (.int 1))) .nil))))) .nil))), ["script", "k"]⟩
/-- _law_under -/
def b13 : Def := ⟨2, 4, (.cons (.ife (.cmp .gt (.ix (.var 0) (.con (.int 0))) (.con (.int 0))) (.cons (.asg (.nm 2) (.op2 .mod (.bi .int (.cons (.ix (.var 0) (.con (.int 0))) .nil)) (.var 1))) (.cons (.sti (.var 0) (.con (.int 0)) (.op2 .fdiv (.ix (.var 0) (.con (.int 0))) (.var 1))) (.cons (.ret (.var 2)) .nil))) .nil) (.cons (.sti (.var 0) (.con (.int 1)) (.op2 .mod (.bi .int (.cons (.op2 .add (.op2 .mul (.ix (.var 0) (.con (.int 1))) (.con (.int 39373))) (.con (.int 101))) .nil)) (.con (.int 2147483629)))) (.cons (.asg (.nm 3) (.op2 .mod (.bi .int (.cons (.op2 .mul (.ix (.var 0) (.con (.int 1))) (.op2 .add (.op2 .fdiv (.ix (.var 0) (.con (.int 1))) (.con (.int 5))) (.con (.int 9)))) .nil)) (.con (.int 2147483587)))) (.cons (.ret (.op2 .mod (.bi .int (.cons (.op2 .fdiv (.var 3) (.con (.int 32))) .nil)) (.var 1))) .nil)))), ["vat", "many"]⟩
/-- _law_some -/
def b14 : Def := ⟨2, 2, (.cons (.ret (.ix (.var 1) (.call 13 (.cons (.var 0) (.cons (.bi .len (.cons (.var 1) .nil)) .nil))))) .nil), ["vat", "things"]⟩
/-- _law_machine -/
def b22 : Def := ⟨1, 3, (.cons (.asg (.nm 1) (.tup (.cons (.call 14 (.cons (.var 0) (.cons (.fr (.lst (.cons (.con (.int 1)) (.cons (.con (.int 1)) (.cons (.con (.int 1)) (.cons (.con (.int 2)) .nil)))))) .nil))) (.cons (.call 14 (.cons (.var 0) (.cons (.fr (.lst (.cons (.con (.int 2)) (.cons (.con (.int 2)) (.cons (.con (.int 4)) .nil))))) .nil))) (.cons (.call 14 (.cons (.var 0) (.cons (.fr (.lst (.cons (.con (.int 4)) (.cons (.con (.int 4)) (.cons (.con (.int 8)) .nil))))) .nil))) .nil))))) (.cons (.asg (.nm 2) (.call 14 (.cons (.var 0) (.cons (.fr (.lst (.cons (.con (.str "big")) (.cons (.con (.str "little")) (.cons (.con (.str "little")) (.cons (.con (.str "pairs")) .nil)))))) .nil)))) (.cons (.ret (.tup (.cons (.var 1) (.cons (.call 14 (.cons (.var 0) (.cons (.fr (.lst (.cons (.con (.int 1)) (.cons (.con (.int 2)) (.cons (.con (.int 4)) (.cons (.con (.int 8)) .nil)))))) .nil))) (.cons (.var 2) (.cons (.cmp .eq (.call 13 (.cons (.var 0) (.cons (.con (.int 2)) .nil))) (.con (.int 0))) .nil)))))) .nil))), ["vat"]⟩
/-- _law_family -/
def b23 : Def := ⟨2, 6, (.cons (.asg (.nm 2) (.tup (.cons (.call 22 (.cons (.var 0) .nil)) .nil))) (.cons (.fr (.nm 3) (.rg1 (.call 13 (.cons (.var 0) (.cons (.var 1) .nil)))) (.cons (.asg (.nm 4) (.nw (.of (.call 14 (.cons (.var 0) (.cons (.fr (.of (.var 2))) .nil)))))) (.cons (.asg (.nm 5) (.call 13 (.cons (.var 0) (.cons (.con (.int 4)) .nil)))) (.cons (.sti (.var 4) (.var 5) (.ix (.call 22 (.cons (.var 0) .nil)) (.var 5))) (.cons (.asg (.nm 2) (.op2 .add (.var 2) (.tup (.cons (.ife (.cmp .gt (.call 13 (.cons (.var 0) (.cons (.con (.int 3)) .nil))) (.con (.int 0))) (.bi .tuple (.cons (.var 4) .nil)) (.call 22 (.cons (.var 0) .nil))) .nil)))) .nil))))) (.cons (.ret (.var 2)) .nil))), ["vat", "most"]⟩
/-- _law_shape -/
def b24 : Def := ⟨2, 4, (.cons (.asg (.nm 2) (.ife (.cmp .gt (.var 1) (.con (.int 0))) (.call 13 (.cons (.var 0) (.cons (.con (.int 8)) .nil))) (.con (.int 0)))) (.cons (.ife (.cmp .lt (.var 2) (.con (.int 3))) (.cons (.ret (.call 14 (.cons (.var 0) (.cons (.fr (.lst (.cons (.con (.str "s")) (.cons (.con (.str "s")) (.cons (.con (.str "m")) (.cons (.con (.str "m")) (.cons (.con (.str "l")) .nil))))))) .nil)))) .nil) .nil) (.cons (.ife (.cmp .eq (.var 2) (.con (.int 3))) (.cons (.ret (.tup (.cons (.con (.str "bits")) (.cons (.call 14 (.cons (.var 0) (.cons (.fr (.lst (.cons (.tup (.cons (.con (.int 3)) (.cons (.con (.int 5)) .nil))) (.cons (.tup (.cons (.con (.int 8)) .nil)) (.cons (.tup (.cons (.con (.int 1)) (.cons (.con (.int 2)) (.cons (.con (.int 3)) .nil)))) (.cons (.tup (.cons (.con (.int 4)) (.cons (.con (.int 4)) .nil))) (.cons (.tup (.cons (.con (.int 2)) (.cons (.con (.int 2)) (.cons (.con (.int 2)) (.cons (.con (.int 2)) .nil))))) (.cons (.tup (.cons (.con (.int 7)) .nil)) .nil)))))))) .nil))) .nil)))) .nil) .nil) (.cons (.ife (.cmp .eq (.var 2) (.con (.int 4))) (.cons (.ret (.tup (.cons (.con (.str "row")) (.cons (.op2 .add (.con (.int 1)) (.call 13 (.cons (.var 0) (.cons (.con (.int 3)) .nil)))) (.cons (.call 24 (.cons (.var 0) (.cons (.op2 .sub (.var 1) (.con (.int 1))) .nil))) .nil))))) .nil) .nil) (.cons (.ret (.tup (.cons (.con (.str "all")) (.cons (.bi .tuple (.cons (.fr (.lc (.call 24 (.cons (.var 0) (.cons (.op2 .sub (.var 1) (.con (.int 1))) .nil))) (.nm 3) (.rg1 (.op2 .add (.con (.int 1)) (.call 13 (.cons (.var 0) (.cons (.con (.int 3)) .nil))))) .none [3])) .nil)) .nil)))) .nil))))), ["vat", "deep"]⟩
/-- _law_odd -/
def b27 : Def := ⟨2, 5, (.cons (.asg (.nm 2) (.fr (.lst (.cons (.con (.non)) (.cons (.con (.bl true)) (.cons (.con (.bl false)) (.cons (.con (.int 0)) (.cons (.con (.int 1)) (.cons (.con (.int 2)) (.cons (.con (.int 3)) (.cons (.neg (.con (.int 1))) (.cons (.op2 .pow (.con (.int 10)) (.con (.int 31))) (.cons (.con (.str "")) (.cons (.con (.str "s")) (.cons (.con (.str "m")) (.cons (.con (.str "big")) (.cons (.con (.str "all")) (.cons (.con (.str "bits")) (.cons (.con (.str "clear")) (.cons (.tup .nil) (.cons (.fr (.lst .nil)) (.cons (.tup (.cons (.con (.int 1)) (.cons (.con (.int 2)) (.cons (.con (.int 4)) .nil)))) .nil)))))))))))))))))))))) (.cons (.asg (.nm 2) (.op2 .add (.var 2) (.fr (.lst (.cons (.tup (.cons (.con (.str "all")) (.cons (.tup (.cons (.con (.str "s")) .nil)) .nil))) (.cons (.tup (.cons (.con (.str "bits")) (.cons (.tup (.cons (.con (.int 8)) .nil)) .nil))) (.cons (.tup (.cons (.con (.str "clear")) (.cons (.con (.int 0)) (.cons (.con (.int 1)) .nil)))) (.cons (.tup (.cons (.tup (.cons (.con (.int 1)) (.cons (.con (.int 2)) (.cons (.con (.int 4)) .nil)))) (.cons (.con (.int 1)) (.cons (.con (.str "big")) (.cons (.con (.bl true)) .nil))))) (.cons (.tup (.cons (.con (.int 1)) (.cons (.tup .nil) (.cons (.tup .nil) .nil)))) .nil))))))))) (.cons (.ife (.or (.cmp .eq (.var 1) (.con (.int 0))) (.cmp .lt (.call 13 (.cons (.var 0) (.cons (.con (.int 9)) .nil))) (.con (.int 6)))) (.cons (.ret (.call 14 (.cons (.var 0) (.cons (.var 2) .nil)))) .nil) .nil) (.cons (.asg (.nm 3) (.fr (.lc (.call 27 (.cons (.var 0) (.cons (.op2 .sub (.var 1) (.con (.int 1))) .nil))) (.nm 4) (.rg1 (.call 13 (.cons (.var 0) (.cons (.con (.int 4)) .nil)))) .none [4]))) (.cons (.ret (.ife (.cmp .eq (.call 13 (.cons (.var 0) (.cons (.con (.int 3)) .nil))) (.con (.int 0))) (.var 3) (.bi .tuple (.cons (.var 3) .nil)))) .nil))))), ["vat", "depth"]⟩
/-- _law_bent -/
def b28 : Def := ⟨2, 5, (.cons (.ife (.or (.not (.isi (.var 1) .tuple)) (.or (.cmp .eq (.var 1) (.tup .nil)) (.cmp .eq (.call 13 (.cons (.var 0) (.cons (.con (.int 7)) .nil))) (.con (.int 0))))) (.cons (.asg (.nm 2) (.fr (.lst (.cons (.call 27 (.cons (.var 0) (.cons (.con (.int 1)) .nil))) (.cons (.call 27 (.cons (.var 0) (.cons (.con (.int 1)) .nil))) .nil))))) (.cons (.ife (.isi (.var 1) .str) (.cons (.asg (.nm 2) (.op2 .add (.var 2) (.fr (.lst (.cons (.con (.str "s")) (.cons (.con (.str "l")) (.cons (.con (.str "row")) (.cons (.con (.str "little")) (.cons (.con (.str "copy")) (.cons (.con (.str "look")) (.cons (.sl (.var 1) .none (.some (.neg (.con (.int 1))))) (.cons (.mt .upper (.var 1) .nil) .nil)))))))))))) .nil) (.cons (.ife (.isi (.var 1) .int) (.cons (.asg (.nm 2) (.op2 .add (.var 2) (.fr (.lst (.cons (.op2 .add (.var 1) (.con (.int 1))) (.cons (.op2 .sub (.var 1) (.con (.int 1))) (.cons (.notv (.var 1)) (.cons (.bi .str (.cons (.var 1) .nil)) (.cons (.op2 .mul (.con (.int 2)) (.var 1)) .nil))))))))) .nil) .nil) .nil)) (.cons (.ret (.call 14 (.cons (.var 0) (.cons (.var 2) .nil)))) .nil))) .nil) (.cons (.par [3, 4] (.cons (.call 13 (.cons (.var 0) (.cons (.bi .len (.cons (.var 1) .nil)) .nil))) (.cons (.call 13 (.cons (.var 0) (.cons (.con (.int 9)) .nil))) .nil))) (.cons (.ife (.cmp .eq (.var 4) (.con (.int 0))) (.cons (.ret (.op2 .add (.sl (.var 1) .none (.some (.var 3))) (.sl (.var 1) (.some (.op2 .add (.var 3) (.con (.int 1)))) .none))) .nil) .nil) (.cons (.ife (.cmp .eq (.var 4) (.con (.int 1))) (.cons (.ret (.op2 .add (.sl (.var 1) .none (.some (.op2 .add (.var 3) (.con (.int 1))))) (.sl (.var 1) (.some (.var 3)) .none))) .nil) .nil) (.cons (.ife (.cmp .eq (.var 4) (.con (.int 2))) (.cons (.ret (.rev (.var 1))) .nil) .nil) (.cons (.ife (.cmp .eq (.var 4) (.con (.int 3))) (.cons (.ret (.fr (.of (.var 1)))) .nil) .nil) (.cons (.ret (.op2 .add (.op2 .add (.sl (.var 1) .none (.some (.var 3))) (.tup (.cons (.call 28 (.cons (.var 0) (.cons (.ix (.var 1) (.var 3)) .nil))) .nil))) (.sl (.var 1) (.some (.op2 .add (.var 3) (.con (.int 1)))) .none))) .nil))))))), ["vat", "value"]⟩
/-- a vat's cell -/
def vc (a b : Int) : C := .lst [.int a, .int b]
def Gv (a b : Int) : Prop := 0 ≤ a ∧ 0 ≤ b ∧ b < 2 ^ 32
def Vt (i : Nat) (M : Ms) : Prop := ∃ a b, Gv a b ∧ M[i]? = some (vc a b)
/-- something was drawn -/
def Dr (i : Nat) (M M' : Ms) : Prop := ∃ a b, Gv a b ∧ M' = M.set i (vc a b)
section
variable {i : Nat} {M M' M'' : Ms}
theorem Vt.lt (v : Vt i M) : i < M.length := by
  obtain ⟨a, b, _, h⟩ := v
  exact (List.getElem?_eq_some_iff.mp h).1
theorem Dr.vt (d : Dr i M M') (v : Vt i M) : Vt i M' := by
  obtain ⟨a, b, g, rfl⟩ := d
  exact ⟨a, b, g, List.getElem?_set_self v.lt⟩
theorem Dr.trans (d : Dr i M M') (e : Dr i M' M'') : Dr i M M'' := by
  obtain ⟨a, b, g, rfl⟩ := d
  obtain ⟨a', b', g', rfl⟩ := e
  exact ⟨a', b', g', by rw [List.set_set]⟩
theorem Vt.refl (v : Vt i M) : Dr i M M := by
  obtain ⟨a, b, g, h⟩ := v
  exact ⟨a, b, g, by rw [List.getElem?_eq_some_iff] at h; obtain ⟨h1, h2⟩ := h; rw [← h2, List.set_getElem_self]⟩
theorem Dr.len (d : Dr i M M') : M'.length = M.length := by
  obtain ⟨a, b, g, rfl⟩ := d
  rw [List.length_set]
theorem Dr.cut {L : Ms} (d : Dr i (M ++ L) M') (hi : i < M.length) : ∃ M1, M' = M1 ++ L ∧ Dr i M M1 := by
  obtain ⟨a, b, g, rfl⟩ := d
  exact ⟨M.set i (vc a b), by rw [List.set_append_left _ _ hi], a, b, g, rfl⟩
theorem Vt.app {L : Ms} (v : Vt i M) : Vt i (M ++ L) := by
  have := v.lt
  obtain ⟨a, b, g, h⟩ := v
  exact ⟨a, b, g, by rw [List.getElem?_append_left this]; exact h⟩
theorem Dr.get {j : Nat} (d : Dr i M M') (h : j ≠ i) : M'[j]? = M[j]? := by
  obtain ⟨a, b, g, rfl⟩ := d
  exact List.getElem?_set_ne (Ne.symm h)
theorem view_c {ds : List D} (h : M[i]? = some (.lst ds)) : view M (.c i) = .ok (.lst ds) := by
  show (match M[i]? with | some (.lst ds) => R.ok (D.lst ds) | some (.fro ds) => .ok (.lst ds) | _ => .stuck) = _
  rw [h]
theorem view_set {ds : List D} (h : i < M.length) : view (M.set i (.lst ds)) (.c i) = .ok (.lst ds) := view_c (List.getElem?_set_self h)
theorem stI_c {ds : List D} {k : Int} {x : D} {j : Nat} (h : M[i]? = some (.lst ds)) (hj : ixN ds.length k = some j) : stI M (.c i) k x = .ok (M.set i (.lst (ds.set j x))) := by
  show (match M[i]? with | some (.lst ds) => (match ixN ds.length k with | some j => R.ok (M.set i (.lst (ds.set j x))) | none => .stuck) | _ => .stuck) = _
  rw [h]
  dsimp only
  rw [hj]
theorem cell_c {ds : List D} (h : M[i]? = some (.lst ds)) : PyD.cellOf M (.c i) = .ok i := by
  show (match M[i]? with | some (.lst _) => R.ok i | _ => .stuck) = _
  rw [h]
theorem apI_c {ds : List D} {x : D} (h : M[i]? = some (.lst ds)) (hl : ds.length < sizeLine) : apI M i x = .ok (M.set i (.lst (ds ++ [x]))) := by
  unfold apI
  rw [h]
  dsimp only
  rw [decide_eq_true hl]
  rfl
@[simp] theorem take_set {c : C} : List.take M.length (M.set i c) = M.set i c := by
  rw [List.take_of_length_le (by rw [List.length_set]; exact Nat.le_refl _)]
end
section
variable {Df : Nat → Option Def} {wf k : Nat} {M : Ms} {L n : Nat} {i : Nat}
theorem s13 (H : Df 13 = some b13) (v : Vt i M) {m : Int} (h1 : 1 ≤ m) (h2 : m < 2 ^ 64) :
    ∃ r M', callD Df wf (k + 1) 13 [.c i, .d (.int m)] M = .ok (.d (.int r), M') ∧ 0 ≤ r ∧ r < m ∧ Vt i M' ∧ Dr i M M' := by
  have hi := v.lt
  have v0 := v
  obtain ⟨a, b, ⟨g1, g2, g3⟩, h⟩ := v
  have h : M[i]? = some (.lst [.int a, .int b]) := h
  suffices q : Wx (callD Df wf (k + 1) 13 [.c i, .d (.int m)] M) (fun p => ∃ r M', p = (.d (.int r), M') ∧ 0 ≤ r ∧ r < m ∧ Dr i M M') NoE by
    obtain ⟨p, e, r, M', rfl, q1, q2, q3⟩ := wx_iff.mp q
    exact ⟨r, M', e, q1, q2, q3.vt v0, q3⟩
  rw [w_callD H rfl]
  have ix0 : ixN 2 0 = some 0 := rfl
  have ix1 : ixN 2 1 = some 1 := rfl
  simp [b13, startD, view_c h]
  split
  · have hm := Int.emod_nonneg a (b := m) (by omega)
    have hm2 := Int.emod_lt_of_pos a (b := m) (by omega)
    simp [show 0 < m by omega, show m < 18446744073709551616 by omega, stI_c h ix0, view_c h]
    exact ⟨a % m, _, ⟨rfl, rfl⟩, hm, hm2, a / m, b, ⟨Int.ediv_nonneg g1 (by omega), g2, g3⟩, rfl⟩
  · have q1 := Int.emod_nonneg (b * 39373 + 101) (b := 2147483629) (by omega)
    have q2 := Int.emod_lt_of_pos (b * 39373 + 101) (b := 2147483629) (by omega)
    obtain ⟨c, hc⟩ : ∃ c, c = (b * 39373 + 101) % 2147483629 := ⟨_, rfl⟩
    simp [view_c h, stI_c h ix1, view_set hi, ← hc, mulOk, show 0 < m by omega]
    rw [← hc] at q1 q2
    refine ⟨by omega, ?_⟩
    obtain ⟨d, hd⟩ : ∃ d, d = c * (c / 5 + 9) % 2147483587 / 32 := ⟨_, rfl⟩
    have hm := Int.emod_nonneg d (b := m) (by omega)
    have hm2 := Int.emod_lt_of_pos d (b := m) (by omega)
    rw [← hd]
    exact ⟨d % m, _, ⟨rfl, rfl⟩, hm, hm2, a, c, ⟨g1, q1, by omega⟩, rfl⟩
/-- one of some things -/
theorem s14 (H13 : Df 13 = some b13) (H : Df 14 = some b14) (v : Vt i M) {ds : List D} (h1 : ds ≠ []) (h2 : ds.length ≤ 1000000) :
    ∃ r M', r ∈ ds ∧ callD Df wf (k + 2) 14 [.c i, .d (.lst ds)] M = .ok (.d r, M') ∧ Vt i M' ∧ Dr i M M' := by
  have hl : 1 ≤ ds.length := List.length_pos_iff.mpr h1
  obtain ⟨r, M', e, q1, q2, q3, q4⟩ := s13 (Df := Df) (wf := wf) (k := k) H13 v (m := ds.length) (by omega) (by omega)
  have hr : r.toNat < ds.length := by omega
  refine ⟨ds[r.toNat], M', List.getElem_mem _, ?_, q3, q4⟩
  refine eq_of ?_
  rw [w_callD H rfl]
  have ea : atI ds r = some ds[r.toNat] := by rw [atI_nat (j := r.toNat) (by omega)]; exact List.getElem?_eq_getElem hr
  simp [b14, startD, e, ea, ← q4.len]
end
/-! ### texts of numbers -/
theorem dig_lt {c : Char} (h : c.isDigit = true) : c.toNat < 128 := by
  unfold Char.isDigit at h
  simp at h
  have := h.2
  show c.val.toNat < 128
  have : c.val.toNat ≤ 57 := by exact UInt32.le_iff_toNat_le.mp this
  omega
theorem nat_asc (m : Nat) : ∀ c ∈ (toString m).toList, c.toNat < 128 := by
  intro c hc
  have : c ∈ Nat.toDigits 10 m := by
    have e : (toString m).toList = Nat.toDigits 10 m := by
      show (Nat.repr m).toList = _
      unfold Nat.repr
      simp
    rw [e] at hc
    exact hc
  exact dig_lt (Nat.isDigit_of_mem_toDigits (by omega) (by omega) this)
theorem nat_len {m : Nat} (h : m < 2 ^ 900) : (toString m).toList.length ≤ 900 := by
  have e : (toString m).toList.length = (Nat.repr m).length := String.length_toList
  rw [e]
  exact nat_repr_length_le (by omega) h
theorem str_fi {L n : Nat} {i : Int} (h : i.natAbs < 2 ^ 900) : Fi L n (.str (toString i : String)) := by
  have key : (∀ c ∈ (toString i).toList, c.toNat < 128) ∧ (toString i).toList.length ≤ 901 := by
    cases i with
    | ofNat m =>
      have e : toString (Int.ofNat m) = toString m := rfl
      rw [e]
      exact ⟨nat_asc m, Nat.le_trans (nat_len h) (by omega)⟩
    | negSucc m =>
      have e : toString (Int.negSucc m) = "-" ++ toString (m + 1) := rfl
      rw [e, String.toList_append]
      refine ⟨fun c hc => ?_, ?_⟩
      · rcases List.mem_append.mp hc with hc | hc
        · simp at hc; subst hc; decide
        · exact nat_asc _ c hc
      · rw [List.length_append]
        have := nat_len (m := m + 1) h
        have e1 : ("-" : String).toList.length = 1 := rfl
        omega
  refine .str (fun c hc => ?_) ?_
  · rw [PySem.Str.ofString_eq_toList] at hc
    simp at hc
    obtain ⟨d, hd, rfl⟩ := hc
    exact key.1 d (by simpa using hd)
  · rw [PySem.Str.ofString_eq_toList]
    show ((toString i).toList.map Char.toNat).toArray.size ≤ 1000
    simp
    have := key.2
    simp at this
    omega
theorem up_fi {L n m : Nat} {z : PySem.Str} (h : Fi L n (.str z)) : Fi L m (.str (Txt.upper z)) := by
  cases h with
  | str h1 h2 =>
    rw [PyProof.Rows.upper_ascii h1]
    refine .str (fun c hc => ?_) ?_
    · simp at hc
      obtain ⟨d, hd, rfl⟩ := hc
      have := h1 d (by simpa using hd)
      unfold PyProof.Rows.up1
      split <;> omega
    · show (z.cps.map PyProof.Rows.up1).size ≤ 1000
      have h2 : z.cps.size ≤ 1000 := h2
      simpa using h2
theorem cut_fi {L n m : Nat} {z : PySem.Str} {lo hi : Option Int} (h : Fi L n (.str z)) : Fi L m (.str (cutS z lo hi)) := by
  cases h with
  | str h1 h2 =>
    unfold cutS
    refine .str (fun c hc => ?_) ?_
    · have hc : c ∈ (List.take (HT.sIx z.length z.length hi - HT.sIx z.length 0 lo) (List.drop (HT.sIx z.length 0 lo) z.cps.toList)) := by simpa using hc
      exact h1 c (List.mem_of_mem_drop (List.mem_of_mem_take hc))
    · show (List.toArray _).size ≤ 1000
      have h2' : z.cps.size ≤ 1000 := h2
      simp
      omega
theorem Fi.len {L n : Nat} {z : PySem.Str} (h : Fi L n (.str z)) : z.length ≤ 1000 := by cases h; assumption
/-! ### data that is shown fine by looking -/
def fiB (L : Nat) : Nat → D → Bool
  | _, .non => true
  | _, .bl _ => true
  | _, .int i => decide (i.natAbs < 2 ^ (200 + 2 * L))
  | _, .str z => z.cps.all (· < 128) && decide (z.length ≤ 1000)
  | n + 1, .tup ds => decide (ds.length ≤ 100 + L) && ds.attach.all fun ⟨d, _⟩ => fiB L n d
  | n + 1, .lst ds => decide (ds.length ≤ 100 + L) && ds.attach.all fun ⟨d, _⟩ => fiB L n d
  | _, _ => false
theorem fiB_ok {L : Nat} : ∀ {n : Nat} {d : D}, fiB L n d = true → Fi L n d
  | n, .non, _ => .non
  | n, .bl b, _ => .bl b
  | n, .int i, h => .int (by unfold fiB at h; exact of_decide_eq_true h)
  | n, .str z, h => by
    unfold fiB at h
    obtain ⟨h1, h2⟩ := He.ba h
    rw [← Array.all_toList, List.all_eq_true] at h1
    exact .str (fun c hc => of_decide_eq_true (h1 c hc)) (of_decide_eq_true h2)
  | n + 1, .tup ds, h => by
    unfold fiB at h
    obtain ⟨h1, h2⟩ := He.ba h
    rw [List.all_eq_true] at h2
    exact .tup (of_decide_eq_true h1) fun d hd => fiB_ok (h2 ⟨d, hd⟩ (List.mem_attach _ _))
  | n + 1, .lst ds, h => by
    unfold fiB at h
    obtain ⟨h1, h2⟩ := He.ba h
    rw [List.all_eq_true] at h2
    exact .lst (of_decide_eq_true h1) fun d hd => fiB_ok (h2 ⟨d, hd⟩ (List.mem_attach _ _))
  | 0, .tup ds, h => by unfold fiB at h; cases h
  | 0, .lst ds, h => by unfold fiB at h; cases h
  | n, .fn _, h => by cases n <;> (unfold fiB at h; cases h)
  | n, .scr _, h => by cases n <;> (unfold fiB at h; cases h)
  | n, .dc _, h => by cases n <;> (unfold fiB at h; cases h)
theorem fiB_all {L n : Nat} {ds : List D} (h : (ds.all (fiB L n)) = true) {d : D} (hd : d ∈ ds) : Fi L n d := fiB_ok (List.all_eq_true.mp h d hd)
end PyP

set_option Elab.async false
set_option linter.all false
set_option maxRecDepth 100000
set_option maxHeartbeats 4000000
/-! PyP6: machines, families, shapes that are drawn. -/
namespace PyP
open PySem hiding Env
open PySem.Spec PyProof.Rows L2 PyD
/-- drawn, and more cells behind -/
def Ag (i : Nat) (M M' : Ms) : Prop := ∃ M1 rest, M' = M1 ++ rest ∧ Dr i M M1
section
variable {i : Nat} {M M' M'' : Ms}
theorem Vt.ag (v : Vt i M) : Ag i M M := ⟨M, [], by simp, v.refl⟩
theorem Dr.ag (d : Dr i M M') : Ag i M M' := ⟨M', [], by simp, d⟩
theorem Ag.draw (a : Ag i M M') (v : Vt i M) (d : Dr i M' M'') : Ag i M M'' := by
  obtain ⟨M1, rest, rfl, d1⟩ := a
  have hi : i < M1.length := by rw [d1.len]; exact v.lt
  obtain ⟨M2, rfl, d2⟩ := d.cut hi
  exact ⟨M2, rest, rfl, d1.trans d2⟩
theorem Ag.push {L : Ms} (a : Ag i M M') : Ag i M (M' ++ L) := by
  obtain ⟨M1, rest, rfl, d1⟩ := a
  exact ⟨M1, rest ++ L, by rw [List.append_assoc], d1⟩
theorem Ag.set {j : Nat} {c : C} (a : Ag i M M') (h : M.length ≤ j) : Ag i M (M'.set j c) := by
  obtain ⟨M1, rest, rfl, d1⟩ := a
  exact ⟨M1, rest.set (j - M1.length) c, by rw [List.set_append_right _ _ (by rw [d1.len]; exact h)], d1⟩
theorem Ag.vt (a : Ag i M M') (v : Vt i M) : Vt i M' := by
  obtain ⟨M1, rest, rfl, d1⟩ := a
  exact (d1.vt v).app
theorem Ag.take (a : Ag i M M') : Dr i M (M'.take M.length) := by
  obtain ⟨M1, rest, rfl, d1⟩ := a
  rw [← d1.len, List.take_left']
  · exact d1
  · rfl
theorem Ag.le (a : Ag i M M') : M.length ≤ M'.length := by
  obtain ⟨M1, rest, rfl, d1⟩ := a
  rw [List.length_append, d1.len]
  omega
theorem Vt.set {j : Nat} {c : C} (v : Vt i M) (h : j ≠ i) : Vt i (M.set j c) := by
  obtain ⟨a, b, g, e⟩ := v
  exact ⟨a, b, g, by rw [List.getElem?_set_ne h]; exact e⟩
@[simp] theorem retD_new {n : Nat} {c : C} : retD n (.c M.length) (M ++ [c]) = if M.length < n then .ok (.c M.length, (M ++ [c]).take n) else .ok (.c n, (M ++ [c]).take n ++ [c]) := by
  unfold retD
  simp
end
theorem machB_form {m : D} (h : machB m = true) : ∃ s a b c, m = .tup [s, a, b, c] := by
  unfold machB at h
  split at h
  · exact ⟨_, _, _, _, rfl⟩
  · cases h
section
variable {Df : Nat → Option Def} {wf k : Nat} {M : Ms} {L n : Nat} {i : Nat}
theorem s12 (H : Df 12 = some b12) {ns : List Int} {j : Int} (h0 : 0 ≤ j) (h1 : j < 1000) : ∃ a b, Gv a b ∧ callD Df wf (k + 1) 12 [.d (.scr ns), .d (.int j)] M = .ok (.c M.length, M ++ [vc a b]) := by
  suffices q : Wx (callD Df wf (k + 1) 12 [.d (.scr ns), .d (.int j)] M) (fun p => ∃ a b, Gv a b ∧ p = (.c M.length, M ++ [vc a b])) NoE by
    obtain ⟨p, e, a, b, g, rfl⟩ := wx_iff.mp q
    exact ⟨a, b, g, e⟩
  rw [w_callD H rfl]
  have key : ∀ cell : Int, 0 ≤ cell → Gv (if 1000000000000000000 ≤ cell then cell else 0) ((cell * 131071 + 8191 * j + 5) % 2147483629 + 1) := fun cell hc => by
    have q1 := Int.emod_nonneg (cell * 131071 + 8191 * j + 5) (b := 2147483629) (by omega)
    have q2 := Int.emod_lt_of_pos (cell * 131071 + 8191 * j + 5) (b := 2147483629) (by omega)
    refine ⟨by split <;> omega, by omega, by omega⟩
  have pw : iop .pow 10 18 = .ok (.int 1000000000000000000) := rfl
  have mk : ∀ cell : Int, mulOk cell 131071 = true := fun cell => by simp [mulOk]
  have mk1 : mulOk 7919 j = true := by simp [mulOk]
  have mk2 : mulOk 8191 j = true := by simp [mulOk]
  have fin : ∀ cell : Int, 0 ≤ cell → ∃ a b, Gv a b ∧ (W.c M.length, M ++ [C.lst [.int (if 1000000000000000000 ≤ cell then cell else 0), .int ((cell * 131071 + 8191 * j + 5) % 2147483629 + 1)]]) = (W.c M.length, M ++ [vc a b]) := fun cell hc => ⟨_, _, key cell hc, rfl⟩
  simp [b12, startD, mk, mk1, mk2, pw, sizeLine_eq]
  split
  · rename_i hj
    have hat : atI ns j = some (ns[j.toNat]'(by omega)) := by rw [atI_nat (j := j.toNat) (by omega)]; exact List.getElem?_eq_getElem (by omega)
    obtain ⟨x, hx⟩ : ∃ x, x = ns[j.toNat]'(by omega) := ⟨_, rfl⟩
    rw [← hx] at hat
    have fin := fin (if x < 0 then -x else x) (by split <;> omega)
    simp [hat, mk, mk2, pw]
    split <;> rename_i hc <;> (first | rw [if_pos hc] at fin | rw [if_neg hc] at fin) <;> split <;> rename_i hd <;> (first | rw [if_pos hd] at fin | rw [if_neg hd] at fin) <;> simpa [sizeLine_eq] using fin
  · have fin := fin (7919 * j + 43) (by omega)
    split <;> rename_i hc
    · rw [if_pos hc] at fin
      simpa using fin
    · rw [if_neg hc] at fin
      simpa using fin
theorem s22 (H13 : Df 13 = some b13) (H14 : Df 14 = some b14) (H : Df 22 = some b22) (v : Vt i M) : ∃ m M', callD Df wf (k + 3) 22 [.c i] M = .ok (.d m, M') ∧ machB m = true ∧ Fi 0 2 m ∧ Vt i M' ∧ Dr i M M' := by
  obtain ⟨a, M1, ha, e1, v1, d1⟩ := s14 (Df := Df) (wf := wf) (k := k) H13 H14 v (ds := [.int 1, .int 1, .int 1, .int 2]) (by simp) (by simp)
  obtain ⟨b, M2, hb, e2, v2, d2⟩ := s14 (Df := Df) (wf := wf) (k := k) H13 H14 v1 (ds := [.int 2, .int 2, .int 4]) (by simp) (by simp)
  obtain ⟨c, M3, hc, e3, v3, d3⟩ := s14 (Df := Df) (wf := wf) (k := k) H13 H14 v2 (ds := [.int 4, .int 4, .int 8]) (by simp) (by simp)
  obtain ⟨o, M4, ho, e4, v4, d4⟩ := s14 (Df := Df) (wf := wf) (k := k) H13 H14 v3 (ds := [.str "big", .str "little", .str "little", .str "pairs"]) (by simp) (by simp)
  obtain ⟨cap, M5, hcap, e5, v5, d5⟩ := s14 (Df := Df) (wf := wf) (k := k) H13 H14 v4 (ds := [.int 1, .int 2, .int 4, .int 8]) (by simp) (by simp)
  obtain ⟨r, M6, e6, r1, r2, v6, d6⟩ := s13 (Df := Df) (wf := wf) (k := k + 1) H13 v5 (m := 2) (by omega) (by omega)
  have d := ((((d1.trans d2).trans d3).trans d4).trans d5).trans d6
  refine ⟨.tup [.tup [a, b, c], cap, o, .bl (r == 0)], M6, ?_, ?_, ?_, v6, d⟩
  · refine eq_of ?_
    rw [w_callD H rfl]
    simp [b22, startD, e1, e2, e3, e4, e5, e6, sizeLine_eq, ← d.len]
  · simp at ha hb hc ho hcap
    rcases ha with rfl | rfl <;> rcases hb with rfl | rfl <;> rcases hc with rfl | rfl <;> rcases hcap with rfl | rfl | rfl | rfl <;> rcases ho with rfl | rfl | rfl <;> rfl
  · have f1 := fiB_all (L := 0) (n := 0) (by decide +kernel) ha
    have f2 := fiB_all (L := 0) (n := 0) (by decide +kernel) hb
    have f3 := fiB_all (L := 0) (n := 0) (by decide +kernel) hc
    have f4 := fiB_all (L := 0) (n := 1) (by decide +kernel) ho
    have f5 := fiB_all (L := 0) (n := 1) (by decide +kernel) hcap
    refine .tup (by simp) fun x hx => ?_
    simp at hx
    rcases hx with rfl | rfl | rfl | rfl
    · refine .tup (by simp) fun x hx => ?_
      simp at hx
      rcases hx with rfl | rfl | rfl <;> assumption
    · exact f5
    · exact f4
    · exact .bl _
/-- a family is drawn -/
theorem s23 (H13 : Df 13 = some b13) (H14 : Df 14 = some b14) (H22 : Df 22 = some b22) (H : Df 23 = some b23) (v : Vt i M) {mo : Int} (h1 : 1 ≤ mo) (h2 : mo ≤ 30) :
    ∃ ds M', callD Df wf (k + 4) 23 [.c i, .d (.int mo)] M = .ok (.d (.tup ds), M') ∧ 1 ≤ ds.length ∧ (ds.length : Int) ≤ mo ∧ (∀ m ∈ ds, machB m = true ∧ Fi 0 2 m) ∧ Vt i M' ∧ Dr i M M' := by
  suffices q : Wx (callD Df wf (k + 4) 23 [.c i, .d (.int mo)] M) (fun p => ∃ ds M', p = (.d (.tup ds), M') ∧ 1 ≤ ds.length ∧ (ds.length : Int) ≤ mo ∧ (∀ m ∈ ds, machB m = true ∧ Fi 0 2 m) ∧ Dr i M M') NoE by
    obtain ⟨p, e, ds, M', rfl, q1, q2, q3, q4⟩ := wx_iff.mp q
    exact ⟨ds, M', e, q1, q2, q3, q4.vt v, q4⟩
  rw [w_callD H rfl]
  obtain ⟨m0, M1, e1, g1, f1, v1, d1⟩ := s22 (Df := Df) (wf := wf) (k := k) H13 H14 H22 v
  obtain ⟨r, M2, e2, r1, r2, v2, d2⟩ := s13 (Df := Df) (wf := wf) (k := k + 2) H13 v1 (m := mo) (by omega) (by omega)
  simp [b23, startD, e1, e2, sizeLine_eq]
  refine ⟨by omega, ?_⟩
  refine wx_forL (fun rr ρ M' => ∃ ds o3 o4 o5, ρ = [some (.c i), some (.d (.int mo)), some (.d (.tup ds)), o3, o4, o5] ∧ 1 ≤ ds.length ∧ (ds.length : Int) + rr.length ≤ mo ∧ (∀ m ∈ ds, machB m = true ∧ Fi 0 2 m) ∧ Ag i M M' ∧ ∀ x ∈ rr, ∃ z, x = .int z)
    ⟨[m0], none, none, none, rfl, by simp, by simp [rgD]; omega, by simp [g1, f1], (d1.trans d2).ag, fun x hx => ?_⟩ (fun x rr ρ M' hI => ?_) (fun ρ M' hI => ?_)
  · unfold rgD at hx
    obtain ⟨z, _, rfl⟩ := List.mem_map.mp hx
    exact ⟨_, rfl⟩
  · obtain ⟨ds, o3, o4, o5, rfl, q1, q2, q3, a, qz⟩ := hI
    have v' := a.vt v
    obtain ⟨z, rfl⟩ := qz x (by simp)
    obtain ⟨m, M3, hm, e3, v3, d3⟩ := s14 (Df := Df) (wf := wf) (k := k + 1) H13 H14 v' (ds := ds) (by intro e; rw [e] at q1; simp at q1) (by simp at q2; omega)
    obtain ⟨s, ma, mb, mc, rfl⟩ := machB_form (q3 m hm).1
    have v4 := v3.app (L := [.lst [s, ma, mb, mc]])
    have n4 : (M3 ++ [C.lst [s, ma, mb, mc]])[M3.length]? = some (.lst [s, ma, mb, mc]) := by simp
    have ni : M3.length ≠ i := by have := v3.lt; omega
    obtain ⟨at_, M5, e5, t1, t2, v5, d5⟩ := s13 (Df := Df) (wf := wf) (k := k + 2) H13 v4 (m := 4) (by omega) (by omega)
    have n5 := (d5.get ni).trans n4
    obtain ⟨w, M6, e6, g6, f6, v6, d6⟩ := s22 (Df := Df) (wf := wf) (k := k) H13 H14 H22 v5
    have n6 := (d6.get ni).trans n5
    obtain ⟨ws, wa, wb, wc, rfl⟩ := machB_form g6
    have key : ∃ x nr, atI [ws, wa, wb, wc] at_ = some x ∧ stI M6 (.c M3.length) at_ x = .ok (M6.set M3.length (.lst nr)) ∧ machB (.tup nr) = true ∧ Fi 0 2 (.tup nr) := by
      have ga := (q3 _ hm).1
      have fa := (q3 _ hm).2
      unfold machB at ga g6
      obtain ⟨a1, a2⟩ := He.ba ga
      obtain ⟨a2, a3⟩ := He.ba a2
      obtain ⟨a3, a4⟩ := He.ba a3
      obtain ⟨b1, b2⟩ := He.ba g6
      obtain ⟨b2, b3⟩ := He.ba b2
      obtain ⟨b3, b4⟩ := He.ba b3
      cases fa with
      | tup _ fa =>
        cases f6 with
        | tup _ f6 =>
          have fs := fa s (by simp)
          have fma := fa ma (by simp)
          have fmb := fa mb (by simp)
          have fmc := fa mc (by simp)
          have gs := f6 ws (by simp)
          have gma := f6 wa (by simp)
          have gmb := f6 wb (by simp)
          have gmc := f6 wc (by simp)
          have hat : at_ = 0 ∨ at_ = 1 ∨ at_ = 2 ∨ at_ = 3 := by omega
          rcases hat with rfl | rfl | rfl | rfl
          · exact ⟨ws, [ws, ma, mb, mc], rfl, stI_c (j := 0) (x := ws) n6 rfl, by unfold machB; simp [a2, a3, a4, b1], .tup (by simp) (by simp [gs, fma, fmb, fmc])⟩
          · exact ⟨wa, [s, wa, mb, mc], rfl, stI_c (j := 1) (x := wa) n6 rfl, by unfold machB; simp [a1, a3, a4, b2], .tup (by simp) (by simp [fs, gma, fmb, fmc])⟩
          · exact ⟨wb, [s, ma, wb, mc], rfl, stI_c (j := 2) (x := wb) n6 rfl, by unfold machB; simp [a1, a2, a4, b3], .tup (by simp) (by simp [fs, fma, gmb, fmc])⟩
          · exact ⟨wc, [s, ma, mb, wc], rfl, stI_c (j := 3) (x := wc) n6 rfl, by unfold machB; simp [a1, a2, a3, b4], .tup (by simp) (by simp [fs, fma, fmb, gmc])⟩
    obtain ⟨x, nr, k1, k2, k3, k4⟩ := key
    have v7 := v6.set (c := .lst nr) ni
    have l7 : M3.length < M6.length := (List.getElem?_eq_some_iff.mp n6).1
    have n7 : (M6.set M3.length (C.lst nr))[M3.length]? = some (.lst nr) := List.getElem?_set_self l7
    obtain ⟨r8, M8, e8, u1, u2, v8, d8⟩ := s13 (Df := Df) (wf := wf) (k := k + 2) H13 v7 (m := 3) (by omega) (by omega)
    have n8 := (d8.get ni).trans n7
    obtain ⟨m9, M9, e9, g9, f9, v9, d9⟩ := s22 (Df := Df) (wf := wf) (k := k) H13 H14 H22 v8
    have al3 : Ag i M M3 := a.draw v d3
    have al8 : Ag i M M8 := ((((al3.push (L := [.lst [s, ma, mb, mc]])).draw v d5).draw v d6).set (c := .lst nr) al3.le).draw v d8
    simp only [List.length_cons] at q2
    have hl : ds.length + 1 ≤ sizeLine := by rw [sizeLine_eq]; omega
    have fin : ∀ (y : D) (o3 o4 o5 : Option W) (MM : Ms), machB y = true → Fi 0 2 y → Ag i M MM → ∃ ds' p3 p4 p5, [some (W.c i), some (W.d (.int mo)), some (W.d (.tup (ds ++ [y]))), o3, o4, o5] = [some (.c i), some (.d (.int mo)), some (.d (.tup ds')), p3, p4, p5] ∧ 1 ≤ ds'.length ∧ (ds'.length : Int) + rr.length ≤ mo ∧ (∀ m ∈ ds', machB m = true ∧ Fi 0 2 m) ∧ Ag i M MM ∧ ∀ x ∈ rr, ∃ z, x = .int z := fun y o3 o4 o5 MM h1 h2 h3 =>
      ⟨ds ++ [y], o3, o4, o5, rfl, by simp, by simp; omega, fun m hm => by
        rcases List.mem_append.mp hm with hm | hm
        · exact q3 m hm
        · simp at hm; subst hm; exact ⟨h1, h2⟩, h3, fun x hx => qz x (List.mem_cons_of_mem _ hx)⟩
    simp [e3, e5, e6, k1, k2, e8]
    split
    · simp [view_c n8, hl, sizeLine_eq]
      refine ⟨by rw [sizeLine_eq] at hl; omega, ?_⟩
      simpa using fin (.tup nr) none none none _ k3 k4 al8
    · simp [e9, hl, sizeLine_eq]
      refine ⟨by rw [sizeLine_eq] at hl; omega, ?_⟩
      simpa using fin m9 none none none _ g9 f9 (al8.draw v d9)
  · obtain ⟨ds, o3, o4, o5, rfl, q1, q2, q3, a, qz⟩ := hI
    simp
    exact ⟨ds, _, ⟨rfl, rfl⟩, q1, by simpa using q2, q3, a.take⟩
end
end PyP

set_option Elab.async false
set_option linter.all false
set_option maxRecDepth 100000
set_option maxHeartbeats 4000000
/-! PyP7: shapes and odd values that are drawn. -/
namespace PyP
open PySem hiding Env
open PySem.Spec PyProof.Rows L2 PyD
theorem mem_rgD {x : D} {n : Int} (h : x ∈ rgD 0 n) : ∃ z, x = .int z := by
  unfold rgD at h
  obtain ⟨z, _, rfl⟩ := List.mem_map.mp h
  exact ⟨_, rfl⟩
@[simp] theorem rgD_length {n : Int} : (rgD 0 n).length = n.toNat := by simp [rgD]
section
variable {Df : Nat → Option Def} {wf k : Nat} {M : Ms} {L n : Nat} {i : Nat}
theorem s24_str (H13 : Df 13 = some b13) (H14 : Df 14 = some b14) (H : Df 24 = some b24) (v : Vt i M) : ∃ s M', callD Df wf (k + 2) 14 [.c i, .d (.lst [.str "s", .str "s", .str "m", .str "m", .str "l"])] M = .ok (.d s, M') ∧ (strW s).isSome = true ∧ (∃ z, s = .str z) ∧ Fi 0 0 s ∧ Vt i M' ∧ Dr i M M' := by
  obtain ⟨s, M1, hs, e1, v1, d1⟩ := s14 (Df := Df) (wf := wf) (k := k) H13 H14 v (ds := [.str "s", .str "s", .str "m", .str "m", .str "l"]) (by simp) (by simp)
  have f := fiB_all (L := 0) (n := 0) (by decide +kernel) hs
  simp at hs
  exact ⟨s, M1, e1, by rcases hs with rfl | rfl | rfl <;> decide +kernel, by rcases hs with rfl | rfl | rfl <;> exact ⟨_, rfl⟩, f, v1, d1⟩
theorem wide_bits {d : Nat} {x : D} : wide (d + 1) (.tup [.str "bits", x]) = bitW x := by simp [wide]
theorem fi_lit {L n : Nat} {a : PySem.Str} (h : fiB 0 0 (.str a) = true) : Fi L n (.str a) := ((fiB_ok (n := 0) h).mono (Nat.zero_le _)).up (Nat.zero_le _)
theorem wide_strz {d : Nat} {z : PySem.Str} : wide d (.str z) = strW (.str z) := by cases d <;> rfl
/-- a shape is drawn -/
theorem s24 (H13 : Df 13 = some b13) (H14 : Df 14 = some b14) (H : Df 24 = some b24) : ∀ {d : Nat} {k : Nat} {M : Ms}, d ≤ 6 → Vt i M →
    ∃ s M', callD Df wf (k + d + 3) 24 [.c i, .d (.int d)] M = .ok (.d s, M') ∧ (wide d s).isSome = true ∧ Fi 0 (2 * d) s ∧ Vt i M' ∧ Dr i M M' := by
  intro d
  induction d with
  | zero =>
    intro k M _ v
    obtain ⟨s, M1, e1, h1, ⟨z, rfl⟩, f, v1, d1⟩ := s24_str (Df := Df) (wf := wf) (k := k) H13 H14 H v
    refine ⟨.str z, M1, ?_, by rw [wide_strz]; exact h1, f, v1, d1⟩
    refine eq_of ?_
    rw [w_callD H rfl]
    simp [b24, startD, sizeLine_eq, e1, ← d1.len]
  | succ d ih =>
    intro k M hd v
    suffices q : Wx (callD Df wf (k + (d + 1) + 3) 24 [.c i, .d (.int (d + 1 : Nat))] M) (fun p => ∃ s M', p = (.d s, M') ∧ (wide (d + 1) s).isSome = true ∧ Fi 0 (2 * (d + 1)) s ∧ Dr i M M') NoE by
      obtain ⟨p, e, ds, M', rfl, q1, q2, q3⟩ := wx_iff.mp q
      exact ⟨ds, M', e, q1, q2, q3.vt v, q3⟩
    rw [show k + (d + 1) + 3 = (k + d + 3) + 1 by omega, w_callD H rfl]
    have hd0 : (0 : Int) < d + 1 := by omega
    obtain ⟨way, M1, e1, w1, w2, v1, d1⟩ := s13 (Df := Df) (wf := wf) (k := k + d + 2) H13 v (m := 8) (by omega) (by omega)
    have fin : ∀ s M', (wide (d + 1) s).isSome = true → Fi 0 (2 * (d + 1)) s → Dr i M M' → ∃ s' M'', (W.d s, M'.take M.length) = (W.d s', M'') ∧ (wide (d + 1) s').isSome = true ∧ Fi 0 (2 * (d + 1)) s' ∧ Dr i M M'' := fun s M' h1 h2 h3 => ⟨s, M', by rw [← h3.len, List.take_length], h1, h2, h3⟩
    by_cases h3 : way < 3
    · obtain ⟨s, M2, e2, h1, ⟨z, rfl⟩, f, v2, d2⟩ := s24_str (Df := Df) (wf := wf) (k := k + d + 1) H13 H14 H v1
      simp [b24, startD, sizeLine_eq, e1, h3, e2, hd0]
      simpa using fin (.str z) M2 h1 (f.mono (by omega)) (d1.trans d2)
    · by_cases h4 : way = 3
      · obtain ⟨b, M2, hb, e2, v2, d2⟩ := s14 (Df := Df) (wf := wf) (k := k + d + 1) H13 H14 v1 (ds := [.tup [.int 3, .int 5], .tup [.int 8], .tup [.int 1, .int 2, .int 3], .tup [.int 4, .int 4], .tup [.int 2, .int 2, .int 2, .int 2], .tup [.int 7]]) (by simp) (by simp)
        have f := fiB_all (L := 0) (n := 1) (by decide +kernel) hb
        simp [b24, startD, sizeLine_eq, e1, h3, h4, e2, hd0]
        have hw : (wide (d + 1) (.tup [.str "bits", b])).isSome = true := by
          rw [wide_bits]
          simp at hb
          rcases hb with rfl | rfl | rfl | rfl | rfl | rfl <;> decide +kernel
        simpa using fin (.tup [.str "bits", b]) M2 hw (.tup (by simp) (by simp; exact ⟨fi_lit (by decide +kernel), f.mono (by omega)⟩)) (d1.trans d2)
      · by_cases h5 : way = 4
        · obtain ⟨u, M2, e2, u1, u2, v2, d2⟩ := s13 (Df := Df) (wf := wf) (k := k + d + 2) H13 v1 (m := 3) (by omega) (by omega)
          obtain ⟨s, M3, e3, g3, f3, v3, d3⟩ := ih (k := k) (by omega) v2
          simp [b24, startD, sizeLine_eq, e1, h3, h4, h5, e2, e3, hd0]
          have hw : (wide (d + 1) (.tup [.str "row", .int (1 + u), s])).isSome = true := by
            obtain ⟨ns, e⟩ := Option.isSome_iff_exists.mp g3
            have i1 : 1 ≤ 1 + u := by omega
            have i2 : 1 + u ≤ 4 := by omega
            simp [wide, rowW, e, i1, i2]
          have i1 : (1 + u).natAbs < 2 ^ 200 := by omega
          simpa using fin (.tup [.str "row", .int (1 + u), s]) M3 hw (.tup (by simp) (by simp; exact ⟨fi_lit (by decide +kernel), .int i1, f3.mono (by omega)⟩)) ((d1.trans d2).trans d3)
        · obtain ⟨u, M2, e2, u1, u2, v2, d2⟩ := s13 (Df := Df) (wf := wf) (k := k + d + 2) H13 v1 (m := 3) (by omega) (by omega)
          simp [b24, startD, sizeLine_eq, e1, h3, h4, h5, e2, hd0]
          refine ⟨by omega, ?_⟩
          refine wx_lcL (fun r acc M' => acc.length + r.length ≤ 3 ∧ 1 ≤ acc.length + r.length ∧ (∀ x ∈ acc, (wide d x).isSome = true ∧ Fi 0 (2 * d) x) ∧ Vt i M' ∧ Dr i M M') ⟨by simp; omega, by simp; omega, by simp, v2, d1.trans d2⟩ (fun x r acc M' hI => ?_) (fun acc M' hI => ?_)
          · obtain ⟨q1, q2, q3, v', d'⟩ := hI
            simp at q1 q2
            obtain ⟨s, M3, e3, g3, f3, v3, d3⟩ := ih (k := k) (by omega) v'
            refine ⟨by rw [sizeLine_eq]; omega, ?_⟩
            simp [e3]
            refine ⟨by omega, by omega, fun x hx => ?_, v3, d'.trans d3⟩
            rcases hx with hx | rfl
            · exact q3 x hx
            · exact ⟨g3, f3⟩
          · obtain ⟨q1, q2, q3, v', d'⟩ := hI
            simp at q1 q2
            simp [sizeLine_eq]
            have hw : (wide (d + 1) (.tup [.str "all", .tup acc])).isSome = true := by
              have : (joinW (acc.map (wide d))).isSome = true := by
                rw [joinW_some, List.all_map, List.all_eq_true]
                exact fun x hx => (q3 x hx).1
              have l1 : 1 ≤ (acc.length : Int) := by omega
              have l2 : (acc.length : Int) ≤ 4 := by omega
              simp [wide, allW, lenB, l1, l2, this]
            simpa using fin (.tup [.str "all", .tup acc]) M' hw (.tup (by simp) (by simp; exact ⟨fi_lit (by decide +kernel), .tup (by omega) fun x hx => (q3 x hx).2⟩)) d'
theorem pw31 : iop .pow 10 31 = .ok (.int 10000000000000000000000000000000) := rfl
def oddL : List D := [.non, .bl true, .bl false, .int 0, .int 1, .int 2, .int 3, .int (-1), .int 10000000000000000000000000000000, .str "", .str "s", .str "m", .str "big", .str "all", .str "bits", .str "clear", .tup [], .lst [], .tup [.int 1, .int 2, .int 4],
  .tup [.str "all", .tup [.str "s"]], .tup [.str "bits", .tup [.int 8]], .tup [.str "clear", .int 0, .int 1], .tup [.tup [.int 1, .int 2, .int 4], .int 1, .str "big", .bl true], .tup [.int 1, .tup [], .tup []]]
theorem oddL_fi : ∀ x ∈ oddL, Fi 0 2 x := fun x hx => fiB_all (by decide +kernel) hx
/-- an odd value is drawn -/
theorem s27 (H13 : Df 13 = some b13) (H14 : Df 14 = some b14) (H : Df 27 = some b27) : ∀ {d : Nat} {k : Nat} {M : Ms}, Vt i M →
    ∃ s M', callD Df wf (k + d + 3) 27 [.c i, .d (.int d)] M = .ok (.d s, M') ∧ Fi 0 (d + 2) s ∧ Vt i M' ∧ Dr i M M' := by
  intro d
  induction d with
  | zero =>
    intro k M v
    obtain ⟨s, M1, hs, e1, v1, d1⟩ := s14 (Df := Df) (wf := wf) (k := k) H13 H14 v (ds := oddL) (by simp [oddL]) (by simp [oddL])
    refine ⟨s, M1, ?_, oddL_fi s hs, v1, d1⟩
    refine eq_of ?_
    rw [w_callD H rfl]
    unfold oddL at e1
    simp [b27, startD, sizeLine_eq, pw31, e1, ← d1.len]
  | succ d ih =>
    intro k M v
    suffices q : Wx (callD Df wf (k + (d + 1) + 3) 27 [.c i, .d (.int (d + 1 : Nat))] M) (fun p => ∃ s M', p = (.d s, M') ∧ Fi 0 (d + 3) s ∧ Dr i M M') NoE by
      obtain ⟨p, e, ds, M', rfl, q2, q3⟩ := wx_iff.mp q
      exact ⟨ds, M', e, q2, q3.vt v, q3⟩
    rw [show k + (d + 1) + 3 = (k + d + 3) + 1 by omega, w_callD H rfl]
    have hd1 : ¬ ((d : Int) + 1 = 0) := by omega
    obtain ⟨way, M1, e1, w1, w2, v1, d1⟩ := s13 (Df := Df) (wf := wf) (k := k + d + 2) H13 v (m := 9) (by omega) (by omega)
    have fin : ∀ s M', Fi 0 (d + 3) s → Dr i M M' → ∃ s' M'', (W.d s, M'.take M.length) = (W.d s', M'') ∧ Fi 0 (d + 3) s' ∧ Dr i M M'' := fun s M' h2 h3 => ⟨s, M', by rw [← h3.len, List.take_length], h2, h3⟩
    by_cases h6 : way < 6
    · obtain ⟨s, M2, hs, e2, v2, d2⟩ := s14 (Df := Df) (wf := wf) (k := k + d + 1) H13 H14 v1 (ds := oddL) (by simp [oddL]) (by simp [oddL])
      unfold oddL at e2
      simp [b27, startD, sizeLine_eq, pw31, hd1, e1, h6, e2]
      simpa using fin s M2 ((oddL_fi s hs).mono (by omega)) (d1.trans d2)
    · obtain ⟨u, M2, e2, u1, u2, v2, d2⟩ := s13 (Df := Df) (wf := wf) (k := k + d + 2) H13 v1 (m := 4) (by omega) (by omega)
      simp [b27, startD, sizeLine_eq, pw31, hd1, e1, h6, e2]
      refine ⟨by omega, ?_⟩
      refine wx_lcL (fun r acc M' => acc.length + r.length ≤ 3 ∧ (∀ x ∈ acc, Fi 0 (d + 2) x) ∧ Vt i M' ∧ Dr i M M') ⟨by simp; omega, by simp, v2, d1.trans d2⟩ (fun x r acc M' hI => ?_) (fun acc M' hI => ?_)
      · obtain ⟨q1, q3, v', d'⟩ := hI
        simp at q1
        obtain ⟨s, M3, e3, f3, v3, d3⟩ := ih (k := k) v'
        refine ⟨by rw [sizeLine_eq]; omega, ?_⟩
        simp [e3]
        refine ⟨by omega, fun x hx => ?_, v3, d'.trans d3⟩
        rcases hx with hx | rfl
        · exact q3 x hx
        · exact f3
      · obtain ⟨q1, q3, v', d'⟩ := hI
        simp at q1
        obtain ⟨u, M3, e3, u1, u2, v3, d3⟩ := s13 (Df := Df) (wf := wf) (k := k + d + 2) H13 v' (m := 3) (by omega) (by omega)
        simp [e3]
        split
        · simpa using fin (.lst acc) M3 (.lst (by omega) q3) (d'.trans d3)
        · simpa using fin (.tup acc) M3 (.tup (by omega) q3) (d'.trans d3)
@[simp] theorem sl_str {z : PySem.Str} {lo hi : Option Int} : dsl (.str z) lo hi = stuckIf (decide (z.length ≤ sizeLine)) (.ok (.str (cutS z lo hi))) := rfl
@[simp] theorem mt_upper {z : PySem.Str} : dmt .upper z [] = stuckIf (decide (z.length ≤ 5592405)) (.ok (.str (Txt.upper z))) := rfl
@[simp] theorem bi_str_int {i : Int} : dbi .str [.int i] = stuckIf (decide (i.natAbs.log2 < 1920)) (.ok (.str (toString i : String))) := rfl
theorem log_ok {i : Int} {m : Nat} (h : i.natAbs < 2 ^ m) (hm : m ≤ 1000) : i.natAbs.log2 < 1920 := by
  by_cases h0 : i.natAbs = 0
  · rw [h0]; decide
  · exact (Nat.log2_lt h0).mpr (Nat.lt_of_lt_of_le h (Nat.pow_le_pow_right (by omega) (by omega)))
/-- one of some fine things -/
theorem s14f (H13 : Df 13 = some b13) (H14 : Df 14 = some b14) {M0 : Ms} (v : Vt i M) (d : Dr i M0 M) {ds : List D} (h1 : ds ≠ []) (h2 : ds.length ≤ 1000000) (hf : ∀ x ∈ ds, Fi L n x) :
    ∃ r M', callD Df wf (k + 2) 14 [.c i, .d (.lst ds)] M = .ok (.d r, M') ∧ Fi L n r ∧ Vt i M' ∧ Dr i M0 M' := by
  obtain ⟨s, M1, hs, e1, v1, d1⟩ := s14 (Df := Df) (wf := wf) (k := k) H13 H14 v h1 h2
  exact ⟨s, M1, e1, hf s hs, v1, d.trans d1⟩
theorem fi_add {i : Int} {c : Int} (h : i.natAbs < 2 ^ (200 + 2 * L)) (hc : c.natAbs ≤ 1) : Fi (L + 1) n (.int (i + c)) := by
  refine .int ?_
  have e : 2 ^ (200 + 2 * (L + 1)) = 4 * 2 ^ (200 + 2 * L) := by rw [show 200 + 2 * (L + 1) = (200 + 2 * L) + 2 by omega, Nat.pow_add]; omega
  rw [e]
  have := Nat.one_le_two_pow (n := 200 + 2 * L)
  omega
theorem fi_dbl {i : Int} (h : i.natAbs < 2 ^ (200 + 2 * L)) : Fi (L + 1) n (.int (2 * i)) := by
  refine .int ?_
  have e : 2 ^ (200 + 2 * (L + 1)) = 4 * 2 ^ (200 + 2 * L) := by rw [show 200 + 2 * (L + 1) = (200 + 2 * L) + 2 by omega, Nat.pow_add]; omega
  rw [e]
  omega
theorem cut_take {ds : List D} {j : Nat} (h : j ≤ ds.length) : PyD.cutD ds none (some (j : Int)) = ds.take j := by
  unfold PyD.cutD
  rw [HT.sIx_none, HT.sIx_nat, List.drop_zero]
  congr 1
  omega
theorem cut_drop {ds : List D} {j : Nat} (h : j ≤ ds.length) : PyD.cutD ds (some (j : Int)) none = ds.drop j := by
  unfold PyD.cutD
  rw [HT.sIx_none, HT.sIx_nat]
  have : min j ds.length = j := by omega
  rw [this, List.take_of_length_le]
  simp
/-- two odd values -/
theorem odd2 (H13 : Df 13 = some b13) (H14 : Df 14 = some b14) (H27 : Df 27 = some b27) {M0 : Ms} (v : Vt i M) (d : Dr i M0 M) : ∃ a b M1 M2, callD Df wf (k + 4) 27 [.c i, .d (.int 1)] M = .ok (.d a, M1) ∧ callD Df wf (k + 4) 27 [.c i, .d (.int 1)] M1 = .ok (.d b, M2) ∧ Fi 0 3 a ∧ Fi 0 3 b ∧ Vt i M2 ∧ Dr i M0 M2 := by
  obtain ⟨a, M1, e1, f1, v1, d1⟩ := s27 (Df := Df) (wf := wf) H13 H14 H27 (d := 1) (k := k) v
  obtain ⟨b, M2, e2, f2, v2, d2⟩ := s27 (Df := Df) (wf := wf) H13 H14 H27 (d := 1) (k := k) v1
  exact ⟨a, b, M1, M2, e1, e2, f1, f2, v2, (d.trans d1).trans d2⟩
theorem s28 (H13 : Df 13 = some b13) (H14 : Df 14 = some b14) (H27 : Df 27 = some b27) (H : Df 28 = some b28) : ∀ {n : Nat} {x : D} {L k : Nat} {M : Ms}, n ≤ 50 → L ≤ 90 → Fi L n x → Vt i M →
    ∃ s M', callD Df wf (k + n + 6) 28 [.c i, .d x] M = .ok (.d s, M') ∧ Fi (L + 1) (n + 3) s ∧ Vt i M' ∧ Dr i M M' := by
  have leaf : ∀ {n : Nat} {x : D} {L k : Nat} {M : Ms}, n ≤ 50 → L ≤ 90 → Fi L n x → Vt i M → (∀ ds, x = .tup ds → ds = []) → ∃ s M', callD Df wf (k + 6) 28 [.c i, .d x] M = .ok (.d s, M') ∧ Fi (L + 1) (n + 3) s ∧ Vt i M' ∧ Dr i M M' := by
    intro n x L k M hn hL hx v ht
    obtain ⟨a, b, M1, M2, e1, e2, f1, f2, v2, d2⟩ := odd2 (Df := Df) (wf := wf) (k := k + 1) H13 H14 H27 v v.refl
    have f1 : Fi (L + 1) (n + 3) a := (f1.up (by omega)).mono (by omega)
    have f2 : Fi (L + 1) (n + 3) b := (f2.up (by omega)).mono (by omega)
    have hxs := hx.sh (by omega)
    cases hx with
    | non =>
      obtain ⟨s, M3, e3, f3, v3, d3⟩ := s14f (Df := Df) (wf := wf) (k := k + 3) H13 H14 v2 d2 (ds := [a, b]) (L := L + 1) (n := n + 3) (by simp) (by simp) (by simp [f1, f2])
      refine ⟨s, M3, ?_, f3, v3, d3⟩
      refine eq_of ?_
      rw [w_callD H rfl]
      simp [b28, startD, sizeLine_eq, e1, e2, e3, ← d3.len]
    | @lst n _ _ _ =>
      obtain ⟨s, M3, e3, f3, v3, d3⟩ := s14f (Df := Df) (wf := wf) (k := k + 3) H13 H14 v2 d2 (ds := [a, b]) (L := L + 1) (n := n + 1 + 3) (by simp) (by simp) (by simp [f1, f2])
      refine ⟨s, M3, ?_, f3, v3, d3⟩
      refine eq_of ?_
      rw [w_callD H rfl]
      simp [b28, startD, sizeLine_eq, e1, e2, e3, ← d3.len]
    | @tup n _ _ _ =>
      have := ht _ rfl
      subst this
      obtain ⟨s, M3, e3, f3, v3, d3⟩ := s14f (Df := Df) (wf := wf) (k := k + 3) H13 H14 v2 d2 (ds := [a, b]) (L := L + 1) (n := n + 1 + 3) (by simp) (by simp) (by simp; exact ⟨f1, f2⟩)
      refine ⟨s, M3, ?_, f3, v3, d3⟩
      refine eq_of ?_
      rw [w_callD H rfl]
      simp [b28, startD, sizeLine_eq, e1, e2, e3, cmp_eq hxs sh_tnil, ← d3.len]
    | @str _ z hz hl =>
      have fz : Fi (L + 1) (n + 3) (.str z) := .str hz hl
      obtain ⟨s, M3, e3, f3, v3, d3⟩ := s14f (Df := Df) (wf := wf) (k := k + 3) H13 H14 v2 d2 (ds := [a, b, .str "s", .str "l", .str "row", .str "little", .str "copy", .str "look", .str (cutS z none (some (-1))), .str (Txt.upper z)]) (L := L + 1) (n := n + 3) (by simp) (by simp) (by
        intro x hx
        simp at hx
        rcases hx with rfl | rfl | rfl | rfl | rfl | rfl | rfl | rfl | rfl | rfl
        · exact f1
        · exact f2
        · exact fi_lit (by decide +kernel)
        · exact fi_lit (by decide +kernel)
        · exact fi_lit (by decide +kernel)
        · exact fi_lit (by decide +kernel)
        · exact fi_lit (by decide +kernel)
        · exact fi_lit (by decide +kernel)
        · exact cut_fi fz
        · exact up_fi fz)
      refine ⟨s, M3, ?_, f3, v3, d3⟩
      refine eq_of ?_
      rw [w_callD H rfl]
      have l1 : z.length ≤ 16777216 := by omega
      have l2 : z.length ≤ 5592405 := by omega
      simp [b28, startD, sizeLine_eq, e1, e2, e3, l1, l2, ← d3.len]
    | @int _ j hj =>
      obtain ⟨s, M3, e3, f3, v3, d3⟩ := s14f (Df := Df) (wf := wf) (k := k + 3) H13 H14 v2 d2 (ds := [a, b, .int (j + 1), .int (j - 1), .bl (!(j != 0)), .str (j.repr : String), .int (2 * j)]) (L := L + 1) (n := n + 3) (by simp) (by simp) (by
        intro x hx
        simp only [List.mem_cons, List.not_mem_nil, or_false] at hx
        rcases hx with rfl | rfl | rfl | rfl | rfl | rfl | rfl
        · exact f1
        · exact f2
        · exact fi_add hj (by decide)
        · exact fi_add (c := -1) hj (by decide)
        · exact .bl _
        · exact str_fi (Nat.lt_of_lt_of_le hj (Nat.pow_le_pow_right (by omega) (by omega)))
        · exact fi_dbl hj)
      refine ⟨s, M3, ?_, f3, v3, d3⟩
      refine eq_of ?_
      rw [w_callD H rfl]
      have lo := log_ok hj (by omega)
      simp [b28, startD, sizeLine_eq, e1, e2, e3, lo, mulOk, ← d3.len]
    | bl j =>
      obtain ⟨s, M3, e3, f3, v3, d3⟩ := s14f (Df := Df) (wf := wf) (k := k + 3) H13 H14 v2 d2 (ds := [a, b, .int (PyD.b2 j + 1), .int (PyD.b2 j - 1), .bl (!j), .str (if j then "True" else "False" : String), .int (2 * PyD.b2 j)]) (L := L + 1) (n := n + 3) (by simp) (by simp) (by
        intro x hx
        have p := Nat.one_le_two_pow (n := 200 + 2 * L)
        have q : 2 ^ (200 + 2 * (L + 1)) = 4 * 2 ^ (200 + 2 * L) := by rw [show 200 + 2 * (L + 1) = (200 + 2 * L) + 2 by omega, Nat.pow_add]; omega
        simp only [List.mem_cons, List.not_mem_nil, or_false] at hx
        rcases hx with rfl | rfl | rfl | rfl | rfl | rfl | rfl
        · exact f1
        · exact f2
        · refine .int ?_; rw [q]; cases j <;> simp [PyD.b2] <;> omega
        · refine .int ?_; rw [q]; cases j <;> simp [PyD.b2] <;> omega
        · exact .bl _
        · cases j <;> exact fi_lit (by decide +kernel)
        · refine .int ?_; rw [q]; cases j <;> simp [PyD.b2] <;> omega)
      refine ⟨s, M3, ?_, f3, v3, d3⟩
      refine eq_of ?_
      rw [w_callD H rfl]
      simp [b28, startD, sizeLine_eq, e1, e2, e3, dop2, iopB, dbi, ← d3.len]
  intro n
  induction n with
  | zero =>
    intro x L k M hn hL hx v
    exact leaf hn hL hx v fun ds e => by subst e; cases hx
  | succ n ih =>
    intro x L k M hn hL hx v
    have hx0 := hx
    cases hx with
    | @tup _ ds hl hm =>
      by_cases hd : ds = []
      · subst hd
        exact leaf (k := k + (n + 1)) hn hL (.tup hl hm) v fun ds e => by cases e; rfl
      · have hsh := (Fi.tup hl hm).sh (by omega)
        have hl1 : 1 ≤ ds.length := List.length_pos_iff.mpr hd
        have hne : ds.isEmpty = false := by cases ds with
          | nil => exact absurd rfl hd
          | cons _ _ => rfl
        have fin : ∀ s M', Fi (L + 1) (n + 1 + 3) s → Vt i M' → Dr i M M' → callD Df wf (k + (n + 1) + 6) 28 [.c i, .d (.tup ds)] M = .ok (.d s, M') → ∃ s M', callD Df wf (k + (n + 1) + 6) 28 [.c i, .d (.tup ds)] M = .ok (.d s, M') ∧ Fi (L + 1) (n + 1 + 3) s ∧ Vt i M' ∧ Dr i M M' := fun s M' h1 h2 h3 h4 => ⟨s, M', h4, h1, h2, h3⟩
        obtain ⟨w, M1, e1, w1, w2, v1, d1⟩ := s13 (Df := Df) (wf := wf) (k := k + n + 5) H13 v (m := 7) (by omega) (by omega)
        by_cases hw : w = 0
        · obtain ⟨a, b, M2, M3, e2, e3, f1, f2, v3, d3⟩ := odd2 (Df := Df) (wf := wf) (k := k + n + 2) H13 H14 H27 v1 d1
          have f1 : Fi (L + 1) (n + 1 + 3) a := (f1.up (by omega)).mono (by omega)
          have f2 : Fi (L + 1) (n + 1 + 3) b := (f2.up (by omega)).mono (by omega)
          obtain ⟨s, M4, e4, f4, v4, d4⟩ := s14f (Df := Df) (wf := wf) (k := k + n + 4) H13 H14 v3 d3 (ds := [a, b]) (L := L + 1) (n := n + 1 + 3) (by simp) (by simp) (by simp; exact ⟨f1, f2⟩)
          refine fin s M4 f4 v4 d4 (eq_of ?_)
          rw [show k + (n + 1) + 6 = (k + n + 6) + 1 by omega, w_callD H rfl]
          simp [b28, startD, sizeLine_eq, e1, e2, e3, e4, hw, cmp_eq hsh sh_tnil, hne, ← d4.len]
        · obtain ⟨at_, M2, e2, a1, a2, v2, d2⟩ := s13 (Df := Df) (wf := wf) (k := k + n + 5) H13 v1 (m := ds.length) (by omega) (by omega)
          obtain ⟨way, M3, e3, y1, y2, v3, d3⟩ := s13 (Df := Df) (wf := wf) (k := k + n + 5) H13 v2 (m := 9) (by omega) (by omega)
          obtain ⟨j, rfl⟩ : ∃ j : Nat, at_ = j := ⟨at_.toNat, by omega⟩
          have hj : j < ds.length := by omega
          have d := (d1.trans d2).trans d3
          have c1 := cut_take (ds := ds) (j := j) (by omega)
          have c2 := cut_drop (ds := ds) (j := j) (by omega)
          have c3 : PyD.cutD ds none (some ((j : Int) + 1)) = ds.take (j + 1) := cut_take (j := j + 1) (by omega)
          have c4 : PyD.cutD ds (some ((j : Int) + 1)) none = ds.drop (j + 1) := cut_drop (j := j + 1) (by omega)
          have mt : ∀ m, ∀ x ∈ ds.take m, Fi (L + 1) (n + 3) x := fun m x hx => ((hm x (List.mem_of_mem_take hx)).up (by omega)).mono (by omega)
          have md : ∀ m, ∀ x ∈ ds.drop m, Fi (L + 1) (n + 3) x := fun m x hx => ((hm x (List.mem_of_mem_drop hx)).up (by omega)).mono (by omega)
          by_cases h0 : way = 0
          · refine fin (.tup (ds.take j ++ ds.drop (j + 1))) M3 (.tup (by simp; omega) fun x hx => (List.mem_append.mp hx).elim (mt _ x) (md _ x)) v3 d (eq_of ?_)
            rw [show k + (n + 1) + 6 = (k + n + 6) + 1 by omega, w_callD H rfl]
            simp [b28, startD, sizeLine_eq, e1, e2, e3, hw, cmp_eq hsh sh_tnil, hne, ← d.len, h0, c1, c4]
            omega
          · by_cases h1 : way = 1
            · refine fin (.tup (ds.take (j + 1) ++ ds.drop j)) M3 (.tup (by simp; omega) fun x hx => (List.mem_append.mp hx).elim (mt _ x) (md _ x)) v3 d (eq_of ?_)
              rw [show k + (n + 1) + 6 = (k + n + 6) + 1 by omega, w_callD H rfl]
              simp [b28, startD, sizeLine_eq, e1, e2, e3, hw, cmp_eq hsh sh_tnil, hne, ← d.len, h1, c3, c2]
              omega
            · by_cases h2 : way = 2
              · refine fin (.tup ds.reverse) M3 (.tup (by simp; omega) fun x hx => ((hm x (List.mem_reverse.mp hx)).up (by omega)).mono (by omega)) v3 d (eq_of ?_)
                rw [show k + (n + 1) + 6 = (k + n + 6) + 1 by omega, w_callD H rfl]
                simp [b28, startD, sizeLine_eq, e1, e2, e3, hw, cmp_eq hsh sh_tnil, hne, ← d.len, h2]
              · by_cases h3 : way = 3
                · refine fin (.lst ds) M3 (.lst (by omega) fun x hx => ((hm x hx).up (by omega)).mono (by omega)) v3 d (eq_of ?_)
                  rw [show k + (n + 1) + 6 = (k + n + 6) + 1 by omega, w_callD H rfl]
                  simp [b28, startD, sizeLine_eq, e1, e2, e3, hw, cmp_eq hsh sh_tnil, hne, ← d.len, h3]
                · obtain ⟨s, M4, e4, f4, v4, d4⟩ := ih (L := L) (k := k) (by omega) hL (hm _ (List.getElem_mem hj)) v3
                  have d' := d.trans d4
                  have ea : atI ds (j : Int) = some ds[j] := by rw [atI_nat rfl]; exact List.getElem?_eq_getElem hj
                  refine fin (.tup (ds.take j ++ [s] ++ ds.drop (j + 1))) M4 (.tup (by simp; omega) fun x hx => ?_) v4 d' (eq_of ?_)
                  · rcases List.mem_append.mp hx with hx | hx
                    · rcases List.mem_append.mp hx with hx | hx
                      · exact mt _ x hx
                      · simp at hx; subst hx; exact f4
                    · exact md _ x hx
                  rw [show k + (n + 1) + 6 = (k + n + 6) + 1 by omega, w_callD H rfl]
                  simp [b28, startD, sizeLine_eq, e1, e2, e3, e4, hw, cmp_eq hsh sh_tnil, hne, ← d'.len, h0, h1, h2, h3, c1, c4, ea]
                  omega
    | _ => exact leaf (k := k + (n + 1)) hn hL hx0 v fun ds e => by cases e
end
end PyP

set_option Elab.async false
set_option linter.all false
set_option maxRecDepth 100000
set_option maxHeartbeats 4000000
/-! PyP8: the law k01. -/
namespace PyP
open PySem hiding Env
open PySem.Spec PyProof.Rows L2 PyD
/-- _law_judged -/
def b29 : Def := ⟨1, 2, (.cons (.asg (.nm 1) (.call 21 (.cons (.var 0) .nil))) (.cons (.ife (.not (.call 16 (.cons (.call 4 (.cons (.var 0) .nil)) (.cons (.call 18 (.cons (.var 0) .nil)) .nil)))) (.cons (.ret (.con (.bl false))) .nil) .nil) (.cons (.ife (.not (.call 16 (.cons (.call 5 (.cons (.var 0) .nil)) (.cons (.call 19 (.cons (.var 0) .nil)) .nil)))) (.cons (.ret (.con (.bl false))) .nil) .nil) (.cons (.ife (.not (.call 16 (.cons (.call 9 (.cons (.var 0) .nil)) (.cons (.isnn (.var 1)) .nil)))) (.cons (.ret (.con (.bl false))) .nil) .nil) (.cons (.ife (.isn (.var 1)) (.cons (.ret (.cmp .eq (.err (.call 11 (.cons (.var 0) .nil)) enm) (.con (.str "shape value")))) .nil) .nil) (.cons (.ret (.cmp .eq (.call 11 (.cons (.var 0) .nil)) (.var 1))) .nil)))))), ["value"]⟩
/-- law -/
def b30 : Def := ⟨1, 7, (.cons (.fr (.nm 1) (.rg1 (.bi .max (.cons (.con (.int 5)) (.cons (.bi .min (.cons (.con (.int 11)) (.cons (.bi .len (.cons (.var 0) .nil)) .nil))) .nil)))) (.cons (.asg (.nm 2) (.call 12 (.cons (.var 0) (.cons (.var 1) .nil)))) (.cons (.fr (.nm 3) (.seq (.fr (.lst (.cons (.call 22 (.cons (.var 2) .nil)) (.cons (.call 23 (.cons (.var 2) (.cons (.con (.int 6)) .nil))) (.cons (.call 24 (.cons (.var 2) (.cons (.con (.int 3)) .nil))) (.cons (.tup (.cons (.con (.str "all")) (.cons (.tup (.cons (.call 24 (.cons (.var 2) (.cons (.con (.int 2)) .nil))) (.cons (.con (.str "m")) .nil))) .nil))) .nil))))))) (.cons (.asg (.nm 4) (.var 3)) (.cons (.ife (.not (.call 29 (.cons (.var 3) .nil))) (.cons (.ret (.con (.bl false))) .nil) .nil) (.cons (.fr (.nm 5) (.rg1 (.con (.int 9))) (.cons (.asg (.nm 4) (.call 28 (.cons (.var 2) (.cons (.ife (.cmp .eq (.op2 .mod (.var 5) (.con (.int 3))) (.con (.int 0))) (.var 3) (.var 4)) .nil)))) (.cons (.ife (.not (.call 29 (.cons (.var 4) .nil))) (.cons (.ret (.con (.bl false))) .nil) .nil) .nil))) .nil)))) (.cons (.ife (.not (.call 29 (.cons (.call 27 (.cons (.var 2) (.cons (.con (.int 2)) .nil))) .nil))) (.cons (.ret (.con (.bl false))) .nil) .nil) .nil)))) (.cons (.asg (.nm 6) (.nw (.lst (.cons (.con (.str "s")) (.cons (.con (.str "l")) (.cons (.con (.str "x")) (.cons (.con (.str "")) (.cons (.con (.str "sm")) (.cons (.tup (.cons (.con (.str "bits")) (.cons (.tup (.cons (.con (.int 8)) .nil)) .nil))) (.cons (.tup (.cons (.con (.str "bits")) (.cons (.tup (.cons (.con (.int 4)) (.cons (.con (.int 5)) .nil))) .nil))) (.cons (.tup (.cons (.con (.str "bits")) (.cons (.tup .nil) .nil))) (.cons (.tup (.cons (.con (.str "bits")) (.cons (.op2 .mul (.tup (.cons (.con (.int 1)) .nil)) (.con (.int 5))) .nil))) .nil)))))))))))) (.cons (.app (.var 6) (.tup (.cons (.con (.str "row")) (.cons (.con (.int 4)) (.cons (.con (.str "m")) .nil))))) (.cons (.asg (.nm 6) (.nw (.op .add (.var 6) (.fr (.lst (.cons (.tup (.cons (.con (.str "row")) (.cons (.con (.int 5)) (.cons (.con (.str "s")) .nil)))) (.cons (.tup (.cons (.con (.str "row")) (.cons (.con (.int 0)) (.cons (.con (.str "s")) .nil)))) (.cons (.tup (.cons (.con (.str "all")) (.cons (.tup .nil) .nil))) (.cons (.tup (.cons (.con (.str "all")) (.cons (.op2 .mul (.tup (.cons (.con (.str "s")) .nil)) (.con (.int 5))) .nil))) (.cons (.tup (.cons (.con (.str "row")) (.cons (.con (.int 2)) (.cons (.tup (.cons (.con (.str "all")) (.cons (.op2 .mul (.tup (.cons (.con (.str "s")) .nil)) (.con (.int 4))) .nil))) .nil)))) .nil)))))))))) (.cons (.asg (.nm 6) (.nw (.op .add (.var 6) (.fr (.lst (.cons (.tup (.cons (.con (.str "row")) (.cons (.con (.int 3)) (.cons (.tup (.cons (.con (.str "all")) (.cons (.op2 .mul (.tup (.cons (.con (.str "s")) .nil)) (.con (.int 4))) .nil))) .nil)))) (.cons (.tup (.cons (.con (.str "row")) (.cons (.con (.int 1)) (.cons (.tup (.cons (.con (.str "row")) (.cons (.con (.int 1)) (.cons (.tup (.cons (.con (.str "row")) (.cons (.con (.int 1)) (.cons (.con (.str "s")) .nil)))) .nil)))) .nil)))) .nil))))))) (.cons (.asg (.nm 6) (.nw (.op .add (.var 6) (.fr (.lst (.cons (.tup (.cons (.con (.str "row")) (.cons (.con (.int 1)) (.cons (.tup (.cons (.con (.str "row")) (.cons (.con (.int 1)) (.cons (.tup (.cons (.con (.str "row")) (.cons (.con (.int 1)) (.cons (.tup (.cons (.con (.str "row")) (.cons (.con (.int 1)) (.cons (.con (.str "s")) .nil)))) .nil)))) .nil)))) .nil)))) (.cons (.tup (.cons (.con (.str "row")) (.cons (.con (.int 1)) (.cons (.tup (.cons (.con (.str "all")) (.cons (.tup (.cons (.tup (.cons (.con (.str "bits")) (.cons (.tup (.cons (.con (.int 1)) (.cons (.con (.int 1)) .nil))) .nil))) .nil)) .nil))) .nil)))) .nil))))))) (.cons (.asg (.nm 6) (.nw (.op .add (.var 6) (.fr (.lst (.cons (.tup (.cons (.con (.str "row")) (.cons (.con (.int 1)) (.cons (.tup (.cons (.con (.str "row")) (.cons (.con (.int 1)) (.cons (.tup (.cons (.con (.str "all")) (.cons (.tup (.cons (.tup (.cons (.con (.str "bits")) (.cons (.tup (.cons (.con (.int 8)) .nil)) .nil))) .nil)) .nil))) .nil)))) .nil)))) (.cons (.tup (.cons (.con (.str "bits")) (.cons (.tup (.cons (.con (.bl true)) (.cons (.con (.int 2)) .nil))) .nil))) (.cons (.tup (.cons (.con (.str "row")) (.cons (.con (.bl true)) (.cons (.con (.str "s")) .nil)))) .nil)))))))) (.cons (.asg (.nm 6) (.nw (.op .add (.var 6) (.fr (.lst (.cons (.tup (.cons (.tup (.cons (.con (.int 1)) (.cons (.con (.int 2)) (.cons (.con (.int 4)) .nil)))) (.cons (.con (.int 1)) (.cons (.con (.str "big")) (.cons (.con (.bl false)) .nil))))) (.cons (.tup (.cons (.tup (.cons (.con (.int 2)) (.cons (.con (.int 4)) (.cons (.con (.int 8)) .nil)))) (.cons (.con (.int 8)) (.cons (.con (.str "pairs")) (.cons (.con (.bl true)) .nil))))) (.cons (.tup (.cons (.tup (.cons (.con (.int 1)) (.cons (.con (.int 2)) (.cons (.con (.int 4)) .nil)))) (.cons (.con (.int 3)) (.cons (.con (.str "big")) (.cons (.con (.bl true)) .nil))))) .nil)))))))) (.cons (.asg (.nm 6) (.nw (.op .add (.var 6) (.fr (.lst (.cons (.tup (.cons (.tup (.cons (.con (.bl true)) (.cons (.con (.int 2)) (.cons (.con (.int 4)) .nil)))) (.cons (.con (.int 1)) (.cons (.con (.str "big")) (.cons (.con (.bl true)) .nil))))) (.cons (.tup (.cons (.tup (.cons (.con (.int 1)) (.cons (.con (.int 2)) (.cons (.con (.int 4)) .nil)))) (.cons (.con (.int 1)) (.cons (.con (.str "big")) (.cons (.con (.int 0)) .nil))))) (.cons (.op2 .mul (.tup (.cons (.tup (.cons (.tup (.cons (.con (.int 1)) (.cons (.con (.int 2)) (.cons (.con (.int 4)) .nil)))) (.cons (.con (.int 1)) (.cons (.con (.str "little")) (.cons (.con (.bl true)) .nil))))) .nil)) (.con (.int 6))) .nil)))))))) (.cons (.ret (.cmp .eq (.fr (.lc (.var 3) (.nm 3) (.seq (.var 6)) (.some (.not (.call 29 (.cons (.var 3) .nil)))) [3])) (.fr (.lst .nil)))) .nil)))))))))), ["script"]⟩
section
variable {Df : Nat → Option Def} {wf k : Nat} {M : Ms} {L n : Nat} {i : Nat}
theorem lay_ints : ∀ ns : List Int, PyData.canLayAll0 (D.toPs (ns.map D.int)) = true
  | [] => rfl
  | n :: ns => lay_ints ns
theorem dep_ints : ∀ ns : List Int, PyData.depthAll (D.toPs (ns.map D.int)) = 0
  | [] => by simp [D.toPs, PyData.depthAll]
  | n :: ns => by rw [List.map_cons, D.toPs, PyData.depthAll, dep_ints ns]; simp [D.toP, PyData.depth]
@[simp] theorem sh_iL {ns : List Int} : (iL ns).sh = true := by
  unfold D.sh SeqAt.shaped iL
  rw [D.toP, PyData.canLay0, PyData.depth, lay_ints, dep_ints]
  rfl
theorem eqv_ints : ∀ ns ms : List Int, PyData.eqvAll (D.toPs (ns.map D.int)) (D.toPs (ms.map D.int)) = (ns == ms)
  | [], [] => rfl
  | [], _ :: _ => rfl
  | _ :: _, [] => rfl
  | n :: ns, m :: ms => by
    rw [List.map_cons, List.map_cons, D.toPs, D.toPs, PyData.eqvAll, eqv_ints ns ms]
    rfl
@[simp] theorem eqv_iL {ns ms : List Int} : (iL ns).eqv (iL ms) = (ns == ms) := eqv_ints ns ms
structure Has1 (Df : Nat → Option Def) : Prop where
  h0 : Df 0 = some b0
  h1 : Df 1 = some b1
  h2 : Df 2 = some b2
  h3 : Df 3 = some b3
  h4 : Df 4 = some b4
  h5 : Df 5 = some b5
  h6 : Df 6 = some b6
  h7 : Df 7 = some b7
  h8 : Df 8 = some b8
  h9 : Df 9 = some b9
  h10 : Df 10 = some b10
  h11 : Df 11 = some b11
  h12 : Df 12 = some b12
  h13 : Df 13 = some b13
  h14 : Df 14 = some b14
  h15 : Df 15 = some b15
  h16 : Df 16 = some b16
  h17 : Df 17 = some b17
  h18 : Df 18 = some b18
  h19 : Df 19 = some b19
  h20 : Df 20 = some b20
  h21 : Df 21 = some b21
  h22 : Df 22 = some b22
  h23 : Df 23 = some b23
  h24 : Df 24 = some b24
  h27 : Df 27 = some b27
  h28 : Df 28 = some b28
  h29 : Df 29 = some b29
  h30 : Df 30 = some b30
theorem s29 (S : Has1 Df) {v : D} (hv : Fi L n v) (hn : n ≤ 60) (hL : L ≤ 100) : callD Df wf (k + 11) 29 [.d v] M = .ok (.d (.bl true), M) := by
  have e21 := fun M => s21 (wf := wf) (k := k + 4) (M := M) S.h15 S.h20 S.h21 hv hn hL
  have e4 := fun M => s4 (wf := wf) (k := k + 7) (M := M) S.h1 S.h2 S.h3 S.h4 hv
  have e18 := fun M => s18 (wf := wf) (k := k + 8) (M := M) S.h17 S.h18 hv hn
  have e5 := fun M => s5 (wf := wf) (k := k + 6) (M := M) S.h1 S.h2 S.h3 S.h4 S.h5 hv hn hL
  have e19 := fun M => s19 (wf := wf) (k := k + 7) (M := M) S.h17 S.h18 S.h19 hv hn hL
  have e9 := fun M => s9 (wf := wf) (k := k + 3) (M := M) S.h0 S.h6 S.h7 S.h8 S.h9 hv hn hL
  have e11 := fun M => s11 (wf := wf) (k := k + 1) (M := M) S.h0 S.h6 S.h7 S.h8 S.h9 S.h10 S.h11 hv hn hL
  have e16 := fun a b M => s16 (Df := Df) (wf := wf) (k := k + 9) (M := M) (a := a) (b := b) S.h16
  refine eq_of ?_
  rw [w_callD S.h29 rfl]
  cases e : shapeW v with
  | none =>
    have g : ∀ Q n M, nmE enm n Q 3 M = Q (.d (.str "shape value"), M.take n) := fun Q n M => nmE_mk rfl
    simp [b29, startD, e21, e4, e18, e5, e19, e9, e11, e16, e, g]
  | some ns =>
    simp [b29, startD, e21, e4, e18, e5, e19, e9, e11, e16, e, cmp_eq sh_iL sh_iL]
@[simp] theorem get_app0 {L : Ms} : (M ++ L)[M.length]? = L[0]? := by
  rw [List.getElem?_append_right (Nat.le_refl _), Nat.sub_self]
@[simp] theorem get_app {L : Ms} {j : Nat} : (M ++ L)[M.length + j]? = L[j]? := by
  rw [List.getElem?_append_right (Nat.le_add_right _ _), Nat.add_sub_cancel_left]
@[simp] theorem set_app0 {L : Ms} {c : C} : (M ++ L).set M.length c = M ++ L.set 0 c := by
  rw [List.set_append_right _ _ (Nat.le_refl _), Nat.sub_self]
@[simp] theorem set_app {L : Ms} {j : Nat} {c : C} : (M ++ L).set (M.length + j) c = M ++ L.set j c := by
  rw [List.set_append_right _ _ (Nat.le_add_right _ _), Nat.add_sub_cancel_left]
theorem frz_c {ds : List D} (h : M[i]? = some (.lst ds)) : frz M (.c i) = .ok (.lst ds, M.set i (.fro ds)) := by
  show (match M[i]? with | some (.lst ds) => R.ok (D.lst ds, M.set i (.fro ds)) | some (.fro ds) => .ok (.lst ds, M) | _ => .stuck) = _
  rw [h]
@[simp] theorem op_mulT {a : List D} {m : Int} : dop2 .mul (.tup a) (.int m) = stuckIf (decide (a ≠ [] ∧ 1 ≤ m ∧ m ≤ 1000 ∧ a.length ≤ 1000)) (.ok (.tup (repD a m))) := rfl
def endL : List D := [.str "s", .str "l", .str "x", .str "", .str "sm", .tup [.str "bits", .tup [.int 8]], .tup [.str "bits", .tup [.int 4, .int 5]], .tup [.str "bits", .tup []], .tup [.str "bits", .tup [.int 1, .int 1, .int 1, .int 1, .int 1]],
  .tup [.str "row", .int 4, .str "m"], .tup [.str "row", .int 5, .str "s"], .tup [.str "row", .int 0, .str "s"], .tup [.str "all", .tup []], .tup [.str "all", .tup [.str "s", .str "s", .str "s", .str "s", .str "s"]],
  .tup [.str "row", .int 2, .tup [.str "all", .tup [.str "s", .str "s", .str "s", .str "s"]]]]
theorem s30 (S : Has1 Df) {ns : List Int} : ∃ M', callD Df wf 60 30 [.d (.scr ns)] [] = .ok (.d (.bl true), M') := by
  suffices q : Wx (callD Df wf 60 30 [.d (.scr ns)] []) (fun p => p.1 = .d (.bl true)) NoE by
    obtain ⟨p, e, h⟩ := wx_iff.mp q
    exact ⟨p.2, by rw [e, ← h]⟩
  have e29 : ∀ {v : D} {n L : Nat} {M : Ms}, Fi L n v → n ≤ 60 → L ≤ 100 → callD Df wf 59 29 [.d v] M = .ok (.d (.bl true), M) := fun hv hn hL => s29 (wf := wf) (k := 48) S hv hn hL
  rw [w_callD S.h30 rfl]
  have hm : ∃ z : Int, 0 ≤ z ∧ z < 1000 ∧ z = (if 5 < (if (ns.length : Int) < 11 then (ns.length : Int) else 11) then (if (ns.length : Int) < 11 then (ns.length : Int) else 11) else 5) := ⟨_, by split <;> (try split) <;> omega, by split <;> (try split) <;> omega, rfl⟩
  obtain ⟨z, z0, z1, hz⟩ := hm
  simp [b30, startD, sizeLine_eq, ← hz]
  refine ⟨by omega, ?_⟩
  refine wx_forL (fun r ρ M => (∀ x ∈ r, ∃ z, x = .int z ∧ 0 ≤ z ∧ z < 1000) ∧ ∃ o1 o2 o3 o4 o5, ρ = [some (.d (.scr ns)), o1, o2, o3, o4, o5, none]) ⟨fun x hx => ?_, none, none, none, none, none, rfl⟩ (fun x r ρ M hI => ?_) (fun ρ M hI => ?_)
  · unfold rgD at hx
    obtain ⟨j, hj, rfl⟩ := List.mem_map.mp hx
    have := List.mem_range.mp hj
    exact ⟨_, rfl, by omega, by omega⟩
  · obtain ⟨hr, o1, o2, o3, o4, o5, rfl⟩ := hI
    obtain ⟨j, rfl, j0, j1⟩ := hr x (by simp)
    obtain ⟨a, b, g, e12⟩ := s12 (Df := Df) (wf := wf) (k := 58) (M := M) (ns := ns) S.h12 j0 j1
    have v0 : Vt M.length (M ++ [vc a b]) := ⟨a, b, g, by simp⟩
    obtain ⟨m, M1, e1, g1, f1, v1, d1⟩ := s22 (Df := Df) (wf := wf) (k := 56) S.h13 S.h14 S.h22 v0
    obtain ⟨fs, M2, e2, l1, l2, g2, v2, d2⟩ := s23 (Df := Df) (wf := wf) (k := 55) S.h13 S.h14 S.h22 S.h23 v1 (mo := 6) (by omega) (by omega)
    obtain ⟨sh3, M3, e3, g3, f3, v3, d3⟩ := s24 (Df := Df) (wf := wf) (d := 3) (k := 53) S.h13 S.h14 S.h24 (by omega) v2
    obtain ⟨sh2, M4, e4, g4, f4, v4, d4⟩ := s24 (Df := Df) (wf := wf) (d := 2) (k := 54) S.h13 S.h14 S.h24 (by omega) v3
    have e3 : callD Df wf 59 24 [.c M.length, .d (.int 3)] M2 = .ok (.d sh3, M3) := e3
    have e4 : callD Df wf 59 24 [.c M.length, .d (.int 2)] M3 = .ok (.d sh2, M4) := e4
    have F1 : Fi 0 8 m := f1.mono (by omega)
    have F2 : Fi 0 8 (.tup fs) := .tup (by omega) fun x hx => (g2 x hx).2.mono (by omega)
    have F3 : Fi 0 8 sh3 := f3.mono (by omega)
    have F4 : Fi 0 8 (.tup [.str "all", .tup [sh2, .str "m"]]) := .tup (by simp) (by simp; exact ⟨fi_lit (by decide +kernel), .tup (by simp) (by simp; exact ⟨f4.mono (by omega), fi_lit (by decide +kernel)⟩)⟩)
    simp [e12, e1, e2, e3, e4, sizeLine_eq]
    refine wx_forL (fun r' ρ M => (∀ x ∈ r', Fi 0 8 x) ∧ Vt _ M ∧ ∃ o3 o4 o5, ρ = [some (.d (.scr ns)), some (.d (.int j)), some (.c _), o3, o4, o5, none]) ⟨by simp; exact ⟨F1, F2, F3, F4⟩, v4, o3, o4, o5, rfl⟩ (fun x r' ρ M' hI => ?_) (fun ρ M' hI => ?_)
    · obtain ⟨hf, v', p3, p4, p5, rfl⟩ := hI
      have hx := hf x (by simp)
      simp [e29 hx (by omega) (by omega)]
      refine wx_forL (fun r'' ρ M => r''.length ≤ 9 ∧ (∀ x ∈ r'', ∃ z, x = .int z) ∧ Vt _ M ∧ ∃ sp o5, Fi (9 - r''.length) (8 + 3 * (9 - r''.length)) sp ∧ ρ = [some (.d (.scr ns)), some (.d (.int j)), some (.c _), some (.d x), some (.d sp), o5, none]) ⟨by simp, fun x hx => mem_rgD hx, v', x, p5, by simpa using hx, rfl⟩ (fun y r'' ρ M'' hI => ?_) (fun ρ M' hI => ?_)
      · obtain ⟨hl, hz, v'', sp, o5, fsp, rfl⟩ := hI
        obtain ⟨ch, rfl⟩ := hz y (by simp)
        simp only [List.length_cons] at hl fsp
        have go : ∀ u : D, Fi (9 - (r''.length + 1)) (8 + 3 * (9 - (r''.length + 1))) u → ∃ s N', callD Df wf 59 28 [.c M.length, .d u] M'' = .ok (.d s, N') ∧ Fi (9 - r''.length) (8 + 3 * (9 - r''.length)) s ∧ Vt M.length N' := fun u hu => by
          obtain ⟨s, N', e, f, v, d⟩ := s28 (Df := Df) (wf := wf) (n := 8 + 3 * (9 - (r''.length + 1))) (k := 53 - (8 + 3 * (9 - (r''.length + 1)))) (L := 9 - (r''.length + 1)) S.h13 S.h14 S.h27 S.h28 (by omega) (by omega) hu v''
          rw [show 53 - (8 + 3 * (9 - (r''.length + 1))) + (8 + 3 * (9 - (r''.length + 1))) + 6 = 59 by omega] at e
          rw [show 9 - (r''.length + 1) + 1 = 9 - r''.length by omega, show 8 + 3 * (9 - (r''.length + 1)) + 3 = 8 + 3 * (9 - r''.length) by omega] at f
          exact ⟨s, N', e, f, v⟩
        simp
        split
        · obtain ⟨s, N', e, f, v⟩ := go x ((hx.up (by omega)).mono (by omega))
          simp [e, e29 f (by omega) (by omega)]
          exact ⟨by omega, fun x hx => hz x (by simp [hx]), v, f⟩
        · obtain ⟨s, N', e, f, v⟩ := go sp fsp
          simp [e, e29 f (by omega) (by omega)]
          exact ⟨by omega, fun x hx => hz x (by simp [hx]), v, f⟩
      · obtain ⟨hl, hz, v'', sp, o5, fsp, rfl⟩ := hI
        simp
        exact ⟨fun x hx => hf x (by simp [hx]), v''⟩
    · obtain ⟨hf, v', p3, p4, p5, rfl⟩ := hI
      obtain ⟨s, N', e5, f5, v5, d5⟩ := s27 (Df := Df) (wf := wf) (d := 2) (k := 54) S.h13 S.h14 S.h27 v'
      have e5 : callD Df wf 59 27 [.c M.length, .d (.int 2)] M' = .ok (.d s, N') := e5
      simp [e5, e29 f5 (by omega) (by omega)]
      exact fun x hx => hr x (by simp [hx])
  · obtain ⟨hr, o1, o2, o3, o4, o5, rfl⟩ := hI
    simp [sizeLine_eq, view_c, PyD.cellOf, apI, view, frz, repD]
    have lc : ∀ (ds : List D) (MM : Ms) (w : Option W), (ds.all (fiB 0 8)) = true → ds.length ≤ 1000 → lcL (lcE (callD Df wf 59) (.var 3) (.nm 3) (.some (.not (.call 29 (.cons (.var 3) .nil)))) [3] [some (.d (.scr ns)), o1, o2, o3, o4, o5, w]) ds [] MM = .ok ([], MM) := fun ds MM w h hl => by
      have := lcL_pure (elt := lcE (callD Df wf 59) (.var 3) (.nm 3) (.some (.not (.call 29 (.cons (.var 3) .nil)))) [3] [some (.d (.scr ns)), o1, o2, o3, o4, o5, w]) (M := MM) (fun _ => none) (ds := ds) (acc := []) (fun x hx => by
        refine eq_of ?_
        simp [e29 (fiB_all h hx) (by omega) (by omega)]) (by rw [sizeLine_eq]; simp; omega)
      rw [this]
      simp
    rw [lc _ _ _ (by decide +kernel) (by simp)]
    simp [cmp_eq sh_nil sh_nil]
end
end PyP

set_option Elab.async false
set_option linter.all false
set_option maxRecDepth 100000
set_option maxHeartbeats 4000000
/-! PyP9: programs: what the program's own looks at values answer (35 to 44). -/
namespace PyP
open PySem hiding Env
open PySem.Spec PyProof.Rows L2 PyD
/-- is_plain -/
def b35 : Def := ⟨2, 2, (.cons (.ife (.or (.not (.isi (.var 1) .tuple)) (.or (.cmp .nmem (.bi .len (.cons (.var 1) .nil)) (.tup (.cons (.con (.int 3)) (.cons (.con (.int 4)) .nil)))) (.not (.isi (.ix (.var 1) (.con (.int 0))) .str)))) (.cons (.ret (.con (.bl false))) .nil) .nil) (.cons (.ife (.not (.call 0 (.cons (.ix (.var 1) (.con (.int 1))) (.cons (.con (.int 0)) (.cons (.var 0) .nil))))) (.cons (.ret (.con (.bl false))) .nil) .nil) (.cons (.ife (.cmp .eq (.ix (.var 1) (.con (.int 0))) (.con (.str "clear"))) (.cons (.ret (.and (.cmp .eq (.bi .len (.cons (.var 1) .nil)) (.con (.int 3))) (.call 0 (.cons (.ix (.var 1) (.con (.int 2))) (.cons (.con (.int 1)) (.cons (.op2 .sub (.var 0) (.ix (.var 1) (.con (.int 1)))) .nil)))))) .nil) .nil) (.cons (.ife (.cmp .ne (.bi .len (.cons (.var 1) .nil)) (.con (.int 4))) (.cons (.ret (.con (.bl false))) .nil) .nil) (.cons (.ife (.cmp .eq (.ix (.var 1) (.con (.int 0))) (.con (.str "copy"))) (.cons (.ret (.and (.call 0 (.cons (.ix (.var 1) (.con (.int 2))) (.cons (.con (.int 0)) (.cons (.var 0) .nil)))) (.call 0 (.cons (.ix (.var 1) (.con (.int 3))) (.cons (.con (.int 1)) (.cons (.op2 .sub (.var 0) (.bi .max (.cons (.ix (.var 1) (.con (.int 1))) (.cons (.ix (.var 1) (.con (.int 2))) .nil)))) .nil)))))) .nil) .nil) (.cons (.ife (.or (.cmp .ne (.ix (.var 1) (.con (.int 0))) (.con (.str "swap"))) (.not (.call 2 (.cons (.ix (.var 1) (.con (.int 2))) (.cons (.tup (.cons (.con (.int 2)) (.cons (.con (.int 4)) (.cons (.con (.int 8)) .nil)))) .nil))))) (.cons (.ret (.con (.bl false))) .nil) .nil) (.cons (.ret (.call 0 (.cons (.ix (.var 1) (.con (.int 3))) (.cons (.con (.int 1)) (.cons (.op2 .fdiv (.op2 .sub (.var 0) (.ix (.var 1) (.con (.int 1)))) (.ix (.var 1) (.con (.int 2)))) .nil))))) .nil))))))), ["long", "value"]⟩
/-- is_step -/
def b36 : Def := ⟨2, 3, (.cons (.ife (.or (.not (.isi (.var 1) .tuple)) (.or (.cmp .eq (.var 1) (.tup .nil)) (.cmp .ne (.ix (.var 1) (.con (.int 0))) (.con (.str "again"))))) (.cons (.ret (.call 35 (.cons (.var 0) (.cons (.var 1) .nil)))) .nil) .nil) (.cons (.ife (.or (.cmp .ne (.bi .len (.cons (.var 1) .nil)) (.con (.int 3))) (.or (.not (.call 0 (.cons (.ix (.var 1) (.con (.int 1))) (.cons (.con (.int 1)) (.cons (.con (.int 1000000000000000000000000000000)) .nil))))) (.not (.isi (.ix (.var 1) (.con (.int 2))) .tuple)))) (.cons (.ret (.con (.bl false))) .nil) .nil) (.cons (.ret (.and (.chn .le .le (.con (.int 1)) (.bi .len (.cons (.ix (.var 1) (.con (.int 2))) .nil)) (.con (.int 3))) (.cmp .eq (.fr (.lc (.var 2) (.nm 2) (.seq (.ix (.var 1) (.con (.int 2)))) (.some (.not (.call 35 (.cons (.var 0) (.cons (.var 2) .nil))))) [2])) (.fr (.lst .nil))))) .nil))), ["long", "value"]⟩
/-- is_write -/
def b37 : Def := ⟨2, 2, (.cons (.ife (.or (.not (.isi (.var 1) .tuple)) (.or (.cmp .ne (.bi .len (.cons (.var 1) .nil)) (.con (.int 3))) (.not (.call 1 (.cons (.ix (.var 1) (.con (.int 0))) (.cons (.tup (.cons (.con (.str "write")) .nil)) .nil)))))) (.cons (.ret (.con (.bl false))) .nil) .nil) (.cons (.ret (.and (.call 0 (.cons (.ix (.var 1) (.con (.int 1))) (.cons (.con (.int 0)) (.cons (.op2 .sub (.var 0) (.con (.int 1))) .nil)))) (.call 9 (.cons (.ix (.var 1) (.con (.int 2))) .nil)))) .nil)), ["long", "value"]⟩
/-- is_look -/
def b38 : Def := ⟨2, 2, (.cons (.ife (.or (.not (.isi (.var 1) .tuple)) (.or (.cmp .ne (.bi .len (.cons (.var 1) .nil)) (.con (.int 4))) (.not (.call 1 (.cons (.ix (.var 1) (.con (.int 0))) (.cons (.tup (.cons (.con (.str "look")) .nil)) .nil)))))) (.cons (.ret (.con (.bl false))) .nil) .nil) (.cons (.ret (.and (.call 0 (.cons (.ix (.var 1) (.con (.int 1))) (.cons (.con (.int 0)) (.cons (.op2 .sub (.var 0) (.con (.int 1))) .nil)))) (.call 9 (.cons (.ix (.var 1) (.con (.int 2))) .nil)))) .nil)), ["long", "value"]⟩
/-- writes_of -/
def b39 : Def := ⟨1, 2, (.cons (.ret (.fr (.lc (.var 1) (.nm 1) (.seq (.ix (.var 0) (.con (.int 1)))) (.some (.cmp .eq (.ix (.var 1) (.con (.int 0))) (.con (.str "write")))) [1]))) .nil), ["program"]⟩
/-- looks_of -/
def b40 : Def := ⟨1, 2, (.cons (.ret (.fr (.lc (.var 1) (.nm 1) (.seq (.ix (.var 0) (.con (.int 2)))) (.some (.cmp .eq (.ix (.var 1) (.con (.int 0))) (.con (.str "look")))) [1]))) .nil), ["program"]⟩
/-- means -/
def b41 : Def := ⟨2, 2, (.cons (.ife (.not (.call 0 (.cons (.ix (.var 1) (.con (.int 3))) (.cons (.con (.int 0)) (.cons (.op2 .sub (.bi .len (.cons (.var 0) .nil)) (.con (.int 1))) .nil))))) (.cons (.ret (.con (.bl false))) .nil) .nil) (.cons (.ret (.cmp .eq (.call 8 (.cons (.ix (.ix (.var 0) (.ix (.var 1) (.con (.int 3)))) (.con (.int 2))) .nil)) (.call 8 (.cons (.ix (.var 1) (.con (.int 2))) .nil)))) .nil)), ["writes", "look"]⟩
/-- are_items -/
def b42 : Def := ⟨1, 1, (.cons (.ret (.and (.isi (.var 0) .tuple) (.cmp .le (.bi .len (.cons (.var 0) .nil)) (.con (.int 6))))) .nil), ["value"]⟩
/-- is_program -/
def b43 : Def := ⟨1, 8, (.cons (.ife (.or (.not (.isi (.var 0) .tuple)) (.or (.cmp .ne (.bi .len (.cons (.var 0) .nil)) (.con (.int 3))) (.not (.call 0 (.cons (.ix (.var 0) (.con (.int 0))) (.cons (.con (.int 1)) (.cons (.con (.int 24)) .nil))))))) (.cons (.ret (.con (.bl false))) .nil) .nil) (.cons (.asg (.tp [1, 2, 3]) (.var 0)) (.cons (.ife (.or (.not (.call 42 (.cons (.var 2) .nil))) (.not (.call 42 (.cons (.var 3) .nil)))) (.cons (.ret (.con (.bl false))) .nil) .nil) (.cons (.ife (.cmp .ne (.fr (.lc (.var 4) (.nm 4) (.seq (.var 2)) (.some (.and (.not (.call 36 (.cons (.var 1) (.cons (.var 4) .nil)))) (.not (.call 37 (.cons (.var 1) (.cons (.var 4) .nil)))))) [4])) (.fr (.lst .nil))) (.cons (.ret (.con (.bl false))) .nil) .nil) (.cons (.ife (.cmp .ne (.fr (.lc (.var 4) (.nm 4) (.seq (.var 3)) (.some (.and (.not (.call 36 (.cons (.var 1) (.cons (.var 4) .nil)))) (.not (.call 38 (.cons (.var 1) (.cons (.var 4) .nil)))))) [4])) (.fr (.lst .nil))) (.cons (.ret (.con (.bl false))) .nil) .nil) (.cons (.par [5, 6] (.cons (.call 39 (.cons (.var 0) .nil)) (.cons (.call 40 (.cons (.var 0) .nil)) .nil))) (.cons (.ife (.or (.cmp .gt (.bi .len (.cons (.var 5) .nil)) (.con (.int 3))) (.cmp .gt (.bi .len (.cons (.var 6) .nil)) (.con (.int 3)))) (.cons (.ret (.con (.bl false))) .nil) .nil) (.cons (.ret (.cmp .eq (.fr (.lc (.var 7) (.nm 7) (.seq (.var 6)) (.some (.not (.call 41 (.cons (.var 5) (.cons (.var 7) .nil))))) [7])) (.fr (.lst .nil)))) .nil)))))))), ["value"]⟩
/-- need_program -/
def b44 : Def := ⟨1, 1, (.cons (.ife (.not (.call 43 (.cons (.var 0) .nil))) (.cons (.rai 4) .nil) .nil) .nil), ["program"]⟩
def inB (lo i hi : Int) : Bool := decide (lo ≤ i) && decide (i ≤ hi)
/-- a plain step within so many bytes -/
def plainB (long : Int) (v : D) : Bool := match v with
  | .tup [.str z, .int a, c] => z == "clear" && (inB 0 a long && isWhole c 1 (long - a))
  | .tup [.str z, .int a, b, c] => inB 0 a long && ((z == "copy" && (match b with
      | .int b => inB 0 b long && isWhole c 1 (long - max a b)
      | _ => false)) || (z == "swap" && (match b with
      | .int b => (b == 2 || (b == 4 || b == 8)) && isWhole c 1 ((long - a) / b)
      | _ => false)))
  | _ => false
def TIMES : Int := 1000000000000000000000000000000
def againB (long : Int) : List D → Bool
  | [t, .tup ds] => isWhole t 1 TIMES && (decide (1 ≤ (ds.length : Int)) && (decide ((ds.length : Int) ≤ 3) && ds.all (plainB long)))
  | _ => false
def stepB (long : Int) (v : D) : Bool := match v with
  | .tup (h :: r) => if h.eqv (.str "again") = true then againB long r else plainB long v
  | _ => false
def writeB (long : Int) (v : D) : Bool := match v with
  | .tup [w, a, s] => isWord w [.str "write"] && (isWhole a 0 (long - 1) && (shapeW s).isSome)
  | _ => false
def lookB (long : Int) (v : D) : Bool := match v with
  | .tup [w, a, s, _] => isWord w [.str "look"] && (isWhole a 0 (long - 1) && (shapeW s).isSome)
  | _ => false
theorem plainB_ne {long : Int} {ds : List D} (h : ¬ ds.length = 3) (h' : ¬ ds.length = 4) : plainB long (.tup ds) = false := by
  unfold plainB
  split
  · rename_i e; cases e; exact absurd rfl h
  · rename_i e; cases e; exact absurd rfl h'
  · rfl
section
variable {Df : Nat → Option Def} {wf k : Nat} {M : Ms} {L n : Nat} {long : Int}
theorem isWhole_not {v : D} {lo hi : Int} (h : ∀ i, v ≠ .int i) : isWhole v lo hi = false := by
  cases v <;> first | rfl | exact absurd rfl (h _)
theorem isWhole_int {i lo hi : Int} : isWhole (.int i) lo hi = inB lo i hi := rfl
theorem s35 (H0 : Df 0 = some b0) (H2 : Df 2 = some b2) (H : Df 35 = some b35) {v : D} (hv : Fi L n v) (hn : n ≤ 60) : callD Df wf (k + 2) 35 [.d (.int long), .d v] M = .ok (.d (.bl (plainB long v)), M) := by
  refine eq_of ?_
  rw [w_callD H rfl]
  cases hv with
  | @tup m ds hl hm =>
    by_cases h3 : ds.length = 3
    · match ds, h3 with
      | [a, x, c], _ =>
      have ha := hm a (by simp)
      have hx := hm x (by simp)
      have hc := hm c (by simp)
      cases ha with
      | @str _ z hz hzl =>
        have hsz : (D.str z).sh = true := sh_str (asc_ok hz)
        have e0 : ∀ lo hi M, callD Df wf (k + 1) 0 [.d x, .d (.int lo), .d (.int hi)] M = .ok (.d (.bl (isWhole x lo hi)), M) := fun lo hi M => s0 H0 hx
        cases hx with
        | @int _ i hi =>
          by_cases zc : z = "clear" <;> simp [b35, startD, sizeLine_eq, e0, s0 H0 hc, hsz, isWhole_int, plainB, zc]
          split <;> simp_all
        | _ => simp [b35, startD, sizeLine_eq, e0, hsz, isWhole, plainB]
      | _ => simp [b35, startD, sizeLine_eq, plainB]
    · by_cases h4 : ds.length = 4
      · match ds, h4 with
        | [a, x, y, c], _ =>
        have ha := hm a (by simp)
        have hx := hm x (by simp)
        have hy := hm y (by simp)
        have hc := hm c (by simp)
        cases ha with
        | @str _ z hz hzl =>
          have hsz : (D.str z).sh = true := sh_str (asc_ok hz)
          have e0 : ∀ lo hi M, callD Df wf (k + 1) 0 [.d x, .d (.int lo), .d (.int hi)] M = .ok (.d (.bl (isWhole x lo hi)), M) := fun lo hi M => s0 H0 hx
          have e1 : ∀ lo hi M, callD Df wf (k + 1) 0 [.d y, .d (.int lo), .d (.int hi)] M = .ok (.d (.bl (isWhole y lo hi)), M) := fun lo hi M => s0 H0 hy
          have e2 : ∀ ds M, ds.all D.flat = true → callD Df wf (k + 1) 2 [.d y, .d (.tup ds)] M = .ok (.d (.bl (isOneOf y ds)), M) := fun ds M h => s2 H2 hy h
          cases hx with
          | @int _ i hi =>
            by_cases zc : z = "clear"
            · simp [b35, startD, sizeLine_eq, e0, hsz, isWhole_int, plainB, zc]
            · by_cases zo : z = "copy"
              · cases hy with
                | @int _ j hj =>
                  have em : max i j = if j > i then j else i := by split <;> omega
                  simp [b35, startD, sizeLine_eq, e0, e1, s0 H0 hc, hsz, isWhole_int, plainB, zc, zo, em]
                  (repeat' split) <;> simp_all
                | _ =>
                  simp [b35, startD, sizeLine_eq, e0, e1, s0 H0 hc, hsz, isWhole, plainB, zc, zo]
              · by_cases zs : z = "swap"
                · cases hy with
                  | @int _ j hj =>
                    have e2 := fun M => e2 [.int 2, .int 4, .int 8] M (by rfl)
                    simp [b35, startD, sizeLine_eq, e0, e2, s0 H0 hc, hsz, isWhole_int, plainB, zc, zo, zs, isOneOf]
                    by_cases hj' : j = 2 ∨ j = 4 ∨ j = 8
                    · rcases hj' with rfl | rfl | rfl <;> simp <;> split <;> simp_all
                    · have q : ¬ 2 = j ∧ ¬ 4 = j ∧ ¬ 8 = j := by omega
                      rw [if_pos q]
                      split <;> exact fun _ h => absurd h hj'
                  | _ =>
                    have e2 := fun M => e2 [.int 2, .int 4, .int 8] M (by rfl)
                    simp [b35, startD, sizeLine_eq, e0, e2, s0 H0 hc, hsz, isWhole, plainB, zc, zo, zs, isOneOf]
                · simp [b35, startD, sizeLine_eq, e0, hsz, isWhole_int, plainB, zc, zo, zs]
          | _ => simp [b35, startD, sizeLine_eq, e0, hsz, isWhole, plainB]
        | _ => simp [b35, startD, sizeLine_eq, plainB]
      · rw [plainB_ne h3 h4]
        have h3' : ¬ (3 = (ds.length : Int)) := by omega
        have h4' : ¬ (4 = (ds.length : Int)) := by omega
        simp [b35, startD, h3', h4', sizeLine_eq]
  | _ => simp [b35, startD, plainB]
theorem eqv_again {h : D} (e : h.eqv (.str "again") = true) : h = .str "again" := by
  cases h with
  | str z => rw [eqv_str] at e; rw [eq_of_beq e]
  | _ => cases e
theorem s36 (H0 : Df 0 = some b0) (H2 : Df 2 = some b2) (H35 : Df 35 = some b35) (H : Df 36 = some b36) {v : D} (hv : Fi L n v) (hn : n ≤ 60) (hL : L ≤ 100) : callD Df wf (k + 3) 36 [.d (.int long), .d v] M = .ok (.d (.bl (stepB long v)), M) := by
  have e35 : ∀ {v : D} {n : Nat} {M : Ms}, Fi L n v → n ≤ 60 → callD Df wf (k + 2) 35 [.d (.int long), .d v] M = .ok (.d (.bl (plainB long v)), M) := fun h hn => s35 H0 H2 H35 h hn
  have e35v := fun M => e35 (M := M) hv hn
  have hvs := hv.sh (by omega)
  refine eq_of ?_
  rw [w_callD H rfl]
  cases hv with
  | @tup m ds hl hm =>
    cases ds with
    | nil => simp [b36, startD, e35v, stepB, plainB, cmp_eq hvs sh_tnil]
    | cons h r =>
      have hh := (hm h (by simp)).sh (by omega)
      have hag : D.sh (.str "again") = true := by simp
      by_cases hb : h.eqv (.str "again") = true
      · have := eqv_again hb
        subst this
        match r, hl, hm with
        | [], _, _ => simp [b36, startD, e35v, stepB, againB, cmp_eq hvs sh_tnil, sizeLine_eq]
        | [t], _, _ => simp [b36, startD, e35v, stepB, againB, cmp_eq hvs sh_tnil, sizeLine_eq]
        | t :: s :: u :: w, _, _ =>
          have h3 : ¬ ((((w.length + 1 + 1 + 1 + 1 : Nat)) : Int) = 3) := by omega
          simp at h3
          simp [b36, startD, e35v, stepB, againB, cmp_eq hvs sh_tnil, sizeLine_eq, h3]
        | [t, s], hl, hm =>
          have ht := hm t (by simp)
          have hs := hm s (by simp)
          cases hs with
          | @tup m' ws hwl hwm =>
            have lc : ∀ ρ, lcL (lcE (callD Df wf (k + 2)) (.var 2) (.nm 2) (.some (.not (.call 35 (.cons (.var 0) (.cons (.var 2) .nil))))) [2] [some (.d (.int long)), some (.d (.tup [.str "again", t, .tup ws])), ρ]) ws [] M = .ok ([] ++ ws.filterMap (badO (plainB long)), M) := fun ρ =>
              lcL_pure _ (fun d hd => by
                refine eq_of ?_
                simp [e35 (hwm d hd) (by omega), badO]) (by rw [sizeLine_eq]; simp; omega)
            have sh := bad_sh (p := plainB long) hwm hwl (by omega)
            simp [b36, startD, stepB, againB, cmp_eq hvs sh_tnil, sizeLine_eq, s0 H0 ht, lc, badO_all, cmp_eq sh sh_nil, TIMES]
            (repeat' split) <;> simp_all <;> first | (intros; omega) | grind
          | _ => simp [b36, startD, stepB, againB, cmp_eq hvs sh_tnil, sizeLine_eq, s0 H0 ht]
      · simp [b36, startD, e35v, stepB, cmp_eq hvs sh_tnil, cmp_ne hh hag, hb, sizeLine_eq]
  | _ => simp [b36, startD, e35v, stepB, plainB]
theorem s37 (H0 : Df 0 = some b0) (H1 : Df 1 = some b1) (H9 : ∀ {v : D} {n : Nat} {M : Ms}, Fi L n v → n ≤ 60 → callD Df wf (k + 7) 9 [.d v] M = .ok (.d (.bl (shapeW v).isSome), M)) (H : Df 37 = some b37) {v : D} (hv : Fi L n v) (hn : n ≤ 60) : callD Df wf (k + 8) 37 [.d (.int long), .d v] M = .ok (.d (.bl (writeB long v)), M) := by
  refine eq_of ?_
  rw [w_callD H rfl]
  cases hv with
  | @tup m ds hl hm =>
    by_cases h3 : ds.length = 3
    · match ds, h3 with
      | [a, x, c], _ =>
      have ha := hm a (by simp)
      have hx := hm x (by simp)
      have hc := hm c (by simp)
      have e1 : ∀ M, callD Df wf (k + 7) 1 [.d a, .d (.tup [.str "write"])] M = .ok (.d (.bl (isWord a [.str "write"])), M) := fun M => s1 H1 ha (by rfl)
      simp [b37, startD, sizeLine_eq, e1, s0 H0 hx, H9 hc (by omega), writeB]
      (repeat' split) <;> simp_all
    · have h3' : ¬ ((ds.length : Int) = 3) := by omega
      have : writeB long (.tup ds) = false := by
        unfold writeB
        split
        · rename_i e; cases e; exact absurd rfl h3
        · rfl
      simp [b37, startD, h3', sizeLine_eq, this]
  | _ => simp [b37, startD, writeB]
theorem s38 (H0 : Df 0 = some b0) (H1 : Df 1 = some b1) (H9 : ∀ {v : D} {n : Nat} {M : Ms}, Fi L n v → n ≤ 60 → callD Df wf (k + 7) 9 [.d v] M = .ok (.d (.bl (shapeW v).isSome), M)) (H : Df 38 = some b38) {v : D} (hv : Fi L n v) (hn : n ≤ 60) : callD Df wf (k + 8) 38 [.d (.int long), .d v] M = .ok (.d (.bl (lookB long v)), M) := by
  refine eq_of ?_
  rw [w_callD H rfl]
  cases hv with
  | @tup m ds hl hm =>
    by_cases h4 : ds.length = 4
    · match ds, h4 with
      | [a, x, c, d], _ =>
      have ha := hm a (by simp)
      have hx := hm x (by simp)
      have hc := hm c (by simp)
      have e1 : ∀ M, callD Df wf (k + 7) 1 [.d a, .d (.tup [.str "look"])] M = .ok (.d (.bl (isWord a [.str "look"])), M) := fun M => s1 H1 ha (by rfl)
      simp [b38, startD, sizeLine_eq, e1, s0 H0 hx, H9 hc (by omega), lookB]
      (repeat' split) <;> simp_all
    · have h4' : ¬ ((ds.length : Int) = 4) := by omega
      have : lookB long (.tup ds) = false := by
        unfold lookB
        split
        · rename_i e; cases e; exact absurd rfl h4
        · rfl
      simp [b38, startD, h4', sizeLine_eq, this]
  | _ => simp [b38, startD, lookB]
/-! ### whole programs -/
def isIt (w : PySem.Str) (v : D) : Bool := match v with
  | .tup (h :: _) => h.eqv (.str w)
  | _ => false
def keepO (p : D → Bool) (d : D) : Option D := if p d = true then some d else none
theorem keepO_filter {p : D → Bool} : ∀ {ds : List D}, ds.filterMap (keepO p) = ds.filter p
  | [] => rfl
  | d :: ds => by
    rw [List.filterMap_cons, List.filter_cons]
    unfold keepO
    cases p d with
    | true => exact congrArg _ keepO_filter
    | false => exact keepO_filter
def wideOf (w : D) : Option (List Int) := match w with
  | .tup (_ :: _ :: s :: _) => wide 3 s
  | _ => none
def meansB (ws : List D) (v : D) : Bool := match v with
  | .tup [_, _, s, .int j] => inB 0 j ((ws.length : Int) - 1) && (match ws[j.toNat]? with
    | some w => wideOf w == wide 3 s
    | none => false)
  | _ => false
def bodyB (long : Int) (bs ls : List D) : Bool :=
  decide ((bs.length : Int) ≤ 6) && (decide ((ls.length : Int) ≤ 6) && ((bs.all fun x => stepB long x || writeB long x) && ((ls.all fun x => stepB long x || lookB long x) &&
    (decide (((bs.filter (isIt "write")).length : Int) ≤ 3) && (decide (((ls.filter (isIt "look")).length : Int) ≤ 3) && (ls.filter (isIt "look")).all (meansB (bs.filter (isIt "write"))))))))
def progB (v : D) : Bool := match v with
  | .tup [.int long, .tup bs, .tup ls] => inB 1 long 24 && bodyB long bs ls
  | _ => false
theorem step_head {v : D} (h : stepB long v = true) : ∃ z r, v = .tup (.str z :: r) ∧ (z = "again" ∨ z = "clear" ∨ z = "copy" ∨ z = "swap") := by
  unfold stepB at h
  split at h
  · rename_i h0 r
    split at h
    · rename_i e
      exact ⟨_, r, by rw [eqv_again e], .inl rfl⟩
    · unfold plainB at h
      split at h
      · rename_i z a c e
        cases e
        obtain ⟨h1, _⟩ := He.ba h
        exact ⟨z, _, rfl, .inr (.inl (eq_of_beq h1))⟩
      · rename_i z a b c e
        cases e
        obtain ⟨_, h2⟩ := He.ba h
        rcases Bool.or_eq_true_iff.mp h2 with q | q
        · exact ⟨z, _, rfl, .inr (.inr (.inl (eq_of_beq (He.ba q).1)))⟩
        · exact ⟨z, _, rfl, .inr (.inr (.inr (eq_of_beq (He.ba q).1)))⟩
      · cases h
  · cases h
theorem isWord_one {w : D} {z : PySem.Str} (h : isWord w [.str z] = true) : w = .str z := by
  unfold isWord at h
  split at h
  · rename_i y
    simp at h
    rw [h]
  · cases h
theorem write_form {v : D} (h : writeB long v = true) : ∃ a s, v = .tup [.str "write", .int a, s] ∧ inB 0 a (long - 1) = true ∧ (shapeW s).isSome = true := by
  unfold writeB at h
  split at h
  · rename_i w a s
    obtain ⟨h1, h2⟩ := He.ba h
    obtain ⟨h2, h3⟩ := He.ba h2
    rw [isWord_one h1]
    cases a with
    | int i => exact ⟨i, s, rfl, h2, h3⟩
    | _ => cases h2
  · cases h
theorem look_form {v : D} (h : lookB long v = true) : ∃ a s j, v = .tup [.str "look", .int a, s, j] ∧ inB 0 a (long - 1) = true ∧ (shapeW s).isSome = true := by
  unfold lookB at h
  split at h
  · rename_i w a s j
    obtain ⟨h1, h2⟩ := He.ba h
    obtain ⟨h2, h3⟩ := He.ba h2
    rw [isWord_one h1]
    cases a with
    | int i => exact ⟨i, s, j, rfl, h2, h3⟩
    | _ => cases h2
  · cases h
theorem it_write {v : D} (h : (stepB long v || writeB long v) = true) : (isIt "write" v = true → writeB long v = true) ∧ ∃ z r, v = .tup (.str z :: r) := by
  rcases Bool.or_eq_true_iff.mp h with q | q
  · obtain ⟨z, r, rfl, hz⟩ := step_head q
    refine ⟨fun e => ?_, z, r, rfl⟩
    simp [isIt] at e
    subst e
    simp at hz
  · obtain ⟨a, s, rfl, _⟩ := write_form q
    exact ⟨fun _ => q, _, _, rfl⟩
theorem it_look {v : D} (h : (stepB long v || lookB long v) = true) : (isIt "look" v = true → lookB long v = true) ∧ ∃ z r, v = .tup (.str z :: r) := by
  rcases Bool.or_eq_true_iff.mp h with q | q
  · obtain ⟨z, r, rfl, hz⟩ := step_head q
    refine ⟨fun e => ?_, z, r, rfl⟩
    simp [isIt] at e
    subst e
    simp at hz
  · obtain ⟨a, s, j, rfl, _⟩ := look_form q
    exact ⟨fun _ => q, _, _, rfl⟩
theorem shapeW_wide {s : D} (h : (shapeW s).isSome = true) : ∃ ns, wide 3 s = some ns ∧ ns.length ≤ 10 ∧ shapeW s = some ns := by
  obtain ⟨ns, e⟩ := Option.isSome_iff_exists.mp h
  have e0 := e
  unfold shapeW at e
  obtain ⟨a, ha, h⟩ := Option.bind_eq_some_iff.mp e
  split at h
  · cases h; exact ⟨_, ha, by assumption, e0⟩
  · cases h
theorem s39 (H : Df 39 = some b39) {a c : D} {bs : List D} (hb : ∀ x ∈ bs, ∃ z r, x = .tup (.str z :: r) ∧ (D.str z).sh = true) (hl : bs.length ≤ 1000) : callD Df wf (k + 1) 39 [.d (.tup [a, .tup bs, c])] M = .ok (.d (.lst (bs.filter (isIt "write"))), M) := by
  refine eq_of ?_
  rw [w_callD H rfl]
  have lc : ∀ ρ, lcL (lcE (callD Df wf k) (.var 1) (.nm 1) (.some (.cmp .eq (.ix (.var 1) (.con (.int 0))) (.con (.str "write")))) [1] [some (.d (.tup [a, .tup bs, c])), ρ]) bs [] M = .ok ([] ++ bs.filterMap (keepO (isIt "write")), M) := fun ρ =>
    lcL_pure _ (fun d hd => by
      refine eq_of ?_
      obtain ⟨z, r, rfl, hz⟩ := hb d hd
      simp [isIt, hz, keepO]) (by rw [sizeLine_eq]; simp; omega)
  simp [b39, startD, lc, keepO_filter]
theorem s40 (H : Df 40 = some b40) {a c : D} {bs : List D} (hb : ∀ x ∈ bs, ∃ z r, x = .tup (.str z :: r) ∧ (D.str z).sh = true) (hl : bs.length ≤ 1000) : callD Df wf (k + 1) 40 [.d (.tup [a, c, .tup bs])] M = .ok (.d (.lst (bs.filter (isIt "look"))), M) := by
  refine eq_of ?_
  rw [w_callD H rfl]
  have lc : ∀ ρ, lcL (lcE (callD Df wf k) (.var 1) (.nm 1) (.some (.cmp .eq (.ix (.var 1) (.con (.int 0))) (.con (.str "look")))) [1] [some (.d (.tup [a, c, .tup bs])), ρ]) bs [] M = .ok ([] ++ bs.filterMap (keepO (isIt "look")), M) := fun ρ =>
    lcL_pure _ (fun d hd => by
      refine eq_of ?_
      obtain ⟨z, r, rfl, hz⟩ := hb d hd
      simp [isIt, hz, keepO]) (by rw [sizeLine_eq]; simp; omega)
  simp [b40, startD, lc, keepO_filter]
theorem s41 (H0 : Df 0 = some b0) (H8 : Df 8 = some b8) (H : Df 41 = some b41) {ws : List D} {v : D} (hw : ∀ x ∈ ws, writeB long x = true) (hv : lookB long v = true) (fv : Fi L n v) (hl : ws.length ≤ 1000) :
    callD Df wf (k + 5) 41 [.d (.lst ws), .d v] M = .ok (.d (.bl (meansB ws v)), M) := by
  obtain ⟨a, s, j, rfl, _, hs⟩ := look_form hv
  obtain ⟨ns, e1, _, _⟩ := shapeW_wide hs
  have e8 := fun M => s8 (wf := wf) H8 (d := 3) (k := k) (M := M) (by omega) e1
  cases fv with
  | tup _ hm =>
    have hj := hm j (by simp)
    refine eq_of ?_
    rw [w_callD H rfl]
    have e0 : ∀ lo hi M, callD Df wf (k + 4) 0 [.d j, .d (.int lo), .d (.int hi)] M = .ok (.d (.bl (isWhole j lo hi)), M) := fun lo hi M => s0 H0 hj
    cases hj with
    | @int _ i hi =>
      by_cases hb : inB 0 i ((ws.length : Int) - 1) = true
      · have hb' := hb
        unfold inB at hb'
        obtain ⟨i1, i2⟩ := He.ba hb'
        have i1 := of_decide_eq_true i1
        have i2 := of_decide_eq_true i2
        have hlt : i.toNat < ws.length := by omega
        have ea : atI ws i = some ws[i.toNat] := by rw [atI_nat (j := i.toNat) (by omega)]; exact List.getElem?_eq_getElem hlt
        have eg : ws[i.toNat]? = some ws[i.toNat] := List.getElem?_eq_getElem hlt
        obtain ⟨b, s', ew, _, hs'⟩ := write_form (hw _ (List.getElem_mem hlt))
        obtain ⟨ms, e2, _, _⟩ := shapeW_wide hs'
        have e8' := fun M => s8 (wf := wf) H8 (d := 3) (k := k) (M := M) (by omega) e2
        simp [b41, startD, e0, isWhole_int, hb, ea, ew, e8, e8', meansB, eg, wideOf, e1, e2, cmp_eq sh_iL sh_iL]
      · simp [b41, startD, e0, isWhole_int, hb, meansB]
    | _ => simp [b41, startD, e0, isWhole, meansB]
theorem s42 (H : Df 42 = some b42) {v : D} (fv : Fi L n v) : callD Df wf (k + 1) 42 [.d v] M = .ok (.d (.bl (match v with | .tup ds => decide ((ds.length : Int) ≤ 6) | _ => false)), M) := by
  refine eq_of ?_
  rw [w_callD H rfl]
  cases fv <;> simp [b42, startD]
structure HasP (Df : Nat → Option Def) : Prop where
  h0 : Df 0 = some b0
  h1 : Df 1 = some b1
  h2 : Df 2 = some b2
  h6 : Df 6 = some b6
  h7 : Df 7 = some b7
  h8 : Df 8 = some b8
  h9 : Df 9 = some b9
  h35 : Df 35 = some b35
  h36 : Df 36 = some b36
  h37 : Df 37 = some b37
  h38 : Df 38 = some b38
  h39 : Df 39 = some b39
  h40 : Df 40 = some b40
  h41 : Df 41 = some b41
  h42 : Df 42 = some b42
  h43 : Df 43 = some b43
  h44 : Df 44 = some b44
theorem progB_ne {ds : List D} (h : ¬ ds.length = 3) : progB (.tup ds) = false := by
  unfold progB
  split
  · rename_i e; cases e; exact absurd rfl h
  · rfl
/-- whether a value is a program -/
theorem s43 (S : HasP Df) {v : D} (hv : Fi L n v) (hn : n ≤ 60) (hL : L ≤ 100) : callD Df wf (k + 9) 43 [.d v] M = .ok (.d (.bl (progB v)), M) := by
  have e36 : ∀ {long : Int} {v : D} {n : Nat} {M : Ms}, Fi L n v → n ≤ 60 → callD Df wf (k + 8) 36 [.d (.int long), .d v] M = .ok (.d (.bl (stepB long v)), M) := fun h hn => s36 (k := k + 5) S.h0 S.h2 S.h35 S.h36 h hn hL
  have e9 : ∀ {v : D} {n : Nat} {M : Ms}, Fi L n v → n ≤ 60 → callD Df wf (k + 7) 9 [.d v] M = .ok (.d (.bl (shapeW v).isSome), M) := fun h hn => s9 S.h0 S.h6 S.h7 S.h8 S.h9 h hn hL
  have e37 : ∀ {long : Int} {v : D} {n : Nat} {M : Ms}, Fi L n v → n ≤ 60 → callD Df wf (k + 8) 37 [.d (.int long), .d v] M = .ok (.d (.bl (writeB long v)), M) := fun h hn => s37 S.h0 S.h1 e9 S.h37 h hn
  have e38 : ∀ {long : Int} {v : D} {n : Nat} {M : Ms}, Fi L n v → n ≤ 60 → callD Df wf (k + 8) 38 [.d (.int long), .d v] M = .ok (.d (.bl (lookB long v)), M) := fun h hn => s38 S.h0 S.h1 e9 S.h38 h hn
  refine eq_of ?_
  rw [w_callD S.h43 rfl]
  cases hv with
  | @tup m ds hl hm =>
    by_cases h3 : ds.length = 3
    · match ds, h3 with
      | [l, x, y], _ =>
      have hl' := hm l (by simp)
      have hx := hm x (by simp)
      have hy := hm y (by simp)
      have e0 : ∀ lo hi M, callD Df wf (k + 8) 0 [.d l, .d (.int lo), .d (.int hi)] M = .ok (.d (.bl (isWhole l lo hi)), M) := fun lo hi M => s0 S.h0 hl'
      have e42x := fun M => s42 (wf := wf) (k := k + 7) (M := M) S.h42 hx
      have e42y := fun M => s42 (wf := wf) (k := k + 7) (M := M) S.h42 hy
      cases hl' with
      | @int _ long hlong =>
        by_cases hb : inB 1 long 24 = true
        · cases hx with
          | @tup m1 bs hbl hbm =>
            cases hy with
            | @tup m2 ls hll hlm =>
              by_cases c1 : (bs.length : Int) ≤ 6
              · by_cases c2 : (ls.length : Int) ≤ 6
                · have lc1 : ∀ o4 o5 o6 o7, lcL (lcE (callD Df wf (k + 8)) (.var 4) (.nm 4) (.some (.and (.not (.call 36 (.cons (.var 1) (.cons (.var 4) .nil)))) (.not (.call 37 (.cons (.var 1) (.cons (.var 4) .nil)))))) [4] [some (.d (.tup [.int long, .tup bs, .tup ls])), some (.d (.int long)), some (.d (.tup bs)), some (.d (.tup ls)), o4, o5, o6, o7]) bs [] M = .ok ([] ++ bs.filterMap (badO fun x => stepB long x || writeB long x), M) := fun o4 o5 o6 o7 =>
                    lcL_pure _ (fun d hd => by
                      refine eq_of ?_
                      have f := hbm d hd
                      cases q1 : stepB long d <;> cases q2 : writeB long d <;> simp [e36 f (by omega), e37 f (by omega), badO, q1, q2]) (by rw [sizeLine_eq]; simp; omega)
                  have lc2 : ∀ o4 o5 o6 o7, lcL (lcE (callD Df wf (k + 8)) (.var 4) (.nm 4) (.some (.and (.not (.call 36 (.cons (.var 1) (.cons (.var 4) .nil)))) (.not (.call 38 (.cons (.var 1) (.cons (.var 4) .nil)))))) [4] [some (.d (.tup [.int long, .tup bs, .tup ls])), some (.d (.int long)), some (.d (.tup bs)), some (.d (.tup ls)), o4, o5, o6, o7]) ls [] M = .ok ([] ++ ls.filterMap (badO fun x => stepB long x || lookB long x), M) := fun o4 o5 o6 o7 =>
                    lcL_pure _ (fun d hd => by
                      refine eq_of ?_
                      have f := hlm d hd
                      cases q1 : stepB long d <;> cases q2 : lookB long d <;> simp [e36 f (by omega), e38 f (by omega), badO, q1, q2]) (by rw [sizeLine_eq]; simp; omega)
                  have sh1 := bad_sh (p := fun x => stepB long x || writeB long x) hbm hbl (by omega)
                  have sh2 := bad_sh (p := fun x => stepB long x || lookB long x) hlm hll (by omega)
                  by_cases c3 : (bs.all fun x => stepB long x || writeB long x) = true
                  · by_cases c4 : (ls.all fun x => stepB long x || lookB long x) = true
                    · have w1 : ∀ x ∈ bs, ∃ z r, x = .tup (.str z :: r) ∧ (D.str z).sh = true := fun x hx => by
                        obtain ⟨_, z, r, rfl⟩ := it_write (List.all_eq_true.mp c3 x hx)
                        refine ⟨z, r, rfl, ?_⟩
                        cases hbm _ hx with
                        | tup _ q => exact (q (.str z) (by simp)).sh (by omega)
                      have w2 : ∀ x ∈ ls, ∃ z r, x = .tup (.str z :: r) ∧ (D.str z).sh = true := fun x hx => by
                        obtain ⟨_, z, r, rfl⟩ := it_look (List.all_eq_true.mp c4 x hx)
                        refine ⟨z, r, rfl, ?_⟩
                        cases hlm _ hx with
                        | tup _ q => exact (q (.str z) (by simp)).sh (by omega)
                      have e39 := fun M => s39 (wf := wf) (k := k + 7) (M := M) S.h39 (a := .int long) (c := .tup ls) w1 (by omega)
                      have e40 := fun M => s40 (wf := wf) (k := k + 7) (M := M) S.h40 (a := .int long) (c := .tup bs) w2 (by omega)
                      have k1 : ∀ x ∈ bs.filter (isIt "write"), writeB long x = true := fun x hx => by
                        obtain ⟨q1, q2⟩ := List.mem_filter.mp hx
                        exact (it_write (List.all_eq_true.mp c3 x q1)).1 q2
                      have k2 : ∀ x ∈ ls.filter (isIt "look"), lookB long x = true := fun x hx => by
                        obtain ⟨q1, q2⟩ := List.mem_filter.mp hx
                        exact (it_look (List.all_eq_true.mp c4 x q1)).1 q2
                      have kl1 := List.length_filter_le (isIt "write") bs
                      have kl2 := List.length_filter_le (isIt "look") ls
                      have km2 : ∀ x ∈ ls.filter (isIt "look"), Fi L _ x := fun x hx => hlm x (List.mem_filter.mp hx).1
                      have lc3 : ∀ o4 o7, lcL (lcE (callD Df wf (k + 8)) (.var 7) (.nm 7) (.some (.not (.call 41 (.cons (.var 5) (.cons (.var 7) .nil))))) [7] [some (.d (.tup [.int long, .tup bs, .tup ls])), some (.d (.int long)), some (.d (.tup bs)), some (.d (.tup ls)), o4, some (.d (.lst (bs.filter (isIt "write")))), some (.d (.lst (ls.filter (isIt "look")))), o7]) (ls.filter (isIt "look")) [] M = .ok ([] ++ (ls.filter (isIt "look")).filterMap (badO (meansB (bs.filter (isIt "write")))), M) := fun o4 o7 =>
                        lcL_pure _ (fun d hd => by
                          refine eq_of ?_
                          have e41 := fun M => s41 (wf := wf) (k := k + 3) (M := M) S.h0 S.h8 S.h41 k1 (k2 d hd) (km2 d hd) (by omega)
                          simp [e41, badO]) (by rw [sizeLine_eq]; simp; omega)
                      have sh3 := bad_sh (p := meansB (bs.filter (isIt "write"))) km2 (by omega) (by omega)
                      have c3' : (bs.filterMap (badO fun x => stepB long x || writeB long x)).isEmpty = true := by rw [badO_all]; exact c3
                      have c4' : (ls.filterMap (badO fun x => stepB long x || lookB long x)).isEmpty = true := by rw [badO_all]; exact c4
                      by_cases c5 : ((bs.filter (isIt "write")).length : Int) ≤ 3
                      · by_cases c6 : ((ls.filter (isIt "look")).length : Int) ≤ 3
                        · have c5' : ¬ (3 < ((bs.filter (isIt "write")).length : Int)) := by omega
                          have c6' : ¬ (3 < ((ls.filter (isIt "look")).length : Int)) := by omega
                          simp [b43, startD, e0, isWhole_int, hb, e42x, e42y, c1, c2, lc1, lc2, cmp_ne sh1 sh_nil, cmp_ne sh2 sh_nil, c3', c4', e39, e40, c5', c6', lc3, cmp_eq sh3 sh_nil, badO_all, progB, bodyB, c3, c4, c5, c6, sizeLine_eq]
                        · have c6' : 3 < ((ls.filter (isIt "look")).length : Int) := by omega
                          have c5' : ¬ (3 < ((bs.filter (isIt "write")).length : Int)) := by omega
                          simp [b43, startD, e0, isWhole_int, hb, e42x, e42y, c1, c2, lc1, lc2, cmp_ne sh1 sh_nil, cmp_ne sh2 sh_nil, c3', c4', e39, e40, c5', c6', progB, bodyB, c6, sizeLine_eq]
                      · have c5' : 3 < ((bs.filter (isIt "write")).length : Int) := by omega
                        simp [b43, startD, e0, isWhole_int, hb, e42x, e42y, c1, c2, lc1, lc2, cmp_ne sh1 sh_nil, cmp_ne sh2 sh_nil, c3', c4', e39, e40, c5', progB, bodyB, c5, sizeLine_eq]
                    · have c3' : (bs.filterMap (badO fun x => stepB long x || writeB long x)).isEmpty = true := by rw [badO_all]; exact c3
                      have c4' : (ls.filterMap (badO fun x => stepB long x || lookB long x)).isEmpty = false := by rw [badO_all]; exact Bool.eq_false_iff.mpr c4
                      simp [b43, startD, e0, isWhole_int, hb, e42x, e42y, c1, c2, lc1, lc2, cmp_ne sh1 sh_nil, cmp_ne sh2 sh_nil, c3', c4', progB, bodyB, c4, sizeLine_eq]
                  · have c3' : (bs.filterMap (badO fun x => stepB long x || writeB long x)).isEmpty = false := by rw [badO_all]; exact Bool.eq_false_iff.mpr c3
                    simp [b43, startD, e0, isWhole_int, hb, e42x, e42y, c1, c2, lc1, cmp_ne sh1 sh_nil, c3', progB, bodyB, c3, sizeLine_eq]
                · simp [b43, startD, e0, isWhole_int, hb, e42x, e42y, c1, c2, progB, bodyB]
              · simp [b43, startD, e0, isWhole_int, hb, e42x, e42y, c1, progB, bodyB]
            | _ => simp [b43, startD, e0, isWhole_int, hb, e42x, e42y, progB]
          | _ => simp [b43, startD, e0, isWhole_int, hb, e42x, progB]
        · have hp : progB (.tup [.int long, x, y]) = false := by
            unfold progB
            split
            · rename_i e
              cases e
              rw [Bool.eq_false_iff.mpr hb]
              rfl
            · rfl
          simp [b43, startD, e0, isWhole_int, hb, hp]
      | _ => simp [b43, startD, e0, isWhole, progB]
    · have h3' : ¬ ((ds.length : Int) = 3) := by omega
      simp [b43, startD, h3', progB_ne h3]
  | _ => simp [b43, startD, progB]
theorem s44 (S : HasP Df) {v : D} (hv : Fi L n v) (hn : n ≤ 60) (hL : L ≤ 100) : callD Df wf (k + 10) 44 [.d v] M = if progB v = true then .ok (.d .non, M) else .exc 4 M := by
  refine eq_of ?_
  rw [w_callD S.h44 rfl]
  cases e : progB v <;> simp [b44, startD, s43 S hv hn hL, e]
end
end PyP

set_option Elab.async false
set_option linter.all false
set_option maxRecDepth 100000
set_option maxHeartbeats 4000000
/-! PyP10: steps and programs that are drawn (54 to 58). -/
namespace PyP
open PySem hiding Env
open PySem.Spec PyProof.Rows L2 PyD
/-- _law_small -/
def b54 : Def := ⟨1, 2, (.cons (.asg (.nm 1) (.call 24 (.cons (.var 0) (.cons (.con (.int 3)) .nil)))) (.cons (.ret (.ife (.isnn (.call 21 (.cons (.var 1) .nil))) (.var 1) (.tup (.cons (.con (.str "all")) (.cons (.tup (.cons (.con (.str "s")) (.cons (.con (.str "m")) .nil))) .nil))))) .nil)), ["vat"]⟩
/-- _law_plain -/
def b55 : Def := ⟨2, 6, (.cons (.par [2, 3] (.cons (.call 13 (.cons (.var 0) (.cons (.con (.int 4)) .nil))) (.cons (.call 13 (.cons (.var 0) (.cons (.var 1) .nil))) .nil))) (.cons (.ife (.cmp .eq (.var 2) (.con (.int 0))) (.cons (.ret (.tup (.cons (.con (.str "clear")) (.cons (.var 3) (.cons (.op2 .add (.con (.int 1)) (.call 13 (.cons (.var 0) (.cons (.bi .min (.cons (.con (.int 3)) (.cons (.op2 .sub (.var 1) (.var 3)) .nil))) .nil)))) .nil))))) .nil) .nil) (.cons (.asg (.nm 4) (.call 14 (.cons (.var 0) (.cons (.fr (.lst (.cons (.con (.int 2)) (.cons (.con (.int 2)) (.cons (.con (.int 4)) (.cons (.con (.int 8)) .nil)))))) .nil)))) (.cons (.ife (.and (.cmp .eq (.var 2) (.con (.int 1))) (.cmp .le (.op2 .add (.var 3) (.var 4)) (.var 1))) (.cons (.ret (.tup (.cons (.con (.str "swap")) (.cons (.var 3) (.cons (.var 4) (.cons (.op2 .add (.con (.int 1)) (.call 13 (.cons (.var 0) (.cons (.op2 .fdiv (.op2 .sub (.var 1) (.var 3)) (.var 4)) .nil)))) .nil)))))) .nil) .nil) (.cons (.asg (.nm 5) (.call 13 (.cons (.var 0) (.cons (.var 1) .nil)))) (.cons (.ret (.tup (.cons (.con (.str "copy")) (.cons (.var 3) (.cons (.var 5) (.cons (.op2 .add (.con (.int 1)) (.call 13 (.cons (.var 0) (.cons (.op2 .sub (.var 1) (.bi .max (.cons (.var 3) (.cons (.var 5) .nil)))) .nil)))) .nil)))))) .nil)))))), ["vat", "long"]⟩
/-- _law_step -/
def b56 : Def := ⟨2, 4, (.cons (.ife (.cmp .gt (.call 13 (.cons (.var 0) (.cons (.con (.int 4)) .nil))) (.con (.int 0))) (.cons (.ret (.call 55 (.cons (.var 0) (.cons (.var 1) .nil)))) .nil) .nil) (.cons (.asg (.nm 2) (.call 14 (.cons (.var 0) (.cons (.fr (.lst (.cons (.con (.int 1)) (.cons (.con (.int 2)) (.cons (.con (.int 3)) (.cons (.con (.int 10)) (.cons (.op2 .pow (.con (.int 10)) (.con (.int 30))) (.cons (.op2 .sub (.op2 .pow (.con (.int 10)) (.con (.int 30))) (.con (.int 1))) (.cons (.con (.int 719)) .nil))))))))) .nil)))) (.cons (.ret (.tup (.cons (.con (.str "again")) (.cons (.var 2) (.cons (.bi .tuple (.cons (.fr (.lc (.call 55 (.cons (.var 0) (.cons (.var 1) .nil))) (.nm 3) (.rg1 (.op2 .add (.con (.int 1)) (.call 13 (.cons (.var 0) (.cons (.con (.int 2)) .nil))))) .none [3])) .nil)) .nil))))) .nil))), ["vat", "long"]⟩
/-- _law_twisted -/
def b57 : Def := ⟨2, 2, (.cons (.ife (.and (.isi (.var 1) .tuple) (.and (.cmp .eq (.ix (.var 1) (.con (.int 0))) (.con (.str "row"))) (.cmp .eq (.call 13 (.cons (.var 0) (.cons (.con (.int 2)) .nil))) (.con (.int 0))))) (.cons (.ret (.tup (.cons (.con (.str "all")) (.cons (.op2 .mul (.tup (.cons (.ix (.var 1) (.con (.int 2))) .nil)) (.ix (.var 1) (.con (.int 1)))) .nil)))) .nil) .nil) (.cons (.ife (.and (.cmp .eq (.var 1) (.con (.str "s"))) (.cmp .eq (.call 13 (.cons (.var 0) (.cons (.con (.int 3)) .nil))) (.con (.int 0)))) (.cons (.ret (.tup (.cons (.con (.str "bits")) (.cons (.tup (.cons (.con (.int 8)) .nil)) .nil)))) .nil) .nil) (.cons (.ret (.var 1)) .nil))), ["vat", "shape"]⟩
/-- _law_program -/
def b58 : Def := ⟨2, 12, (.cons (.asg (.nm 2) (.op2 .add (.con (.int 2)) (.call 13 (.cons (.var 0) (.cons (.op2 .sub (.var 1) (.con (.int 1))) .nil))))) (.cons (.asg (.nm 3) (.fr (.lc (.call 54 (.cons (.var 0) .nil)) (.nm 4) (.rg1 (.op2 .add (.con (.int 1)) (.call 13 (.cons (.var 0) (.cons (.con (.int 2)) .nil))))) .none [4]))) (.cons (.par [5, 6] (.cons (.tup .nil) (.cons (.tup .nil) .nil))) (.cons (.fr (.nm 7) (.seq (.var 3)) (.cons (.asg (.nm 8) (.bi .tuple (.cons (.fr (.lc (.call 56 (.cons (.var 0) (.cons (.var 2) .nil))) (.nm 4) (.rg1 (.call 13 (.cons (.var 0) (.cons (.con (.int 2)) .nil)))) .none [4])) .nil))) (.cons (.asg (.nm 5) (.op2 .add (.op2 .add (.var 5) (.var 8)) (.tup (.cons (.tup (.cons (.con (.str "write")) (.cons (.call 13 (.cons (.var 0) (.cons (.bi .max (.cons (.con (.int 1)) (.cons (.bi .min (.cons (.con (.int 4)) (.cons (.op2 .sub (.var 2) (.con (.int 4))) .nil))) .nil))) .nil))) (.cons (.var 7) .nil)))) .nil)))) .nil))) (.cons (.asg (.nm 5) (.op2 .add (.var 5) (.bi .tuple (.cons (.fr (.lc (.call 56 (.cons (.var 0) (.cons (.var 2) .nil))) (.nm 4) (.rg1 (.call 13 (.cons (.var 0) (.cons (.con (.int 3)) .nil)))) .none [4])) .nil)))) (.cons (.fr (.tp [9, 7]) (.enum (.var 3)) (.cons (.asg (.nm 8) (.bi .tuple (.cons (.fr (.lc (.call 56 (.cons (.var 0) (.cons (.var 2) .nil))) (.nm 4) (.rg1 (.call 13 (.cons (.var 0) (.cons (.con (.int 2)) .nil)))) .none [4])) .nil))) (.cons (.asg (.nm 10) (.ix (.ix (.fr (.lc (.var 11) (.nm 11) (.seq (.var 5)) (.some (.cmp .eq (.ix (.var 11) (.con (.int 0))) (.con (.str "write")))) [11])) (.var 9)) (.con (.int 1)))) (.cons (.asg (.nm 10) (.call 14 (.cons (.var 0) (.cons (.fr (.lst (.cons (.var 10) (.cons (.var 10) (.cons (.var 10) (.cons (.call 13 (.cons (.var 0) (.cons (.var 2) .nil))) .nil)))))) .nil)))) (.cons (.asg (.nm 6) (.op2 .add (.op2 .add (.var 6) (.var 8)) (.tup (.cons (.tup (.cons (.con (.str "look")) (.cons (.var 10) (.cons (.call 57 (.cons (.var 0) (.cons (.var 7) .nil))) (.cons (.var 9) .nil))))) .nil)))) .nil))))) (.cons (.ret (.tup (.cons (.var 2) (.cons (.sl (.var 5) .none (.some (.con (.int 6)))) (.cons (.sl (.var 6) .none (.some (.con (.int 6)))) .nil))))) .nil))))))), ["vat", "most"]⟩
structure HasS (Df : Nat → Option Def) : Prop where
  h13 : Df 13 = some b13
  h14 : Df 14 = some b14
  h15 : Df 15 = some b15
  h20 : Df 20 = some b20
  h21 : Df 21 = some b21
  h24 : Df 24 = some b24
  h54 : Df 54 = some b54
structure HasD (Df : Nat → Option Def) : Prop extends HasS Df where
  h12 : Df 12 = some b12
  h55 : Df 55 = some b55
  h56 : Df 56 = some b56
  h57 : Df 57 = some b57
  h58 : Df 58 = some b58
section
variable {Df : Nat → Option Def} {wf k : Nat} {M : Ms} {L n : Nat} {i : Nat}
theorem s54 (S : HasS Df) (v : Vt i M) : ∃ s M', callD Df wf (k + 7) 54 [.c i] M = .ok (.d s, M') ∧ (shapeW s).isSome = true ∧ Fi 0 6 s ∧ Vt i M' ∧ Dr i M M' := by
  obtain ⟨s, M1, e1, g1, f1, v1, d1⟩ := s24 (Df := Df) (wf := wf) (d := 3) (k := k) S.h13 S.h14 S.h24 (by omega) v
  have e1 : callD Df wf (k + 6) 24 [.c i, .d (.int 3)] M = .ok (.d s, M1) := e1
  have e2 := s21 (wf := wf) (k := k) (M := M1) S.h15 S.h20 S.h21 f1 (by omega) (Nat.zero_le _)
  have fin : ∀ s, (shapeW s).isSome = true → Fi 0 6 s → callD Df wf (k + 7) 54 [.c i] M = .ok (.d s, M1) → ∃ s M', callD Df wf (k + 7) 54 [.c i] M = .ok (.d s, M') ∧ (shapeW s).isSome = true ∧ Fi 0 6 s ∧ Vt i M' ∧ Dr i M M' := fun s h1 h2 h3 => ⟨s, M1, h3, h1, h2, v1, d1⟩
  cases e : shapeW s with
  | none =>
    refine fin (.tup [.str "all", .tup [.str "s", .str "m"]]) (by decide +kernel) (fiB_ok (by decide +kernel)) (eq_of ?_)
    rw [w_callD S.h54 rfl]
    simp [b54, startD, e1, e2, e, sizeLine_eq, ← d1.len]
  | some ns =>
    refine fin s (by rw [e]; rfl) f1 (eq_of ?_)
    rw [w_callD S.h54 rfl]
    simp [b54, startD, e1, e2, e, sizeLine_eq, ← d1.len]
theorem fi_small {i : Int} (h : -1000 ≤ i) (h2 : i ≤ 1000) : Fi L n (.int i) := by
  refine .int ?_
  have : (2 : Nat) ^ 200 ≤ 2 ^ (200 + 2 * L) := Nat.pow_le_pow_right (by omega) (by omega)
  have q : (1000 : Nat) < 2 ^ 200 := by decide
  omega
/-- a plain step is drawn -/
theorem s55 (S : HasD Df) (v : Vt i M) {long : Int} (h1 : 1 ≤ long) (h2 : long ≤ 24) : ∃ s M', callD Df wf (k + 3) 55 [.c i, .d (.int long)] M = .ok (.d s, M') ∧ plainB long s = true ∧ Fi 0 1 s ∧ Vt i M' ∧ Dr i M M' := by
  obtain ⟨way, M1, e1, w1, w2, v1, d1⟩ := s13 (Df := Df) (wf := wf) (k := k + 1) S.h13 v (m := 4) (by omega) (by omega)
  obtain ⟨a, M2, e2, a1, a2, v2, d2⟩ := s13 (Df := Df) (wf := wf) (k := k + 1) S.h13 v1 (m := long) (by omega) (by omega)
  have d := d1.trans d2
  have fin : ∀ s M', plainB long s = true → Fi 0 1 s → Vt i M' → Dr i M M' → callD Df wf (k + 3) 55 [.c i, .d (.int long)] M = .ok (.d s, M') → ∃ s M', callD Df wf (k + 3) 55 [.c i, .d (.int long)] M = .ok (.d s, M') ∧ plainB long s = true ∧ Fi 0 1 s ∧ Vt i M' ∧ Dr i M M' := fun s M' q1 q2 q3 q4 q5 => ⟨s, M', q5, q1, q2, q3, q4⟩
  by_cases hw : way = 0
  · obtain ⟨u, M3, e3, u1, u2, v3, d3⟩ := s13 (Df := Df) (wf := wf) (k := k + 1) S.h13 v2 (m := if long - a < 3 then long - a else 3) (by split <;> omega) (by split <;> omega)
    have u3 : u < long - a := by split at u2 <;> omega
    have d' := d.trans d3
    refine fin (.tup [.str "clear", .int a, .int (1 + u)]) M3 ?_ ?_ v3 d' (eq_of ?_)
    · have q1 : inB 0 a long = true := by simp [inB]; omega
      have q2 : inB 1 (1 + u) (long - a) = true := by simp [inB]; omega
      simp [plainB, q1, isWhole_int, q2]
    · refine .tup (by simp) fun x hx => ?_
      simp at hx
      rcases hx with rfl | rfl | rfl
      · exact fi_lit (by decide +kernel)
      · exact fi_small (by omega) (by omega)
      · exact fi_small (by omega) (by split at u2 <;> omega)
    · rw [w_callD S.h55 rfl]
      simp [b55, startD, e1, e2, hw, e3, sizeLine_eq, ← d'.len]
  · obtain ⟨room, M3, hr, e3, v3, d3⟩ := s14 (Df := Df) (wf := wf) (k := k) S.h13 S.h14 v2 (ds := [.int 2, .int 2, .int 4, .int 8]) (by simp) (by simp)
    have hr : ∃ r : Int, room = .int r ∧ (r = 2 ∨ r = 4 ∨ r = 8) := by
      simp at hr
      rcases hr with rfl | rfl | rfl
      · exact ⟨2, rfl, by omega⟩
      · exact ⟨4, rfl, by omega⟩
      · exact ⟨8, rfl, by omega⟩
    obtain ⟨r, rfl, hr2⟩ := hr
    have dd := d.trans d3
    by_cases hc : way = 1 ∧ a + r ≤ long
    · have q0 : 1 ≤ (long - a) / r := by
        rcases hr2 with q | q | q <;> rw [q] <;> omega
      have q1 : (long - a) / r ≤ 24 := by
        rcases hr2 with q | q | q <;> rw [q] <;> omega
      obtain ⟨u, M4, e4, u1, u2, v4, d4⟩ := s13 (Df := Df) (wf := wf) (k := k + 1) S.h13 v3 (m := (long - a) / r) (by omega) (by omega)
      have d' := dd.trans d4
      refine fin (.tup [.str "swap", .int a, .int r, .int (1 + u)]) M4 ?_ ?_ v4 d' (eq_of ?_)
      · have p1 : inB 0 a long = true := by simp [inB]; omega
        have p2 : inB 1 (1 + u) ((long - a) / r) = true := by simp [inB]; omega
        have p3 : (r == 2 || (r == 4 || r == 8)) = true := by simp; exact hr2
        simp [plainB, p1, isWhole_int, p2]
        exact hr2
      · refine .tup (by simp) fun x hx => ?_
        simp at hx
        rcases hx with rfl | rfl | rfl | rfl
        · exact fi_lit (by decide +kernel)
        · exact fi_small (by omega) (by omega)
        · exact fi_small (by omega) (by omega)
        · exact fi_small (by omega) (by omega)
      · have r1 : 0 < r := by omega
        have r2 : r < 18446744073709551616 := by omega
        rw [w_callD S.h55 rfl]
        simp [b55, startD, e1, e2, hc.1, hc.2, e3, e4, sizeLine_eq, r1, r2, ← d'.len]
    · obtain ⟨b, M4, e4, b1, b2, v4, d4⟩ := s13 (Df := Df) (wf := wf) (k := k + 1) S.h13 v3 (m := long) (by omega) (by omega)
      have em : max a b = if b > a then b else a := by split <;> omega
      obtain ⟨u, M5, e5, u1, u2, v5, d5⟩ := s13 (Df := Df) (wf := wf) (k := k + 1) S.h13 v4 (m := long - (if b > a then b else a)) (by split <;> omega) (by split <;> omega)
      have d' := (dd.trans d4).trans d5
      refine fin (.tup [.str "copy", .int a, .int b, .int (1 + u)]) M5 ?_ ?_ v5 d' (eq_of ?_)
      · have p1 : inB 0 a long = true := by simp [inB]; omega
        have p2 : inB 0 b long = true := by simp [inB]; omega
        have p3 : inB 1 (1 + u) (long - max a b) = true := by rw [em]; simp [inB]; split at u2 <;> split <;> omega
        simp [plainB, p1, p2, isWhole_int, p3]
      · refine .tup (by simp) fun x hx => ?_
        simp at hx
        rcases hx with rfl | rfl | rfl | rfl
        · exact fi_lit (by decide +kernel)
        · exact fi_small (by omega) (by omega)
        · exact fi_small (by omega) (by omega)
        · exact fi_small (by omega) (by split at u2 <;> omega)
      · rw [w_callD S.h55 rfl]
        by_cases hw1 : way = 1
        · have ha : ¬ a + r ≤ long := fun q => hc ⟨hw1, q⟩
          simp [b55, startD, e1, e2, hw, hw1, ha, e3, e4, e5, sizeLine_eq, ← d'.len]
        · simp [b55, startD, e1, e2, hw, hw1, e3, e4, e5, sizeLine_eq, ← d'.len]
theorem plain_step {long : Int} {s : D} (h : plainB long s = true) : stepB long s = true := by
  have h0 := h
  unfold plainB at h
  split at h
  · rename_i z a c
    show (if (D.str z).eqv (.str "again") = true then againB long [.int a, c] else plainB long (.tup [.str z, .int a, c])) = true
    rw [if_neg]
    · exact h0
    · intro e
      have := eqv_again e
      cases this
      simp at h
  · rename_i z a b c
    show (if (D.str z).eqv (.str "again") = true then againB long [.int a, b, c] else plainB long (.tup [.str z, .int a, b, c])) = true
    rw [if_neg]
    · exact h0
    · intro e
      have := eqv_again e
      cases this
      simp at h
  · cases h
theorem pw30 : iop .pow 10 30 = .ok (.int 1000000000000000000000000000000) := rfl
/-- a step is drawn -/
theorem s56 (S : HasD Df) (v : Vt i M) {long : Int} (h1 : 1 ≤ long) (h2 : long ≤ 24) : ∃ s M', callD Df wf (k + 4) 56 [.c i, .d (.int long)] M = .ok (.d s, M') ∧ stepB long s = true ∧ Fi 0 3 s ∧ Vt i M' ∧ Dr i M M' := by
  obtain ⟨way, M1, e1, w1, w2, v1, d1⟩ := s13 (Df := Df) (wf := wf) (k := k + 2) S.h13 v (m := 4) (by omega) (by omega)
  by_cases hw : 0 < way
  · obtain ⟨s, M2, e2, g2, f2, v2, d2⟩ := s55 (wf := wf) (k := k) S v1 h1 h2
    have d := d1.trans d2
    refine ⟨s, M2, eq_of ?_, plain_step g2, f2.mono (by omega), v2, d⟩
    rw [w_callD S.h56 rfl]
    simp [b56, startD, e1, e2, hw, ← d.len]
  · obtain ⟨tm, M2, ht, e2, v2, d2⟩ := s14 (Df := Df) (wf := wf) (k := k + 1) S.h13 S.h14 v1 (ds := [.int 1, .int 2, .int 3, .int 10, .int 1000000000000000000000000000000, .int 999999999999999999999999999999, .int 719]) (by simp) (by simp)
    obtain ⟨u, M3, e3, u1, u2, v3, d3⟩ := s13 (Df := Df) (wf := wf) (k := k + 2) S.h13 v2 (m := 2) (by omega) (by omega)
    have d := (d1.trans d2).trans d3
    have f2 := fiB_all (L := 0) (n := 2) (by decide +kernel) ht
    have ht2 : isWhole tm 1 TIMES = true := by
      simp only [List.mem_cons, List.not_mem_nil, or_false] at ht
      rcases ht with rfl | rfl | rfl | rfl | rfl | rfl | rfl <;> decide
    suffices q : Wx (callD Df wf (k + 4) 56 [.c i, .d (.int long)] M) (fun p => ∃ s M', p = (.d s, M') ∧ stepB long s = true ∧ Fi 0 3 s ∧ Dr i M M') NoE by
      obtain ⟨p, e, s, M', rfl, q1, q2, q3⟩ := wx_iff.mp q
      exact ⟨s, M', e, q1, q2, q3.vt v, q3⟩
    rw [w_callD S.h56 rfl]
    simp [b56, startD, sizeLine_eq, pw30, e1, e2, e3, hw]
    refine ⟨by omega, ?_⟩
    refine wx_lcL (fun r acc M' => acc.length + r.length ≤ 2 ∧ 1 ≤ acc.length + r.length ∧ (∀ x ∈ acc, plainB long x = true ∧ Fi 0 1 x) ∧ Vt i M' ∧ Dr i M M') ⟨by simp; omega, by simp; omega, by simp, v3, d⟩ (fun x r acc M' hI => ?_) (fun acc M' hI => ?_)
    · obtain ⟨q1, q2, q3, v', d'⟩ := hI
      simp at q1 q2
      obtain ⟨s, M4, e4, g4, f4, v4, d4⟩ := s55 (wf := wf) (k := k) S v' h1 h2
      refine ⟨by rw [sizeLine_eq]; omega, ?_⟩
      simp [e4]
      refine ⟨by omega, by omega, fun x hx => ?_, v4, d'.trans d4⟩
      rcases hx with hx | rfl
      · exact q3 x hx
      · exact ⟨g4, f4⟩
    · obtain ⟨q1, q2, q3, v', d'⟩ := hI
      simp at q1 q2
      simp [sizeLine_eq]
      refine ⟨.tup [.str "again", tm, .tup acc], M', ⟨rfl, by rw [← d'.len, List.take_length]⟩, ?_, ?_, d'⟩
      · have l1 : 1 ≤ (acc.length : Int) := by omega
        have l2 : (acc.length : Int) ≤ 3 := by omega
        have l3 : acc.all (plainB long) = true := List.all_eq_true.mpr fun x hx => (q3 x hx).1
        simp [stepB, againB, ht2, l1, l2, l3]
      · refine .tup (by simp) fun x hx => ?_
        simp at hx
        rcases hx with rfl | rfl | rfl
        · exact fi_lit (by decide +kernel)
        · exact f2
        · exact .tup (by omega) fun x hx => (q3 x hx).2
theorem wide_form {d : Nat} {s : D} {ns : List Int} (h : wide (d + 1) s = some ns) : (∃ z, s = .str z) ∨ (∃ x, s = .tup [.str "bits", x] ∧ bitW x = some ns) ∨ (∃ ws, s = .tup [.str "all", .tup ws] ∧ lenB ws = true ∧ joinW (ws.map (wide d)) = some ns) ∨
    ∃ j x ms, s = .tup [.str "row", .int j, x] ∧ 1 ≤ j ∧ j ≤ 4 ∧ wide d x = some ms ∧ ns = repI ms j := by
  unfold wide at h
  split at h
  · split at h
    · rename_i z x hz
      rw [hz]
      exact .inr (.inl ⟨x, rfl, h⟩)
    · split at h
      · rename_i z x _ hz
        rw [hz]
        unfold allW at h
        split at h
        · split at h
          · exact .inr (.inr (.inl ⟨_, rfl, by assumption, h⟩))
          · cases h
        · cases h
      · cases h
  · split at h
    · rename_i z x y hz
      rw [hz]
      unfold rowW at h
      split at h
      · split at h
        · rename_i j hj
          obtain ⟨h1, h2⟩ := He.ba hj
          obtain ⟨ms, hm, rfl⟩ := Option.map_eq_some_iff.mp h
          exact .inr (.inr (.inr ⟨j, y, ms, rfl, of_decide_eq_true h1, of_decide_eq_true h2, hm, rfl⟩))
        · cases h
      · cases h
    · cases h
  · cases h
  · unfold strW at h
    split at h
    · exact .inl ⟨_, rfl⟩
    · cases h
theorem joinW_rep {o : Option (List Int)} {ms : List Int} (h : o = some ms) : ∀ n : Nat, joinW (List.replicate n o) = some (List.replicate n ms).flatten
  | 0 => rfl
  | n + 1 => by
    rw [List.replicate_succ, joinW, joinW_rep h n, h]
    simp [List.replicate_succ]
theorem s57 (S : HasD Df) (v : Vt i M) {s : D} (hs : (shapeW s).isSome = true) (fs : Fi 0 6 s) : ∃ t M', callD Df wf (k + 2) 57 [.c i, .d s] M = .ok (.d t, M') ∧ shapeW t = shapeW s ∧ Fi 0 7 t ∧ Vt i M' ∧ Dr i M M' := by
  obtain ⟨ns, e1, e2, e3⟩ := shapeW_wide hs
  have fin : ∀ t M', shapeW t = shapeW s → Fi 0 7 t → Vt i M' → Dr i M M' → callD Df wf (k + 2) 57 [.c i, .d s] M = .ok (.d t, M') → ∃ t M', callD Df wf (k + 2) 57 [.c i, .d s] M = .ok (.d t, M') ∧ shapeW t = shapeW s ∧ Fi 0 7 t ∧ Vt i M' ∧ Dr i M M' := fun t M' h1 h2 h3 h4 h5 => ⟨t, M', h5, h1, h2, h3, h4⟩
  have fsh := fs.sh (by omega)
  have hlit : D.sh (.str "s") = true := by simp
  obtain ⟨u, M1, eu, u1, u2, v1, d1⟩ := s13 (Df := Df) (wf := wf) (k := k) S.h13 v (m := 2) (by omega) (by omega)
  obtain ⟨w, M2, ew, w1, w2, v2, d2⟩ := s13 (Df := Df) (wf := wf) (k := k) S.h13 v (m := 3) (by omega) (by omega)
  rcases wide_form e1 with ⟨z, rfl⟩ | ⟨x, rfl, hx⟩ | ⟨ws, rfl, hl, hj⟩ | ⟨j, x, ms, rfl, j1, j2, hx, rfl⟩
  · by_cases hz : z = "s"
    · subst hz
      by_cases hw : w = 0
      · refine fin (.tup [.str "bits", .tup [.int 8]]) M2 (by decide +kernel) (fiB_ok (by decide +kernel)) v2 d2 (eq_of ?_)
        rw [w_callD S.h57 rfl]
        simp [b57, startD, ew, hw, sizeLine_eq, ← d2.len]
      · refine fin (.str "s") M2 rfl (fi_lit (by decide +kernel)) v2 d2 (eq_of ?_)
        rw [w_callD S.h57 rfl]
        simp [b57, startD, ew, hw, sizeLine_eq, ← d2.len]
    · refine fin (.str z) M rfl (fs.mono (by omega)) v v.refl (eq_of ?_)
      rw [w_callD S.h57 rfl]
      simp [b57, startD, hz, fsh]
  · refine fin _ M rfl (fs.mono (by omega)) v v.refl (eq_of ?_)
    rw [w_callD S.h57 rfl]
    simp [b57, startD, cmp_eq fsh hlit, D.eqv, D.toP, PyData.eqv]
  · refine fin _ M rfl (fs.mono (by omega)) v v.refl (eq_of ?_)
    rw [w_callD S.h57 rfl]
    simp [b57, startD, cmp_eq fsh hlit, D.eqv, D.toP, PyData.eqv]
  · by_cases hu : u = 0
    · have hn : 0 < j := by omega
      have hrep : repD [x] j = List.replicate j.toNat x := by
        unfold repD
        induction j.toNat with
        | zero => rfl
        | succ n ih => rw [List.replicate_succ, List.flatten_cons, ih, List.replicate_succ]; rfl
      refine fin (.tup [.str "all", .tup (repD [x] j)]) M1 ?_ ?_ v1 d1 (eq_of ?_)
      · have l1 : lenB (repD [x] j) = true := by
          rw [hrep]
          unfold lenB
          simp
          omega
        have e : wide 3 (.tup [.str "all", .tup (repD [x] j)]) = wide 3 (.tup [.str "row", .int j, x]) := by
          rw [e1]
          unfold wide
          simp [allW, l1]
          rw [hrep, List.map_replicate, joinW_rep hx]
          rfl
        unfold shapeW
        rw [e]
      · rw [hrep]
        cases fs with
        | tup _ hm =>
          have hxm := hm x (by simp)
          refine .tup (by simp) fun y hy => ?_
          simp at hy
          rcases hy with rfl | rfl
          · exact fi_lit (by decide +kernel)
          · refine .tup (by simp; omega) fun y hy => ?_
            have := (List.mem_replicate.mp hy).2
            subst this
            exact hxm
      · rw [w_callD S.h57 rfl]
        have j3 : j ≤ 1000 := by omega
        simp [b57, startD, eu, hu, j1, j3, sizeLine_eq, ← d1.len]
    · refine fin _ M1 rfl (fs.mono (by omega)) v1 d1 (eq_of ?_)
      rw [w_callD S.h57 rfl]
      simp [b57, startD, eu, hu, cmp_eq fsh hlit, D.eqv, D.toP, PyData.eqv, ← d1.len]
/-! ### a program is drawn -/
def ItW (long : Int) (x : D) : Prop := (stepB long x = true ∧ Fi 0 3 x) ∨ ∃ a s, x = .tup [.str "write", .int a, s] ∧ 0 ≤ a ∧ a < 24 ∧ (shapeW s).isSome = true ∧ Fi 0 6 s
def ItL (long : Int) (x : D) : Prop := (stepB long x = true ∧ Fi 0 3 x) ∨ ∃ a s j, x = .tup [.str "look", .int a, s, .int j] ∧ 0 ≤ a ∧ a < 24 ∧ (shapeW s).isSome = true ∧ Fi 0 7 s ∧ 0 ≤ j ∧ j < 3
theorem ItW.fi {long : Int} {x : D} (h : ItW long x) : Fi 0 8 x := by
  rcases h with ⟨_, h⟩ | ⟨a, s, rfl, h1, h2, _, h3⟩
  · exact h.mono (by omega)
  · refine .tup (by simp) fun y hy => ?_
    simp at hy
    rcases hy with rfl | rfl | rfl
    · exact fi_lit (by decide +kernel)
    · exact fi_small (by omega) (by omega)
    · exact h3.mono (by omega)
theorem ItL.fi {long : Int} {x : D} (h : ItL long x) : Fi 0 8 x := by
  rcases h with ⟨_, h⟩ | ⟨a, s, j, rfl, h1, h2, _, h3, h4, h5⟩
  · exact h.mono (by omega)
  · refine .tup (by simp) fun y hy => ?_
    simp at hy
    rcases hy with rfl | rfl | rfl | rfl
    · exact fi_lit (by decide +kernel)
    · exact fi_small (by omega) (by omega)
    · exact h3
    · exact fi_small (by omega) (by omega)
theorem ItW.head {long : Int} {x : D} (h : ItW long x) : ∃ z r, x = .tup (.str z :: r) ∧ (D.str z).sh = true := by
  have hf := h.fi
  have : ∃ z r, x = .tup (.str z :: r) := by
    rcases h with ⟨h, _⟩ | ⟨a, s, rfl, _⟩
    · obtain ⟨z, r, e, _⟩ := step_head h
      exact ⟨z, r, e⟩
    · exact ⟨_, _, rfl⟩
  obtain ⟨z, r, rfl⟩ := this
  refine ⟨z, r, rfl, ?_⟩
  cases hf with
  | tup _ q => exact (q (.str z) (by simp)).sh (by omega)
theorem ItW.write {long : Int} {x : D} (h : ItW long x) (e : isIt "write" x = true) : ∃ a s, x = .tup [.str "write", .int a, s] ∧ 0 ≤ a ∧ a < 24 := by
  rcases h with ⟨h, _⟩ | ⟨a, s, rfl, h1, h2, _⟩
  · obtain ⟨z, r, rfl, hz⟩ := step_head h
    simp [isIt] at e
    subst e
    simp at hz
  · exact ⟨a, s, rfl, h1, h2⟩
theorem step_nowrite {long : Int} {x : D} (h : stepB long x = true) : isIt "write" x = false := by
  obtain ⟨z, r, rfl, hz⟩ := step_head h
  simp [isIt]
  intro e
  subst e
  simp at hz
/-- some steps -/
theorem steps_lc (S : HasD Df) (v : Vt i M) {long : Int} (h1 : 1 ≤ long) (h2 : long ≤ 24) {ρ : Env} (r0 : ρ[0]? = some (some (.c i))) (r2 : ρ[2]? = some (some (.d (.int long)))) {u : Int} (u0 : 0 ≤ u) (u1 : u ≤ 3) :
    ∃ ss M', lcL (lcE (callD Df wf (k + 4)) (.call 56 (.cons (.var 0) (.cons (.var 2) .nil))) (.nm 4) .none [4] ρ) (rgD 0 u) [] M = .ok (ss, M') ∧ ss.length ≤ 3 ∧ (∀ x ∈ ss, stepB long x = true ∧ Fi 0 3 x) ∧ Vt i M' ∧ Dr i M M' := by
  suffices q : Wx (lcL (lcE (callD Df wf (k + 4)) (.call 56 (.cons (.var 0) (.cons (.var 2) .nil))) (.nm 4) .none [4] ρ) (rgD 0 u) [] M) (fun p => p.1.length ≤ 3 ∧ (∀ x ∈ p.1, stepB long x = true ∧ Fi 0 3 x) ∧ Vt i p.2 ∧ Dr i M p.2) NoE by
    obtain ⟨p, e, q1, q2, q3, q4⟩ := wx_iff.mp q
    exact ⟨p.1, p.2, e, q1, q2, q3, q4⟩
  refine wx_lcL (fun r acc M' => acc.length + r.length ≤ 3 ∧ (∀ x ∈ acc, stepB long x = true ∧ Fi 0 3 x) ∧ Vt i M' ∧ Dr i M M') ⟨by simp; omega, by simp, v, v.refl⟩ (fun x r acc M' hI => ?_) (fun acc M' hI => ?_)
  · obtain ⟨q1, q3, v', d'⟩ := hI
    simp at q1
    obtain ⟨s, M4, e4, g4, f4, v4, d4⟩ := s56 (wf := wf) (k := k) S v' h1 h2
    refine ⟨by rw [sizeLine_eq]; omega, ?_⟩
    simp [r0, r2, e4]
    refine ⟨by omega, fun x hx => ?_, v4, d'.trans d4⟩
    rcases hx with hx | rfl
    · exact q3 x hx
    · exact ⟨g4, f4⟩
  · obtain ⟨q1, q3, v', d'⟩ := hI
    exact ⟨by simpa using q1, q3, v', d'⟩
theorem s58 (S : HasD Df) (v : Vt i M) {mo : Int} (m1 : 2 ≤ mo) (m2 : mo ≤ 24) : ∃ long bs ls M', callD Df wf (k + 8) 58 [.c i, .d (.int mo)] M = .ok (.d (.tup [.int long, .tup bs, .tup ls]), M') ∧ 2 ≤ long ∧ long ≤ mo ∧ bs.length ≤ 6 ∧ ls.length ≤ 6 ∧
    (∀ x ∈ bs, ItW long x) ∧ (∀ x ∈ ls, ItL long x) ∧ Vt i M' ∧ Dr i M M' := by
  suffices q : Wx (callD Df wf (k + 8) 58 [.c i, .d (.int mo)] M) (fun p => ∃ long bs ls, p.1 = .d (.tup [.int long, .tup bs, .tup ls]) ∧ 2 ≤ long ∧ long ≤ mo ∧ bs.length ≤ 6 ∧ ls.length ≤ 6 ∧
      (∀ x ∈ bs, ItW long x) ∧ (∀ x ∈ ls, ItL long x) ∧ Dr i M p.2) NoE by
    obtain ⟨⟨w, M'⟩, e, long, bs, ls, rfl, q1, q2, q3, q4, q5, q6, q7⟩ := wx_iff.mp q
    exact ⟨long, bs, ls, M', e, q1, q2, q3, q4, q5, q6, q7.vt v, q7⟩
  obtain ⟨l0, M1, e1, l1, l2, v1, d1⟩ := s13 (Df := Df) (wf := wf) (k := k + 6) S.h13 v (m := mo - 1) (by omega) (by omega)
  obtain ⟨u, M2, e2, u1, u2, v2, d2⟩ := s13 (Df := Df) (wf := wf) (k := k + 6) S.h13 v1 (m := 2) (by omega) (by omega)
  obtain ⟨long, hlong⟩ : ∃ long, long = 2 + l0 := ⟨_, rfl⟩
  have g1 : 2 ≤ long := by omega
  have g2 : long ≤ mo := by omega
  rw [w_callD S.h58 rfl]
  simp [b58, startD, e1, e2, ← hlong, sizeLine_eq]
  refine ⟨by omega, ?_⟩
  refine wx_lcL (fun r acc M' => acc.length + r.length ≤ 2 ∧ (∀ x ∈ acc, (shapeW x).isSome = true ∧ Fi 0 6 x) ∧ Vt i M' ∧ Dr i M M') ⟨by simp; omega, by simp, v2, d1.trans d2⟩ (fun x r acc M' hI => ?_) (fun shapes M3 hI => ?_)
  · obtain ⟨q1, q3, v', d'⟩ := hI
    simp at q1
    obtain ⟨s, M4, e4, g4, f4, v4, d4⟩ := s54 (wf := wf) (k := k) S.toHasS v'
    refine ⟨by rw [sizeLine_eq]; omega, ?_⟩
    simp [e4]
    refine ⟨by omega, fun x hx => ?_, v4, d'.trans d4⟩
    rcases hx with hx | rfl
    · exact q3 x hx
    · exact ⟨g4, f4⟩
  · obtain ⟨q1, q3, v3, d3⟩ := hI
    simp at q1
    simp
    refine wx_forL (fun r ρ M' => ∃ bs o4 o7 o8, ρ = [some (.c i), some (.d (.int mo)), some (.d (.int long)), some (.d (.lst shapes)), o4, some (.d (.tup bs)), some (.d (.tup [])), o7, o8, none, none, none] ∧ (∀ x ∈ bs, ItW long x) ∧ (∀ x ∈ r, (shapeW x).isSome = true ∧ Fi 0 6 x) ∧
      (bs.filter (isIt "write")).length + r.length = shapes.length ∧ bs.length + 4 * r.length ≤ 8 ∧ Vt i M' ∧ Dr i M M') ⟨[], _, _, _, rfl, by simp, q3, by simp, by simp; omega, v3, d3⟩ (fun x r ρ M' hI => ?_) (fun ρ M' hI => ?_)
    · obtain ⟨bs, o4, o7, o8, rfl, hb, hr, hw, hl, v', d'⟩ := hI
      have hx := hr x (by simp)
      simp only [List.length_cons] at hw hl
      obtain ⟨a, M4, e4, a1, a2, v4, d4⟩ := s13 (Df := Df) (wf := wf) (k := k + 6) S.h13 v' (m := 2) (by omega) (by omega)
      obtain ⟨ss, M5, e5, s1, s2, v5, d5⟩ := steps_lc (wf := wf) (k := k + 3) S v4 (long := long) (by omega) (by omega) (ρ := [some (.c i), some (.d (.int mo)), some (.d (.int long)), some (.d (.lst shapes)), o4, some (.d (.tup bs)), some (.d (.tup [])), some (.d x), o8, none, none, none]) rfl rfl a1 (by omega)
      obtain ⟨pl, M6, e6, p1, p2, v6, d6⟩ := s13 (Df := Df) (wf := wf) (k := k + 6) S.h13 v5 (m := if 1 < (if long - 4 < 4 then long - 4 else 4) then (if long - 4 < 4 then long - 4 else 4) else 1) (by split <;> (try split) <;> omega) (by split <;> (try split) <;> omega)
      have p3 : pl < 24 := by split at p2 <;> (try split at p2) <;> omega
      simp [e4, e5, e6, sizeLine_eq]
      refine ⟨by omega, by omega, by omega, fun y hy => ?_, fun y hy => hr y (by simp [hy]), ?_, by omega, v6, ((d'.trans d4).trans d5).trans d6⟩
      · rcases hy with hy | hy | rfl
        · exact hb y hy
        · exact .inl (s2 y hy)
        · exact .inr ⟨pl, x, rfl, p1, p3, hx.1, hx.2⟩
      · have hf : ss.filter (isIt "write") = [] := List.filter_eq_nil_iff.mpr fun y hy => by rw [step_nowrite (s2 y hy).1]; simp
        rw [hf]
        simp [isIt, List.filter_cons]
        omega
    · obtain ⟨bs, o4, o7, o8, rfl, hb, hr, hw, hl, v', d'⟩ := hI
      simp at hw hl
      obtain ⟨a, M4, e4, a1, a2, v4, d4⟩ := s13 (Df := Df) (wf := wf) (k := k + 6) S.h13 v' (m := 3) (by omega) (by omega)
      obtain ⟨ss, M5, e5, s1, s2, v5, d5⟩ := steps_lc (wf := wf) (k := k + 3) S v4 (long := long) (by omega) (by omega) (ρ := [some (.c i), some (.d (.int mo)), some (.d (.int long)), some (.d (.lst shapes)), o4, some (.d (.tup bs)), some (.d (.tup [])), o7, o8, none, none, none]) rfl rfl a1 (by omega)
      simp [e4, e5, sizeLine_eq]
      refine ⟨by omega, by omega, ?_⟩
      obtain ⟨bw, hbw⟩ : ∃ bw, bw = bs ++ ss := ⟨_, rfl⟩
      rw [← hbw]
      have b1 : ∀ x ∈ bw, ItW long x := fun x hx => by
        rw [hbw] at hx
        rcases List.mem_append.mp hx with hx | hx
        · exact hb x hx
        · exact .inl (s2 x hx)
      have b2 : (bw.filter (isIt "write")).length = shapes.length := by
        have hf : ss.filter (isIt "write") = [] := List.filter_eq_nil_iff.mpr fun y hy => by rw [step_nowrite (s2 y hy).1]; simp
        rw [hbw, List.filter_append, hf, List.append_nil]
        exact hw
      have b3 : bw.length ≤ 1000 := by rw [hbw, List.length_append]; omega
      have d0 := (d'.trans d4).trans d5
      refine wx_forL (fun r ρ M' => ∃ ls o4 o7 o8 o9 o10 rest, ∃ j : Nat, ρ = [some (.c i), some (.d (.int mo)), some (.d (.int long)), some (.d (.lst shapes)), o4, some (.d (.tup bw)), some (.d (.tup ls)), o7, o8, o9, o10, none] ∧ r = enumD j rest ∧ j + rest.length = shapes.length ∧
        (∀ x ∈ rest, (shapeW x).isSome = true ∧ Fi 0 6 x) ∧ (∀ x ∈ ls, ItL long x) ∧ ls.length ≤ 4 * j ∧ Vt i M' ∧ Dr i M M') ⟨[], _, _, _, _, _, shapes, 0, rfl, rfl, by simp, q3, by simp, by simp, v5, d0⟩ (fun x r ρ M' hI => ?_) (fun ρ M' hI => ?_)
      · obtain ⟨ls, o4, o7, o8, o9, o10, rest, j, rfl, hr, hj, hs, hls, hl2, v', d'⟩ := hI
        cases rest with
        | nil => cases hr
        | cons sh rest =>
          rw [enumD] at hr
          cases hr
          simp only [List.length_cons] at hj
          have hx := hs sh (by simp)
          obtain ⟨a, M6, e6, a1, a2, v6, d6⟩ := s13 (Df := Df) (wf := wf) (k := k + 6) S.h13 v' (m := 2) (by omega) (by omega)
          obtain ⟨st, M7, e7, t1, t2, v7, d7⟩ := steps_lc (wf := wf) (k := k + 3) S v6 (long := long) (by omega) (by omega) (ρ := [some (.c i), some (.d (.int mo)), some (.d (.int long)), some (.d (.lst shapes)), o4, some (.d (.tup bw)), some (.d (.tup ls)), some (.d sh), o8, some (.d (.int j)), o10, none]) rfl rfl a1 (by omega)
          have lc : ∀ o8 o9 o10 M, lcL (lcE (callD Df wf (k + 7)) (.var 11) (.nm 11) (.some (.cmp .eq (.ix (.var 11) (.con (.int 0))) (.con (.str "write")))) [11] [some (.c i), some (.d (.int mo)), some (.d (.int long)), some (.d (.lst shapes)), o4, some (.d (.tup bw)), some (.d (.tup ls)), some (.d sh), o8, o9, o10, none]) bw [] M = .ok ([] ++ bw.filterMap (keepO (isIt "write")), M) := fun o8 o9 o10 M =>
            lcL_pure _ (fun d hd => by
              refine eq_of ?_
              obtain ⟨z, r, rfl, hz⟩ := (b1 d hd).head
              simp [isIt, hz, keepO]) (by rw [sizeLine_eq]; simp; omega)
          have hlt : j < (bw.filter (isIt "write")).length := by omega
          obtain ⟨wa, ws, ew, wa0, wa1⟩ := (b1 _ (List.mem_filter.mp (List.getElem_mem hlt)).1).write (List.mem_filter.mp (List.getElem_mem hlt)).2
          have eat : atI (bw.filter (isIt "write")) (j : Int) = some (.tup [.str "write", .int wa, ws]) := by rw [atI_nat rfl, List.getElem?_eq_getElem hlt, ew]
          obtain ⟨b, M8, e8, c1, c2, v8, d8⟩ := s13 (Df := Df) (wf := wf) (k := k + 6) S.h13 v7 (m := long) (by omega) (by omega)
          obtain ⟨at_, M9, hat, e9, v9, d9⟩ := s14 (Df := Df) (wf := wf) (k := k + 5) S.h13 S.h14 v8 (ds := [.int wa, .int wa, .int wa, .int b]) (by simp) (by simp)
          have hat : ∃ z : Int, at_ = .int z ∧ 0 ≤ z ∧ z < 24 := by
            simp at hat
            rcases hat with rfl | rfl
            · exact ⟨wa, rfl, wa0, wa1⟩
            · exact ⟨b, rfl, by omega, by omega⟩
          obtain ⟨z, rfl, z0, z1⟩ := hat
          obtain ⟨tw, M10, e10, h10, f10, v10, d10⟩ := s57 (wf := wf) (k := k + 5) S v9 hx.1 hx.2
          simp [e6, e7, lc, keepO_filter, eat, e8, e9, e10, sizeLine_eq]
          refine ⟨⟨by omega, by omega⟩, by omega, by omega, rest, j + 1, rfl, by omega, fun x hx => hs x (by simp [hx]), fun y hy => ?_, ?_, v10, ((((d'.trans d6).trans d7).trans d8).trans d9).trans d10⟩
          rotate_left
          · omega
          rcases hy with hy | hy | rfl
          · exact hls y hy
          · exact .inl (t2 y hy)
          · exact .inr ⟨z, tw, j, rfl, z0, z1, by rw [h10]; exact hx.1, f10, by omega, by omega⟩
      · obtain ⟨ls, o4, o7, o8, o9, o10, rest, j, rfl, hr, hj, hs, hls, hl2, v', d'⟩ := hI
        have c6 : ∀ ds : List D, PyD.cutD ds none (some (6 : Int)) = ds.take 6 := fun ds => by
          unfold PyD.cutD
          rw [HT.sIx_none, List.drop_zero]
          have := HT.sIx_nat ds.length ds.length 6
          rw [show ((6 : Nat) : Int) = 6 from rfl] at this
          rw [this]
          rcases Nat.le_total 6 ds.length with h | h
          · rw [Nat.min_eq_left h]
          · rw [Nat.min_eq_right h, Nat.sub_zero, List.take_of_length_le (Nat.le_refl _), List.take_of_length_le h]
        simp [sizeLine_eq, c6]
        refine ⟨long, bw.take 6, ls.take 6, ⟨rfl, rfl, rfl⟩, g1, g2, by simp; omega, by simp; omega, fun x hx => b1 x (List.mem_of_mem_take hx), fun x hx => hls x (List.mem_of_mem_take hx), ?_⟩
        rw [← d'.len, List.take_length]
        exact d'
end
end PyP

set_option Elab.async false
set_option linter.all false
set_option maxRecDepth 100000
set_option maxHeartbeats 4000000
/-! PyP11: programs: what the law's own looks at values answer (50 to 53). -/
namespace PyP
open PySem hiding Env
open PySem.Spec PyProof.Rows L2 PyD
/-- _law_is_plain -/
def b50 : Def := ⟨2, 3, (.cons (.ife (.or (.not (.isi (.var 1) .tuple)) (.or (.not (.chn .le .le (.con (.int 3)) (.bi .len (.cons (.var 1) .nil)) (.con (.int 4)))) (.not (.isi (.ix (.var 1) (.con (.int 0))) .str)))) (.cons (.ret (.con (.bl false))) .nil) .nil) (.cons (.ife (.or (.cmp .ne (.fr (.lc (.var 2) (.nm 2) (.seq (.sl (.var 1) (.some (.con (.int 1))) .none)) (.some (.not (.call 15 (.cons (.var 2) (.cons (.con (.int 0)) (.cons (.con (.int 24)) .nil)))))) [2])) (.fr (.lst .nil))) (.cmp .eq (.ix (.var 1) (.neg (.con (.int 1)))) (.con (.int 0)))) (.cons (.ret (.con (.bl false))) .nil) .nil) (.cons (.ife (.cmp .eq (.ix (.var 1) (.con (.int 0))) (.con (.str "clear"))) (.cons (.ret (.and (.cmp .eq (.bi .len (.cons (.var 1) .nil)) (.con (.int 3))) (.cmp .le (.op2 .add (.ix (.var 1) (.con (.int 1))) (.ix (.var 1) (.con (.int 2)))) (.var 0)))) .nil) .nil) (.cons (.ife (.cmp .eq (.bi .len (.cons (.var 1) .nil)) (.con (.int 3))) (.cons (.ret (.con (.bl false))) .nil) .nil) (.cons (.ife (.cmp .eq (.ix (.var 1) (.con (.int 0))) (.con (.str "copy"))) (.cons (.ret (.and (.cmp .le (.op2 .add (.ix (.var 1) (.con (.int 1))) (.ix (.var 1) (.con (.int 3)))) (.var 0)) (.cmp .le (.op2 .add (.ix (.var 1) (.con (.int 2))) (.ix (.var 1) (.con (.int 3)))) (.var 0)))) .nil) .nil) (.cons (.ret (.and (.cmp .eq (.ix (.var 1) (.con (.int 0))) (.con (.str "swap"))) (.and (.cmp .mem (.ix (.var 1) (.con (.int 2))) (.tup (.cons (.con (.int 2)) (.cons (.con (.int 4)) (.cons (.con (.int 8)) .nil))))) (.cmp .le (.op2 .add (.ix (.var 1) (.con (.int 1))) (.op2 .mul (.ix (.var 1) (.con (.int 2))) (.ix (.var 1) (.con (.int 3))))) (.var 0))))) .nil)))))), ["long", "value"]⟩
/-- _law_is_step -/
def b51 : Def := ⟨2, 4, (.cons (.ife (.and (.isi (.var 1) .tuple) (.and (.cmp .eq (.bi .len (.cons (.var 1) .nil)) (.con (.int 3))) (.isi (.ix (.var 1) (.con (.int 2))) .tuple))) (.cons (.ife (.or (.cmp .ne (.ix (.var 1) (.con (.int 0))) (.con (.str "again"))) (.or (.not (.isi (.ix (.var 1) (.con (.int 0))) .str)) (.not (.call 15 (.cons (.ix (.var 1) (.con (.int 1))) (.cons (.con (.int 1)) (.cons (.op2 .pow (.con (.int 10)) (.con (.int 30))) .nil))))))) (.cons (.ret (.con (.bl false))) .nil) .nil) (.cons (.asg (.nm 2) (.fr (.lc (.var 3) (.nm 3) (.seq (.ix (.var 1) (.con (.int 2)))) (.some (.not (.call 50 (.cons (.var 0) (.cons (.var 3) .nil))))) [3]))) (.cons (.ret (.and (.chn .le .le (.con (.int 1)) (.bi .len (.cons (.ix (.var 1) (.con (.int 2))) .nil)) (.con (.int 3))) (.cmp .eq (.var 2) (.fr (.lst .nil))))) .nil))) .nil) (.cons (.ret (.call 50 (.cons (.var 0) (.cons (.var 1) .nil)))) .nil)), ["long", "value"]⟩
/-- _law_is_laid -/
def b52 : Def := ⟨3, 4, (.cons (.asg (.nm 3) (.ife (.cmp .eq (.var 1) (.con (.str "write"))) (.con (.int 3)) (.con (.int 4)))) (.cons (.ife (.or (.not (.isi (.var 2) .tuple)) (.or (.cmp .ne (.bi .len (.cons (.var 2) .nil)) (.var 3)) (.not (.isi (.ix (.var 2) (.con (.int 0))) .str)))) (.cons (.ret (.con (.bl false))) .nil) .nil) (.cons (.ret (.and (.cmp .eq (.ix (.var 2) (.con (.int 0))) (.var 1)) (.and (.call 15 (.cons (.ix (.var 2) (.con (.int 1))) (.cons (.con (.int 0)) (.cons (.op2 .sub (.var 0) (.con (.int 1))) .nil)))) (.isnn (.call 21 (.cons (.ix (.var 2) (.con (.int 2))) .nil)))))) .nil))), ["long", "word", "value"]⟩
/-- _law_is_program -/
def b53 : Def := ⟨1, 8, (.cons (.ife (.or (.not (.isi (.var 0) .tuple)) (.or (.cmp .ne (.bi .len (.cons (.var 0) .nil)) (.con (.int 3))) (.not (.call 15 (.cons (.ix (.var 0) (.con (.int 0))) (.cons (.con (.int 1)) (.cons (.con (.int 24)) .nil))))))) (.cons (.ret (.con (.bl false))) .nil) .nil) (.cons (.par [1, 2] (.cons (.ix (.var 0) (.con (.int 0))) (.cons (.fr (.lst .nil)) .nil))) (.cons (.fr (.tp [3, 4]) (.seq (.fr (.lst (.cons (.tup (.cons (.con (.str "write")) (.cons (.ix (.var 0) (.con (.int 1))) .nil))) (.cons (.tup (.cons (.con (.str "look")) (.cons (.ix (.var 0) (.con (.int 2))) .nil))) .nil))))) (.cons (.ife (.or (.not (.isi (.var 4) .tuple)) (.cmp .gt (.bi .len (.cons (.var 4) .nil)) (.con (.int 6)))) (.cons (.ret (.con (.bl false))) .nil) .nil) (.cons (.asg (.nm 5) (.fr (.lc (.var 6) (.nm 6) (.seq (.var 4)) (.some (.call 52 (.cons (.var 1) (.cons (.var 3) (.cons (.var 6) .nil))))) [6]))) (.cons (.asg (.nm 7) (.fr (.lc (.var 6) (.nm 6) (.seq (.var 4)) (.some (.not (.call 52 (.cons (.var 1) (.cons (.var 3) (.cons (.var 6) .nil)))))) [6]))) (.cons (.ife (.or (.cmp .gt (.bi .len (.cons (.var 5) .nil)) (.con (.int 3))) (.cmp .ne (.fr (.lc (.var 6) (.nm 6) (.seq (.var 7)) (.some (.not (.call 51 (.cons (.var 1) (.cons (.var 6) .nil))))) [6])) (.fr (.lst .nil)))) (.cons (.ret (.con (.bl false))) .nil) .nil) (.cons (.ife (.cmp .eq (.var 3) (.con (.str "write"))) (.cons (.asg (.nm 2) (.fr (.lc (.call 21 (.cons (.ix (.var 6) (.con (.int 2))) .nil)) (.nm 6) (.seq (.var 5)) .none [6]))) .nil) (.cons (.ife (.cmp .ne (.fr (.lc (.var 6) (.nm 6) (.seq (.var 5)) (.some (.not (.call 15 (.cons (.ix (.var 6) (.con (.int 3))) (.cons (.con (.int 0)) (.cons (.op2 .sub (.bi .len (.cons (.var 2) .nil)) (.con (.int 1))) .nil)))))) [6])) (.fr (.lst .nil))) (.cons (.ret (.con (.bl false))) .nil) (.cons (.ife (.cmp .ne (.fr (.lc (.var 6) (.nm 6) (.seq (.var 5)) (.some (.cmp .ne (.ix (.var 2) (.ix (.var 6) (.con (.int 3)))) (.call 21 (.cons (.ix (.var 6) (.con (.int 2))) .nil)))) [6])) (.fr (.lst .nil))) (.cons (.ret (.con (.bl false))) .nil) .nil) .nil)) .nil)) .nil)))))) (.cons (.ret (.con (.bl true))) .nil)))), ["value"]⟩
section
variable {Df : Nat → Option Def} {wf k : Nat} {M : Ms} {L n : Nat} {long : Int}
theorem whole_int {v : D} {lo hi : Int} (h : isWhole v lo hi = true) : ∃ i, v = .int i ∧ lo ≤ i ∧ i ≤ hi := by
  cases v with
  | int i =>
    obtain ⟨h1, h2⟩ := He.ba (show (decide (lo ≤ i) && decide (i ≤ hi)) = true from h)
    exact ⟨i, rfl, of_decide_eq_true h1, of_decide_eq_true h2⟩
  | _ => cases h
theorem whole_no {v : D} {lo hi lo' hi' : Int} (h : ¬ isWhole v lo hi = true) (h1 : lo ≤ lo') (h2 : hi' ≤ hi) : isWhole v lo' hi' = false := by
  refine Bool.eq_false_iff.mpr fun e => h ?_
  obtain ⟨i, rfl, q1, q2⟩ := whole_int e
  show (decide (lo ≤ i) && decide (i ≤ hi)) = true
  rw [decide_eq_true (by omega), decide_eq_true (by omega)]
  rfl
theorem inB_eq {a i b : Int} : inB a i b = (decide (a ≤ i) && decide (i ≤ b)) := rfl
theorem plain3_no {z : PySem.Str} {x c : D} (l2 : long ≤ 24) (h : ¬ (isWhole x 0 24 = true ∧ isWhole c 0 24 = true)) : plainB long (.tup [.str z, x, c]) = false := by
  cases x with
  | int i =>
    refine Bool.eq_false_iff.mpr fun e => ?_
    obtain ⟨_, e⟩ := He.ba (show ((z == "clear") && (inB 0 i long && isWhole c 1 (long - i))) = true from e)
    obtain ⟨e1, e2⟩ := He.ba e
    obtain ⟨e3, e4⟩ := He.ba e1
    have e3 := of_decide_eq_true e3
    have e4 := of_decide_eq_true e4
    obtain ⟨j, rfl, j1, j2⟩ := whole_int e2
    refine h ⟨?_, ?_⟩
    · show (decide (0 ≤ i) && decide (i ≤ 24)) = true
      rw [decide_eq_true (by omega), decide_eq_true (by omega)]; rfl
    · show (decide (0 ≤ j) && decide (j ≤ 24)) = true
      rw [decide_eq_true (by omega), decide_eq_true (by omega)]; rfl
  | _ => rfl
theorem isWhole_tt {i lo hi : Int} (h1 : lo ≤ i) (h2 : i ≤ hi) : isWhole (.int i) lo hi = true := by
  show (decide (lo ≤ i) && decide (i ≤ hi)) = true
  rw [decide_eq_true h1, decide_eq_true h2]; rfl
theorem fdiv_bound {a b c : Int} (hb : 0 < b) (h : c ≤ a / b) : b * c ≤ a := by
  have h1 : b * c ≤ b * (a / b) := Int.mul_le_mul_of_nonneg_left h (by omega)
  have h2 := Int.mul_ediv_self_le (x := a) (k := b) (by omega)
  omega
theorem plain4_no {z : PySem.Str} {x y c : D} (l1 : 1 ≤ long) (l2 : long ≤ 24) (h : ¬ (isWhole x 0 24 = true ∧ isWhole y 0 24 = true ∧ isWhole c 0 24 = true)) : plainB long (.tup [.str z, x, y, c]) = false := by
  cases x with
  | int i =>
    refine Bool.eq_false_iff.mpr fun e => ?_
    cases y with
    | int j =>
      obtain ⟨e1, e⟩ := He.ba (show (inB 0 i long && ((z == "copy" && (inB 0 j long && isWhole c 1 (long - max i j))) || (z == "swap" && ((j == 2 || (j == 4 || j == 8)) && isWhole c 1 ((long - i) / j))))) = true from e)
      obtain ⟨e3, e4⟩ := He.ba e1
      have e3 := of_decide_eq_true e3
      have e4 := of_decide_eq_true e4
      rcases Bool.or_eq_true_iff.mp e with q | q
      · obtain ⟨_, q⟩ := He.ba q
        obtain ⟨q1, q2⟩ := He.ba q
        obtain ⟨q3, q4⟩ := He.ba q1
        have q3 := of_decide_eq_true q3
        have q4 := of_decide_eq_true q4
        obtain ⟨u, rfl, j1, j2⟩ := whole_int q2
        exact h ⟨isWhole_tt (by omega) (by omega), isWhole_tt (by omega) (by omega), isWhole_tt (by omega) (by omega)⟩
      · obtain ⟨_, q⟩ := He.ba q
        obtain ⟨q1, q2⟩ := He.ba q
        obtain ⟨u, rfl, j1, j2⟩ := whole_int q2
        have hj : j = 2 ∨ j = 4 ∨ j = 8 := by
          rcases Bool.or_eq_true_iff.mp q1 with q | q
          · exact .inl (eq_of_beq q)
          · rcases Bool.or_eq_true_iff.mp q with q | q
            · exact .inr (.inl (eq_of_beq q))
            · exact .inr (.inr (eq_of_beq q))
        have := fdiv_bound (by omega) j2
        refine h ⟨isWhole_tt (by omega) (by omega), isWhole_tt (by omega) (by omega), isWhole_tt (by omega) ?_⟩
        rcases hj with rfl | rfl | rfl <;> omega
    | _ =>
      obtain ⟨_, e⟩ := He.ba (show (inB 0 i long && ((z == "copy" && false) || (z == "swap" && false))) = true from e)
      simp at e
  | _ => rfl
theorem s50 (H15 : Df 15 = some b15) (H : Df 50 = some b50) (l1 : 1 ≤ long) (l2 : long ≤ 24) {v : D} (hv : Fi L n v) (hn : n ≤ 60) (hL : L ≤ 100) : callD Df wf (k + 2) 50 [.d (.int long), .d v] M = .ok (.d (.bl (plainB long v)), M) := by
  refine eq_of ?_
  rw [w_callD H rfl]
  cases hv with
  | @tup m ds hl hm =>
    have lc : ∀ (ws : List D) (o : Option W), (∀ x ∈ ws, x ∈ ds) → ws.length ≤ 200 → lcL (lcE (callD Df wf (k + 1)) (.var 2) (.nm 2) (.some (.not (.call 15 (.cons (.var 2) (.cons (.con (.int 0)) (.cons (.con (.int 24)) .nil)))))) [2] [some (.d (.int long)), some (.d (.tup ds)), o]) ws [] M = .ok ([] ++ ws.filterMap (badO fun w => isWhole w 0 24), M) := fun ws o hw hwl =>
      lcL_pure _ (fun d hd => by
        refine eq_of ?_
        simp [s15 H15 (hm d (hw d hd)), badO]) (by rw [sizeLine_eq]; simp; omega)
    by_cases h3 : ds.length = 3
    · match ds, h3 with
      | [a, x, c], _ =>
      have ha := hm a (by simp)
      have hx := hm x (by simp)
      have hc := hm c (by simp)
      have lc' := fun o => lc [x, c] o (by simp) (by simp)
      have cu : PyD.cutD [a, x, c] (some 1) none = [x, c] := cut_drop (j := 1) (by simp)
      have la : atI [a, x, c] (-1) = some c := rfl
      have sh := bad_sh (L := L) (n := m) (ds := [x, c]) (p := fun w => isWhole w 0 24) (by simp; exact ⟨hx, hc⟩) (by simp; omega) (by omega)
      cases ha with
      | @str _ z hz hzl =>
        have hsz : (D.str z).sh = true := sh_str (asc_ok hz)
        by_cases hw : isWhole x 0 24 = true ∧ isWhole c 0 24 = true
        · obtain ⟨i, rfl, i1, i2⟩ := whole_int hw.1
          obtain ⟨j, rfl, j1, j2⟩ := whole_int hw.2
          have hemp : ([D.int i, .int j].filterMap (badO fun w => isWhole w 0 24)).isEmpty = true := by rw [badO_all]; simp [hw]
          simp [b50, startD, sizeLine_eq, cu, lc', cmp_ne sh sh_nil, hemp, la, hsz, plainB, isWhole_int, inB_eq]
          by_cases zc : z = "clear"
          · subst zc
            simp
            split
            · intros; omega
            · rw [Bool.eq_iff_iff]; simp only [Bool.and_eq_true, decide_eq_true_eq]; omega
          · simp [zc]
        · have hemp : ([x, c].filterMap (badO fun w => isWhole w 0 24)).isEmpty = false := by rw [badO_all]; simpa using hw
          rw [plain3_no l2 hw]
          simp [b50, startD, sizeLine_eq, cu, lc', cmp_ne sh sh_nil, hemp]
      | _ => simp [b50, startD, sizeLine_eq, plainB]
    · by_cases h4 : ds.length = 4
      · match ds, h4 with
        | [a, x, y, c], _ =>
        have ha := hm a (by simp)
        have hx := hm x (by simp)
        have hy := hm y (by simp)
        have hc := hm c (by simp)
        have lc' := fun o => lc [x, y, c] o (by simp) (by simp)
        have cu : PyD.cutD [a, x, y, c] (some 1) none = [x, y, c] := cut_drop (j := 1) (by simp)
        have la : atI [a, x, y, c] (-1) = some c := rfl
        have sh := bad_sh (L := L) (n := m) (ds := [x, y, c]) (p := fun w => isWhole w 0 24) (by simp; exact ⟨hx, hy, hc⟩) (by simp; omega) (by omega)
        cases ha with
        | @str _ z hz hzl =>
          have hsz : (D.str z).sh = true := sh_str (asc_ok hz)
          by_cases hw : isWhole x 0 24 = true ∧ isWhole y 0 24 = true ∧ isWhole c 0 24 = true
          · obtain ⟨i, rfl, i1, i2⟩ := whole_int hw.1
            obtain ⟨u, rfl, u1, u2⟩ := whole_int hw.2.1
            obtain ⟨j, rfl, j1, j2⟩ := whole_int hw.2.2
            have hemp : ([D.int i, .int u, .int j].filterMap (badO fun w => isWhole w 0 24)).isEmpty = true := by rw [badO_all]; simp [hw]
            by_cases zc : z = "clear"
            · subst zc
              simp [b50, startD, sizeLine_eq, cu, lc', cmp_ne sh sh_nil, hemp, la, hsz, plainB, isWhole_int, inB_eq]
            · by_cases zo : z = "copy"
              · subst zo
                simp [b50, startD, sizeLine_eq, cu, lc', cmp_ne sh sh_nil, hemp, la, hsz, plainB, isWhole_int, inB_eq]
                have em : max i u = if u > i then u else i := by split <;> omega
                rw [em]
                split
                · intros; split <;> omega
                · split
                  · rw [Bool.eq_iff_iff]; simp only [Bool.and_eq_true, decide_eq_true_eq]; split <;> omega
                  · intros; split <;> omega
              · by_cases zs : z = "swap"
                · subst zs
                  simp [b50, startD, sizeLine_eq, cu, lc', cmp_ne sh sh_nil, hemp, la, hsz, plainB, isWhole_int, inB_eq, mulOk]
                  by_cases hj : u = 2 ∨ u = 4 ∨ u = 8
                  · have e2 : 2 = u ∨ 4 = u ∨ 8 = u := by omega
                    rw [if_pos e2]
                    split
                    · intros; rcases hj with rfl | rfl | rfl <;> omega
                    · refine ⟨.inl ⟨by omega, by omega⟩, ?_⟩
                      rw [Bool.eq_iff_iff]; simp only [Bool.and_eq_true, Bool.or_eq_true, decide_eq_true_eq, beq_iff_eq]
                      rcases hj with rfl | rfl | rfl <;> omega
                  · have e2 : ¬ (2 = u ∨ 4 = u ∨ 8 = u) := by omega
                    rw [if_neg e2]
                    split
                    · intros; contradiction
                    · intros; contradiction
                · simp [b50, startD, sizeLine_eq, cu, lc', cmp_ne sh sh_nil, hemp, la, hsz, plainB, isWhole_int, inB_eq, zc, zo, zs]
          · have hemp : ([x, y, c].filterMap (badO fun w => isWhole w 0 24)).isEmpty = false := by rw [badO_all]; simpa using hw
            rw [plain4_no l1 l2 hw]
            simp [b50, startD, sizeLine_eq, cu, lc', cmp_ne sh sh_nil, hemp]
        | _ => simp [b50, startD, sizeLine_eq, plainB]
      · rw [plainB_ne h3 h4]
        by_cases hh : 3 ≤ (ds.length : Int)
        · have h5 : ¬ ((ds.length : Int) ≤ 4) := by omega
          simp [b50, startD, sizeLine_eq, hh, h5]
        · simp [b50, startD, sizeLine_eq, hh]
  | _ => simp [b50, startD, plainB]
theorem plain_again {r : List D} : plainB long (.tup (.str "again" :: r)) = false := by
  have e1 : (("again" : PySem.Str) == "clear") = false := by decide +kernel
  have e2 : (("again" : PySem.Str) == "copy") = false := by decide +kernel
  have e3 : (("again" : PySem.Str) == "swap") = false := by decide +kernel
  unfold plainB
  split
  · rename_i e; cases e; rw [e1]; rfl
  · rename_i e; cases e; rw [e2, e3]; simp
  · rfl
theorem step_plain {h : D} {r : List D} (hr : againB long r = false) : stepB long (.tup (h :: r)) = plainB long (.tup (h :: r)) := by
  show (if h.eqv (.str "again") = true then againB long r else plainB long (.tup (h :: r))) = _
  split
  · rename_i e
    rw [eqv_again e, hr, plain_again]
  · rfl
theorem step_plain3 {h t s : D} (hs : ∀ ws, s ≠ .tup ws) : stepB long (.tup [h, t, s]) = plainB long (.tup [h, t, s]) := by
  refine step_plain ?_
  unfold againB
  split
  · rename_i e; cases e; exact absurd rfl (hs _)
  · rfl
theorem plain3_tup {h t : D} {ws : List D} : plainB long (.tup [h, t, .tup ws]) = false := by
  unfold plainB
  split
  · rename_i e; cases e; simp [isWhole]
  · rename_i e; cases e
  · rfl
theorem s51 (H15 : Df 15 = some b15) (H50 : Df 50 = some b50) (H : Df 51 = some b51) (l1 : 1 ≤ long) (l2 : long ≤ 24) {v : D} (hv : Fi L n v) (hn : n ≤ 60) (hL : L ≤ 100) : callD Df wf (k + 3) 51 [.d (.int long), .d v] M = .ok (.d (.bl (stepB long v)), M) := by
  have e50 : ∀ {v : D} {n : Nat} {M : Ms}, Fi L n v → n ≤ 60 → callD Df wf (k + 2) 50 [.d (.int long), .d v] M = .ok (.d (.bl (plainB long v)), M) := fun h hn => s50 H15 H50 l1 l2 h hn hL
  have e50v := fun M => e50 (M := M) hv hn
  refine eq_of ?_
  rw [w_callD H rfl]
  cases hv with
  | @tup m ds hl hm =>
    by_cases h3 : ds.length = 3
    · match ds, h3 with
      | [h, t, s], _ =>
      have hh := hm h (by simp)
      have ht := hm t (by simp)
      have hs := hm s (by simp)
      cases hs with
      | @tup m' ws hwl hwm =>
        have hag : D.sh (.str "again") = true := by simp
        by_cases hb : h.eqv (.str "again") = true
        · have := eqv_again hb
          subst this
          have lc : ∀ o2 o3, lcL (lcE (callD Df wf (k + 2)) (.var 3) (.nm 3) (.some (.not (.call 50 (.cons (.var 0) (.cons (.var 3) .nil))))) [3] [some (.d (.int long)), some (.d (.tup [.str "again", t, .tup ws])), o2, o3]) ws [] M = .ok ([] ++ ws.filterMap (badO (plainB long)), M) := fun o2 o3 =>
            lcL_pure _ (fun d hd => by
              refine eq_of ?_
              simp [e50 (hwm d hd) (by omega), badO]) (by rw [sizeLine_eq]; simp; omega)
          have sh := bad_sh (p := plainB long) hwm hwl (by omega)
          simp [b51, startD, stepB, againB, sizeLine_eq, pw30, s15 H15 ht, lc, badO_all, cmp_eq sh sh_nil, TIMES]
          (repeat' split) <;> simp_all <;> first | (intros; omega) | grind
        · have e : stepB long (.tup [h, t, .tup ws]) = false := by
            show (if h.eqv (.str "again") = true then againB long [t, .tup ws] else plainB long (.tup [h, t, .tup ws])) = _
            rw [if_neg hb, plain3_tup]
          have hhs := hh.sh (by omega)
          simp [b51, startD, sizeLine_eq, cmp_ne hhs hag, hb, e]
      | _ =>
        rw [step_plain3 (by intro ws e; cases e)]
        simp [b51, startD, sizeLine_eq, e50v]
    · have e : stepB long (.tup ds) = plainB long (.tup ds) := by
        cases ds with
        | nil => rfl
        | cons h r =>
          refine step_plain ?_
          unfold againB
          split
          · exact absurd rfl h3
          · rfl
      have h3' : ¬ ((ds.length : Int) = 3) := by omega
      simp [b51, startD, sizeLine_eq, e50v, h3', e]
  | _ => simp [b51, startD, e50v, stepB, plainB]

end
end PyP

set_option Elab.async false
set_option linter.all false
set_option maxRecDepth 100000
set_option maxHeartbeats 4000000
/-! PyP12: programs: what the law's own looks at values answer (52, 53). -/
namespace PyP
open PySem hiding Env
open PySem.Spec PyProof.Rows L2 PyD
section
variable {Df : Nat → Option Def} {wf k : Nat} {M : Ms} {L n : Nat} {long : Int}
/-- a write or a look by the law -/
def laidB (long : Int) (w : PySem.Str) (v : D) : Bool := if w = "write" then writeB long v else lookB long v
theorem laid_w {v : D} : laidB long "write" v = writeB long v := if_pos rfl
theorem laid_l {v : D} : laidB long "look" v = lookB long v := if_neg (by decide +kernel)
theorem writeB3 {w a s : D} : writeB long (.tup [w, a, s]) = (isWord w [.str "write"] && (isWhole a 0 (long - 1) && (shapeW s).isSome)) := rfl
theorem lookB4 {w a s j : D} : lookB long (.tup [w, a, s, j]) = (isWord w [.str "look"] && (isWhole a 0 (long - 1) && (shapeW s).isSome)) := rfl
theorem isWord_ne {z y : PySem.Str} (h : ¬ z = y) : isWord (.str z) [.str y] = false := by
  show ([D.str y].any fun d => d.eqv (.str z)) = false
  rw [List.any_cons, List.any_nil, Bool.or_false, eqv_str]
  exact Bool.eq_false_iff.mpr fun e => h (eq_of_beq e).symm
theorem isWord_self {y : PySem.Str} : isWord (.str y) [.str y] = true := by
  show ([D.str y].any fun d => d.eqv (.str y)) = true
  rw [List.any_cons, List.any_nil, Bool.or_false, eqv_str]
  exact beq_self_eq_true y
theorem writeB_len {ds : List D} (h3 : ¬ ds.length = 3) : writeB long (.tup ds) = false := by
  unfold writeB
  split
  · rename_i e; cases e; exact absurd rfl h3
  · rfl
theorem lookB_len {ds : List D} (h4 : ¬ ds.length = 4) : lookB long (.tup ds) = false := by
  unfold lookB
  split
  · rename_i e; cases e; exact absurd rfl h4
  · rfl
theorem s52w (H15 : Df 15 = some b15) (H20 : Df 20 = some b20) (H21 : Df 21 = some b21) (H : Df 52 = some b52) {v : D} (hv : Fi L n v) (hn : n ≤ 60) (hL : L ≤ 100) : callD Df wf (k + 8) 52 [.d (.int long), .d (.str "write"), .d v] M = .ok (.d (.bl (writeB long v)), M) := by
  have e21 : ∀ {v : D} {n : Nat} {M : Ms}, Fi L n v → n ≤ 60 → callD Df wf (k + 7) 21 [.d v] M = .ok (.d (optD (shapeW v)), M) := fun h hn => s21 (k := k + 1) H15 H20 H21 h hn hL
  refine eq_of ?_
  rw [w_callD H rfl]
  cases hv with
  | @tup m ds hl hm =>
      by_cases h3 : ds.length = 3
      · match ds, h3 with
        | [a, x, c], _ =>
        have ha := hm a (by simp)
        have hx := hm x (by simp)
        have hc := hm c (by simp)
        rw [writeB3]
        cases ha with
        | @str _ z hz hzl =>
          have hsz : (D.str z).sh = true := sh_str (asc_ok hz)
          by_cases zw : z = "write"
          · subst zw
            rw [isWord_self]
            simp [b52, startD, s15 H15 hx, e21 hc (by omega)]
            split <;> simp_all
          · rw [isWord_ne zw]
            simp [b52, startD, hsz, zw]
        | _ => simp [b52, startD]; intro h; cases h
      · have h3' : ¬ ((ds.length : Int) = 3) := by omega
        simp [b52, startD, h3', writeB_len h3]
  | _ => simp [b52, startD]; rfl
theorem s52l (H15 : Df 15 = some b15) (H20 : Df 20 = some b20) (H21 : Df 21 = some b21) (H : Df 52 = some b52) {v : D} (hv : Fi L n v) (hn : n ≤ 60) (hL : L ≤ 100) : callD Df wf (k + 8) 52 [.d (.int long), .d (.str "look"), .d v] M = .ok (.d (.bl (lookB long v)), M) := by
  have e21 : ∀ {v : D} {n : Nat} {M : Ms}, Fi L n v → n ≤ 60 → callD Df wf (k + 7) 21 [.d v] M = .ok (.d (optD (shapeW v)), M) := fun h hn => s21 (k := k + 1) H15 H20 H21 h hn hL
  refine eq_of ?_
  rw [w_callD H rfl]
  cases hv with
  | @tup m ds hl hm =>
      by_cases h4 : ds.length = 4
      · match ds, h4 with
        | [a, x, c, y], _ =>
        have ha := hm a (by simp)
        have hx := hm x (by simp)
        have hc := hm c (by simp)
        rw [lookB4]
        cases ha with
        | @str _ z hz hzl =>
          have hsz : (D.str z).sh = true := sh_str (asc_ok hz)
          by_cases zw : z = "look"
          · subst zw
            rw [isWord_self]
            simp [b52, startD, s15 H15 hx, e21 hc (by omega)]
            split <;> simp_all
          · rw [isWord_ne zw]
            simp [b52, startD, hsz, zw]
        | _ => simp [b52, startD]; intro h; cases h
      · have h4' : ¬ ((ds.length : Int) = 4) := by omega
        simp [b52, startD, h4', lookB_len h4]
  | _ => simp [b52, startD]; rfl
/-! ### whole programs by the law -/
theorem filt_write {bs : List D} (h : (bs.all fun x => stepB long x || writeB long x) = true) : bs.filter (writeB long) = bs.filter (isIt "write") := by
  refine List.filter_congr fun x hx => ?_
  have h := List.all_eq_true.mp h x hx
  rw [Bool.eq_iff_iff]
  refine ⟨fun e => ?_, (it_write h).1⟩
  obtain ⟨a, s, rfl, _⟩ := write_form e
  simp [isIt]
theorem filt_look {bs : List D} (h : (bs.all fun x => stepB long x || lookB long x) = true) : bs.filter (lookB long) = bs.filter (isIt "look") := by
  refine List.filter_congr fun x hx => ?_
  have h := List.all_eq_true.mp h x hx
  rw [Bool.eq_iff_iff]
  refine ⟨fun e => ?_, (it_look h).1⟩
  obtain ⟨a, s, j, rfl, _⟩ := look_form e
  simp [isIt]
theorem bad_or {p q : D → Bool} : ∀ {ds : List D}, ((ds.filterMap (badO q)).all p) = ds.all fun x => p x || q x
  | [] => rfl
  | d :: ds => by
    rw [List.filterMap_cons, List.all_cons, ← bad_or (ds := ds)]
    unfold badO
    cases q d with
    | true => simp
    | false => simp
theorem bad_mem {q : D → Bool} {ds : List D} {x : D} (h : x ∈ ds.filterMap (badO q)) : x ∈ ds := by
  obtain ⟨y, hy, e⟩ := List.mem_filterMap.mp h
  unfold badO at e
  split at e
  · cases e
  · cases e; exact hy
theorem bad_len {q : D → Bool} {ds : List D} : (ds.filterMap (badO q)).length ≤ ds.length := List.length_filterMap_le _ _
/-- the third of an item, as widths -/
def wid2 (x : D) : D := match x with
  | .tup (_ :: _ :: s :: _) => optD (shapeW s)
  | _ => .non
def wholeB (ws : List D) (x : D) : Bool := match x with
  | .tup (_ :: _ :: _ :: j :: _) => isWhole j 0 ((ws.length : Int) - 1)
  | _ => false
theorem means_whole {ws : List D} {x : D} (h : meansB ws x = true) : wholeB ws x = true := by
  unfold meansB at h
  split at h
  · exact (He.ba h).1
  · cases h
structure HasQ (Df : Nat → Option Def) : Prop where
  h15 : Df 15 = some b15
  h20 : Df 20 = some b20
  h21 : Df 21 = some b21
  h50 : Df 50 = some b50
  h51 : Df 51 = some b51
  h52 : Df 52 = some b52
  h53 : Df 53 = some b53
theorem s53 (S : HasQ Df) {v : D} (hv : Fi L n v) (hn : n ≤ 60) (hL : L ≤ 100) : callD Df wf (k + 10) 53 [.d v] M = .ok (.d (.bl (progB v)), M) := by
  have e21 : ∀ {v : D} {n : Nat} {M : Ms}, Fi L n v → n ≤ 60 → callD Df wf (k + 9) 21 [.d v] M = .ok (.d (optD (shapeW v)), M) := fun h hn => s21 (k := k + 3) S.h15 S.h20 S.h21 h hn hL
  refine eq_of ?_
  rw [w_callD S.h53 rfl]
  cases hv with
  | @tup m ds hl hm =>
    by_cases h3 : ds.length = 3
    · match ds, h3 with
      | [l, x, y], _ =>
      have hl' := hm l (by simp)
      have hx := hm x (by simp)
      have hy := hm y (by simp)
      have e0 : ∀ lo hi M, callD Df wf (k + 9) 15 [.d l, .d (.int lo), .d (.int hi)] M = .ok (.d (.bl (isWhole l lo hi)), M) := fun lo hi M => s15 S.h15 hl'
      cases hl' with
      | @int _ long hlong =>
        by_cases hb : inB 1 long 24 = true
        · obtain ⟨l1, l2⟩ := He.ba (show (decide (1 ≤ long) && decide (long ≤ 24)) = true from hb)
          have l1 := of_decide_eq_true l1
          have l2 := of_decide_eq_true l2
          have e51 : ∀ {v : D} {n : Nat} {M : Ms}, Fi L n v → n ≤ 60 → callD Df wf (k + 9) 51 [.d (.int long), .d v] M = .ok (.d (.bl (stepB long v)), M) := fun h hn => s51 (k := k + 6) S.h15 S.h50 S.h51 l1 l2 h hn hL
          have e52w : ∀ {v : D} {n : Nat} {M : Ms}, Fi L n v → n ≤ 60 → callD Df wf (k + 9) 52 [.d (.int long), .d (.str "write"), .d v] M = .ok (.d (.bl (writeB long v)), M) := fun h hn => s52w (k := k + 1) S.h15 S.h20 S.h21 S.h52 h hn hL
          have e52l : ∀ {v : D} {n : Nat} {M : Ms}, Fi L n v → n ≤ 60 → callD Df wf (k + 9) 52 [.d (.int long), .d (.str "look"), .d v] M = .ok (.d (.bl (lookB long v)), M) := fun h hn => s52l (k := k + 1) S.h15 S.h20 S.h21 S.h52 h hn hL
          have lc5 : ∀ {w : PySem.Str} {pB : D → Bool} {ws : List D} {m : Nat} (ew : ∀ {v : D} {n : Nat} {M : Ms}, Fi L n v → n ≤ 60 → callD Df wf (k + 9) 52 [.d (.int long), .d (.str w), .d v] M = .ok (.d (.bl (pB v)), M)) (hw : ∀ d ∈ ws, Fi L m d) (hm : m ≤ 60) (hl : ws.length ≤ 200) (o0 o2 o4 o5 o6 o7 : Option W),
              lcL (lcE (callD Df wf (k + 9)) (.var 6) (.nm 6) (.some (.call 52 (.cons (.var 1) (.cons (.var 3) (.cons (.var 6) .nil))))) [6] [o0, some (.d (.int long)), o2, some (.d (.str w)), o4, o5, o6, o7]) ws [] M = .ok ([] ++ ws.filterMap (keepO pB), M) := fun ew hw hm hl o0 o2 o4 o5 o6 o7 =>
            lcL_pure _ (fun d hd => by
              refine eq_of ?_
              have := ew (M := M) (hw d hd) hm
              simp [this, keepO]) (by rw [sizeLine_eq]; simp; omega)
          have lc7 : ∀ {w : PySem.Str} {pB : D → Bool} {ws : List D} {m : Nat} (ew : ∀ {v : D} {n : Nat} {M : Ms}, Fi L n v → n ≤ 60 → callD Df wf (k + 9) 52 [.d (.int long), .d (.str w), .d v] M = .ok (.d (.bl (pB v)), M)) (hw : ∀ d ∈ ws, Fi L m d) (hm : m ≤ 60) (hl : ws.length ≤ 200) (o0 o2 o4 o5 o6 o7 : Option W),
              lcL (lcE (callD Df wf (k + 9)) (.var 6) (.nm 6) (.some (.not (.call 52 (.cons (.var 1) (.cons (.var 3) (.cons (.var 6) .nil)))))) [6] [o0, some (.d (.int long)), o2, some (.d (.str w)), o4, o5, o6, o7]) ws [] M = .ok ([] ++ ws.filterMap (badO pB), M) := fun ew hw hm hl o0 o2 o4 o5 o6 o7 =>
            lcL_pure _ (fun d hd => by
              refine eq_of ?_
              have := ew (M := M) (hw d hd) hm
              simp [this, badO]) (by rw [sizeLine_eq]; simp; omega)
          have lc8 : ∀ {ws : List D} {m : Nat} (hw : ∀ d ∈ ws, Fi L m d) (hm : m ≤ 60) (hl : ws.length ≤ 200) (o0 o2 o3 o4 o5 o6 o7 : Option W),
              lcL (lcE (callD Df wf (k + 9)) (.var 6) (.nm 6) (.some (.not (.call 51 (.cons (.var 1) (.cons (.var 6) .nil))))) [6] [o0, some (.d (.int long)), o2, o3, o4, o5, o6, o7]) ws [] M = .ok ([] ++ ws.filterMap (badO (stepB long)), M) := fun hw hm hl o0 o2 o3 o4 o5 o6 o7 =>
            lcL_pure _ (fun d hd => by
              refine eq_of ?_
              have := e51 (M := M) (hw d hd) hm
              simp [this, badO]) (by rw [sizeLine_eq]; simp; omega)
          cases hx with
          | @tup m1 bs hbl hbm =>
            by_cases c1 : (bs.length : Int) ≤ 6
            · have c1' : ¬ (6 < (bs.length : Int)) := by omega
              have w5 := lc5 e52w hbm (by omega) (by omega)
              have w7 := lc7 e52w hbm (by omega) (by omega)
              have w8 := lc8 (ws := bs.filterMap (badO (writeB long))) (fun d hd => hbm d (bad_mem hd)) (by omega) (Nat.le_trans bad_len (by omega))
              have shw := bad_sh (p := stepB long) (ds := bs.filterMap (badO (writeB long))) (fun d hd => hbm d (bad_mem hd)) (Nat.le_trans bad_len hbl) (by omega)
              have kl1 := List.length_filter_le (writeB long) bs
              by_cases c3 : (bs.all fun x => stepB long x || writeB long x) = true
              · have c3' : ((bs.filterMap (badO (writeB long))).filterMap (badO (stepB long))).isEmpty = true := by rw [badO_all, bad_or]; exact c3
                by_cases c5 : ((bs.filter (isIt "write")).length : Int) ≤ 3
                · have c5' : ¬ (3 < ((bs.filter (isIt "write")).length : Int)) := by omega
                  have kw : ∀ x ∈ bs.filter (isIt "write"), writeB long x = true ∧ Fi L m1 x := fun x hx => by
                    rw [← filt_write c3] at hx
                    obtain ⟨q1, q2⟩ := List.mem_filter.mp hx
                    exact ⟨q2, hbm x q1⟩
                  have lc2 : ∀ (o0 o1 o2 o3 o4 o5 o6 o7 : Option W), lcL (lcE (callD Df wf (k + 9)) (.call 21 (.cons (.ix (.var 6) (.con (.int 2))) .nil)) (.nm 6) .none [6] [o0, o1, o2, o3, o4, o5, o6, o7]) (bs.filter (isIt "write")) [] M = .ok ([] ++ (bs.filter (isIt "write")).filterMap (fun x => some (wid2 x)), M) := fun o0 o1 o2 o3 o4 o5 o6 o7 =>
                    lcL_pure _ (fun d hd => by
                      obtain ⟨q1, q2⟩ := kw d hd
                      obtain ⟨a, s, rfl, _⟩ := write_form q1
                      refine eq_of ?_
                      cases q2 with
                      | tup _ q =>
                        have := e21 (M := M) (q s (by simp)) (by omega)
                        simp [this, wid2]) (by rw [sizeLine_eq]; simp; omega)
                  rw [List.filterMap_eq_map'] at lc2
                  cases hy with
                  | @tup m2 ls hll hlm =>
                    by_cases c2 : (ls.length : Int) ≤ 6
                    · have c2' : ¬ (6 < (ls.length : Int)) := by omega
                      have v5 := lc5 e52l hlm (by omega) (by omega)
                      have v7 := lc7 e52l hlm (by omega) (by omega)
                      have v8 := lc8 (ws := ls.filterMap (badO (lookB long))) (fun d hd => hlm d (bad_mem hd)) (by omega) (Nat.le_trans bad_len (by omega))
                      have shl := bad_sh (p := stepB long) (ds := ls.filterMap (badO (lookB long))) (fun d hd => hlm d (bad_mem hd)) (Nat.le_trans bad_len hll) (by omega)
                      by_cases c4 : (ls.all fun x => stepB long x || lookB long x) = true
                      · have c4' : ((ls.filterMap (badO (lookB long))).filterMap (badO (stepB long))).isEmpty = true := by rw [badO_all, bad_or]; exact c4
                        by_cases c6 : ((ls.filter (isIt "look")).length : Int) ≤ 3
                        · have c6' : ¬ (3 < ((ls.filter (isIt "look")).length : Int)) := by omega
                          have kl : ∀ x ∈ ls.filter (isIt "look"), lookB long x = true ∧ Fi L _ x := fun x hx => by
                            rw [← filt_look c4] at hx
                            obtain ⟨q1, q2⟩ := List.mem_filter.mp hx
                            exact ⟨q2, hlm x q1⟩
                          have hne : (("look" : PySem.Str) = "write") = False := by simp
                          have lc9 : ∀ (o0 o1 o3 o4 o5 o6 o7 : Option W), lcL (lcE (callD Df wf (k + 9)) (.var 6) (.nm 6) (.some (.not (.call 15 (.cons (.ix (.var 6) (.con (.int 3))) (.cons (.con (.int 0)) (.cons (.op2 .sub (.bi .len (.cons (.var 2) .nil)) (.con (.int 1))) .nil)))))) [6] [o0, o1, some (.d (.lst ((bs.filter (isIt "write")).map wid2))), o3, o4, o5, o6, o7]) (ls.filter (isIt "look")) [] M = .ok ([] ++ (ls.filter (isIt "look")).filterMap (badO (wholeB (bs.filter (isIt "write")))), M) := fun o0 o1 o3 o4 o5 o6 o7 =>
                            lcL_pure _ (fun d hd => by
                              obtain ⟨q1, q2⟩ := kl d hd
                              obtain ⟨a, s, j, rfl, _⟩ := look_form q1
                              refine eq_of ?_
                              cases q2 with
                              | tup _ q =>
                                have := fun lo hi => s15 (wf := wf) (k := k + 8) (M := M) (lo := lo) (hi := hi) S.h15 (q j (by simp))
                                simp [this, badO, wholeB]
                                split <;> rename_i hh <;> simp [hh]) (by rw [sizeLine_eq]; simp; have := List.length_filter_le (isIt "look") ls; omega)
                          have sh9 := bad_sh (p := wholeB (bs.filter (isIt "write"))) (ds := ls.filter (isIt "look")) (fun d hd => (kl d hd).2) (Nat.le_trans (List.length_filter_le _ _) hll) (by omega)
                          by_cases c7 : (ls.filter (isIt "look")).all (wholeB (bs.filter (isIt "write"))) = true
                          · have c7' : ((ls.filter (isIt "look")).filterMap (badO (wholeB (bs.filter (isIt "write"))))).isEmpty = true := by rw [badO_all]; exact c7
                            have lc10 : ∀ (o0 o1 o3 o4 o5 o6 o7 : Option W), lcL (lcE (callD Df wf (k + 9)) (.var 6) (.nm 6) (.some (.cmp .ne (.ix (.var 2) (.ix (.var 6) (.con (.int 3)))) (.call 21 (.cons (.ix (.var 6) (.con (.int 2))) .nil)))) [6] [o0, o1, some (.d (.lst ((bs.filter (isIt "write")).map wid2))), o3, o4, o5, o6, o7]) (ls.filter (isIt "look")) [] M = .ok ([] ++ (ls.filter (isIt "look")).filterMap (badO (meansB (bs.filter (isIt "write")))), M) := fun o0 o1 o3 o4 o5 o6 o7 =>
                              lcL_pure _ (fun d hd => by
                                have hw := List.all_eq_true.mp c7 d hd
                                obtain ⟨q1, q2⟩ := kl d hd
                                obtain ⟨a, s, j, rfl, _, hs⟩ := look_form q1
                                obtain ⟨ns, en1, _, en2⟩ := shapeW_wide hs
                                obtain ⟨i, rfl, i1, i2⟩ := whole_int (show isWhole j 0 (((bs.filter (isIt "write")).length : Int) - 1) = true from hw)
                                have hlt : i.toNat < (bs.filter (isIt "write")).length := by omega
                                obtain ⟨b, s', ew, _, hs'⟩ := write_form (kw _ (List.getElem_mem hlt)).1
                                obtain ⟨ms, em1, _, em2⟩ := shapeW_wide hs'
                                have eg : (bs.filter (isIt "write"))[i.toNat]? = some (bs.filter (isIt "write"))[i.toNat] := List.getElem?_eq_getElem hlt
                                have ea : atI ((bs.filter (isIt "write")).map wid2) i = some (iL ms) := by
                                  rw [atI_nat (j := i.toNat) (by omega), List.getElem?_map, eg, ew]
                                  simp [wid2, em2]
                                have eb : inB 0 i (((bs.filter (isIt "write")).length : Int) - 1) = true := by
                                  rw [inB_eq, decide_eq_true i1, decide_eq_true i2]; rfl
                                have emean : meansB (bs.filter (isIt "write")) (.tup [.str "look", .int a, s, .int i]) = (ms == ns) := by
                                  unfold meansB
                                  simp only [eb, eg, ew, Bool.true_and]
                                  unfold wideOf
                                  simp only [em1, en1]
                                  rfl
                                refine eq_of ?_
                                cases q2 with
                                | tup _ q =>
                                  have := e21 (M := M) (q s (by simp)) (by omega)
                                  rw [badO, emean]
                                  simp [this, en2, ea, cmp_ne sh_iL sh_iL]) (by rw [sizeLine_eq]; simp; have := List.length_filter_le (isIt "look") ls; omega)
                            have sh10 := bad_sh (p := meansB (bs.filter (isIt "write"))) (ds := ls.filter (isIt "look")) (fun d hd => (kl d hd).2) (Nat.le_trans (List.length_filter_le _ _) hll) (by omega)
                            have ep : progB (.tup [.int long, .tup bs, .tup ls]) = (ls.filter (isIt "look")).all (meansB (bs.filter (isIt "write"))) := by
                              show (inB 1 long 24 && bodyB long bs ls) = _
                              rw [hb, bodyB, decide_eq_true c1, decide_eq_true c2, c3, c4, decide_eq_true c5, decide_eq_true c6]
                              rfl
                            rw [ep]
                            simp [b53, startD, e0, isWhole_int, hb, forL, sizeLine_eq, c1', w5, w7, w8, keepO_filter, filt_write c3, c5', c3', cmp_ne shw sh_nil, lc2, c2', v5, v7, v8, filt_look c4, c6', c4', cmp_ne shl sh_nil, hne, lc9, cmp_ne sh9 sh_nil, c7', lc10, cmp_ne sh10 sh_nil, badO_all]
                            intro h x hx
                            by_cases q : isIt "look" x = true
                            · exact .inr (h x hx q)
                            · exact .inl (Bool.eq_false_iff.mpr q)
                          · have c7' : ((ls.filter (isIt "look")).filterMap (badO (wholeB (bs.filter (isIt "write"))))).isEmpty = false := by rw [badO_all]; exact Bool.eq_false_iff.mpr c7
                            have ep : progB (.tup [.int long, .tup bs, .tup ls]) = false := by
                              show (inB 1 long 24 && bodyB long bs ls) = _
                              have : (ls.filter (isIt "look")).all (meansB (bs.filter (isIt "write"))) = false := by
                                refine Bool.eq_false_iff.mpr fun e => c7 (List.all_eq_true.mpr fun x hx => ?_)
                                exact means_whole (List.all_eq_true.mp e x hx)
                              rw [bodyB, this]
                              simp
                            rw [ep]
                            simp [b53, startD, e0, isWhole_int, hb, forL, sizeLine_eq, c1', w5, w7, w8, keepO_filter, filt_write c3, c5', c3', cmp_ne shw sh_nil, lc2, c2', v5, v7, v8, filt_look c4, c6', c4', cmp_ne shl sh_nil, hne, lc9, cmp_ne sh9 sh_nil, c7']
                        · have c6' : (3 < ((ls.filter (isIt "look")).length : Int)) := by omega
                          have ep : progB (.tup [.int long, .tup bs, .tup ls]) = false := by
                            show (inB 1 long 24 && bodyB long bs ls) = _
                            rw [bodyB, decide_eq_false c6]; simp
                          rw [ep]
                          simp [b53, startD, e0, isWhole_int, hb, forL, sizeLine_eq, c1', w5, w7, w8, keepO_filter, filt_write c3, c5', c3', cmp_ne shw sh_nil, lc2, c2', v5, v7, v8, filt_look c4, c6']
                      · have c4' : ((ls.filterMap (badO (lookB long))).filterMap (badO (stepB long))).isEmpty = false := by rw [badO_all, bad_or]; exact Bool.eq_false_iff.mpr c4
                        have ep : progB (.tup [.int long, .tup bs, .tup ls]) = false := by
                          show (inB 1 long 24 && bodyB long bs ls) = _
                          rw [bodyB, Bool.eq_false_iff.mpr c4]; simp
                        rw [ep]
                        simp [b53, startD, e0, isWhole_int, hb, forL, sizeLine_eq, c1', w5, w7, w8, keepO_filter, filt_write c3, c5', c3', cmp_ne shw sh_nil, lc2, c2', v5, v7, v8, cmp_ne shl sh_nil, c4']
                    · have c2' : (6 < (ls.length : Int)) := by omega
                      have ep : progB (.tup [.int long, .tup bs, .tup ls]) = false := by
                        show (inB 1 long 24 && bodyB long bs ls) = _
                        rw [bodyB, decide_eq_false c2]; simp
                      rw [ep]
                      simp [b53, startD, e0, isWhole_int, hb, forL, sizeLine_eq, c1', w5, w7, w8, keepO_filter, filt_write c3, c5', c3', cmp_ne shw sh_nil, lc2, c2']
                  | _ => simp [b53, startD, e0, isWhole_int, hb, forL, sizeLine_eq, c1', w5, w7, w8, keepO_filter, filt_write c3, c5', c3', cmp_ne shw sh_nil, lc2, progB]
                · have c5' : (3 < ((bs.filter (isIt "write")).length : Int)) := by omega
                  have ep : progB (.tup [.int long, .tup bs, y]) = false := by
                    cases y with
                    | tup ls =>
                      show (inB 1 long 24 && bodyB long bs ls) = _
                      rw [bodyB, decide_eq_false c5]; simp
                    | _ => rfl
                  rw [ep]
                  simp [b53, startD, e0, isWhole_int, hb, forL, sizeLine_eq, c1', w5, w7, w8, keepO_filter, filt_write c3, c5']
              · have c3' : ((bs.filterMap (badO (writeB long))).filterMap (badO (stepB long))).isEmpty = false := by rw [badO_all, bad_or]; exact Bool.eq_false_iff.mpr c3
                have ep : progB (.tup [.int long, .tup bs, y]) = false := by
                  cases y with
                  | tup ls =>
                    show (inB 1 long 24 && bodyB long bs ls) = _
                    rw [bodyB, Bool.eq_false_iff.mpr c3]; simp
                  | _ => rfl
                rw [ep]
                simp [b53, startD, e0, isWhole_int, hb, forL, sizeLine_eq, c1', w5, w7, w8, keepO_filter, cmp_ne shw sh_nil, c3']
            · have c1' : (6 < (bs.length : Int)) := by omega
              have ep : progB (.tup [.int long, .tup bs, y]) = false := by
                cases y with
                | tup ls =>
                  show (inB 1 long 24 && bodyB long bs ls) = _
                  rw [bodyB, decide_eq_false c1]; simp
                | _ => rfl
              rw [ep]
              simp [b53, startD, e0, isWhole_int, hb, forL, sizeLine_eq, c1']
          | _ => simp [b53, startD, e0, isWhole_int, hb, forL, sizeLine_eq, progB]
        · have hp : progB (.tup [.int long, x, y]) = false := by
            unfold progB
            split
            · rename_i e
              cases e
              rw [Bool.eq_false_iff.mpr hb]
              rfl
            · rfl
          simp [b53, startD, e0, isWhole_int, hb, hp]
      | _ => simp [b53, startD, e0, isWhole, progB]
    · have h3' : ¬ ((ds.length : Int) = 3) := by omega
      simp [b53, startD, h3', progB_ne h3]
  | _ => simp [b53, startD, progB]
end
end PyP

set_option Elab.async false
set_option linter.all false
set_option maxRecDepth 100000
set_option maxHeartbeats 4000000
/-! PyP13: how machines lay shapes: the program's measured (31 to 34) and the law's lay (59). -/
namespace PyP
open PySem hiding Env
open PySem.Spec PyProof.Rows L2 PyD
/-- need_machine -/
def b31 : Def := ⟨1, 1, (.cons (.ife (.not (.call 4 (.cons (.var 0) .nil))) (.cons (.rai 1) .nil) .nil) .nil), ["machine"]⟩
/-- up_to -/
def b32 : Def := ⟨2, 2, (.cons (.ret (.op2 .mul (.neg (.op2 .fdiv (.neg (.var 0)) (.var 1))) (.var 1))) .nil), ["place", "alignment"]⟩
/-- kind_size -/
def b33 : Def := ⟨2, 2, (.cons (.ret (.ix (.ix (.var 0) (.con (.int 0))) (.cix ["s", "m", "l"] (.var 1)))) .nil), ["machine", "kind"]⟩
/-- measured -/
def b34 : Def := ⟨2, 7, (.cons (.ife (.isi (.var 1) .str) (.cons (.asg (.nm 2) (.call 33 (.cons (.var 0) (.cons (.var 1) .nil)))) (.cons (.ret (.tup (.cons (.var 2) (.cons (.bi .min (.cons (.var 2) (.cons (.ix (.var 0) (.con (.int 1))) .nil))) .nil)))) .nil)) .nil) (.cons (.ife (.cmp .eq (.ix (.var 1) (.con (.int 0))) (.con (.str "bits"))) (.cons (.ret (.tup (.cons (.con (.int 1)) (.cons (.con (.int 1)) .nil)))) .nil) .nil) (.cons (.ife (.cmp .eq (.ix (.var 1) (.con (.int 0))) (.con (.str "row"))) (.cons (.asg (.tp [2, 3]) (.call 34 (.cons (.var 0) (.cons (.ix (.var 1) (.con (.int 2))) .nil)))) (.cons (.ret (.tup (.cons (.op2 .mul (.var 2) (.ix (.var 1) (.con (.int 1)))) (.cons (.var 3) .nil)))) .nil)) .nil) (.cons (.par [4, 5] (.cons (.con (.int 0)) (.cons (.con (.int 1)) .nil))) (.cons (.fr (.nm 6) (.seq (.ix (.var 1) (.con (.int 1)))) (.cons (.asg (.tp [2, 3]) (.call 34 (.cons (.var 0) (.cons (.var 6) .nil)))) (.cons (.par [4, 5] (.cons (.op2 .add (.call 32 (.cons (.var 4) (.cons (.var 3) .nil))) (.var 2)) (.cons (.bi .max (.cons (.var 5) (.cons (.var 3) .nil))) .nil))) .nil))) (.cons (.ret (.tup (.cons (.call 32 (.cons (.var 4) (.cons (.var 5) .nil))) (.cons (.var 5) .nil)))) .nil)))))), ["machine", "shape"]⟩
/-- _law_lay -/
def b59 : Def := ⟨2, 16, (.cons (.ife (.isi (.var 1) .str) (.cons (.asg (.nm 2) (.ix (.zd "sml" (.ix (.var 0) (.con (.int 0)))) (.var 1))) (.cons (.asg (.nm 3) (.fr (.rg (.var 2)))) (.cons (.ife (.cmp .eq (.ix (.var 0) (.con (.int 2))) (.con (.str "big"))) (.cons (.asg (.nm 3) (.rev (.var 3))) .nil) .nil) (.cons (.ife (.and (.cmp .eq (.ix (.var 0) (.con (.int 2))) (.con (.str "pairs"))) (.cmp .gt (.var 2) (.con (.int 1)))) (.cons (.asg (.nm 3) (.fr (.lc (.ife (.cmp .eq (.op2 .mod (.var 4) (.con (.int 2))) (.con (.int 0))) (.op2 .add (.var 4) (.con (.int 1))) (.op2 .sub (.var 4) (.con (.int 1)))) (.nm 4) (.seq (.var 3)) .none [4]))) .nil) .nil) (.cons (.asg (.nm 5) (.fr (.lst .nil))) (.cons (.fr (.nm 6) (.seq (.var 3)) (.cons (.asg (.nm 5) (.op2 .add (.var 5) (.fr (.lc (.op2 .add (.op2 .mul (.con (.int 8)) (.var 6)) (.var 7)) (.nm 7) (.rg1 (.con (.int 8))) .none [7])))) .nil)) (.cons (.ret (.tup (.cons (.var 2) (.cons (.bi .min (.cons (.var 2) (.cons (.ix (.var 0) (.con (.int 1))) .nil))) (.cons (.fr (.lst (.cons (.var 5) .nil))) .nil))))) .nil))))))) .nil) (.cons (.ife (.cmp .eq (.ix (.var 1) (.con (.int 0))) (.con (.str "bits"))) (.cons (.par [8, 9] (.cons (.nw (.lst .nil)) (.cons (.con (.int 0)) .nil))) (.cons (.fr (.nm 10) (.seq (.ix (.var 1) (.con (.int 1)))) (.cons (.asg (.nm 11) (.ife (.ix (.var 0) (.con (.int 3))) (.var 9) (.op2 .sub (.op2 .sub (.con (.int 8)) (.var 9)) (.var 10)))) (.cons (.app (.var 8) (.fr (.lc (.op2 .add (.var 11) (.var 7)) (.nm 7) (.rg1 (.var 10)) .none [7]))) (.cons (.asg (.nm 9) (.op2 .add (.var 9) (.var 10))) .nil)))) (.cons (.ret (.tup (.cons (.con (.int 1)) (.cons (.con (.int 1)) (.cons (.var 8) .nil))))) .nil))) .nil) (.cons (.par [6, 12, 8] (.cons (.con (.int 0)) (.cons (.con (.int 1)) (.cons (.nw (.lst .nil)) .nil)))) (.cons (.fr (.nm 13) (.seq (.ife (.cmp .eq (.ix (.var 1) (.con (.int 0))) (.con (.str "row"))) (.op2 .mul (.tup (.cons (.ix (.var 1) (.con (.int 2))) .nil)) (.ix (.var 1) (.con (.int 1)))) (.ix (.var 1) (.con (.int 1))))) (.cons (.asg (.tp [2, 14, 15]) (.call 59 (.cons (.var 0) (.cons (.var 13) .nil)))) (.cons (.wh (.cmp .ne (.op2 .mod (.var 6) (.var 14)) (.con (.int 0))) (.cons (.asg (.nm 6) (.op2 .add (.var 6) (.con (.int 1)))) .nil)) (.cons (.asg (.nm 8) (.nw (.op .add (.var 8) (.fr (.lc (.fr (.lc (.op2 .add (.op2 .mul (.con (.int 8)) (.var 6)) (.var 7)) (.nm 7) (.seq (.var 5)) .none [7])) (.nm 5) (.seq (.var 15)) .none [5]))))) (.cons (.par [6, 12] (.cons (.op2 .add (.var 6) (.var 2)) (.cons (.bi .max (.cons (.var 12) (.cons (.var 14) .nil))) .nil))) .nil))))) (.cons (.wh (.cmp .ne (.op2 .mod (.var 6) (.var 12)) (.con (.int 0))) (.cons (.asg (.nm 6) (.op2 .add (.var 6) (.con (.int 1)))) .nil)) (.cons (.ret (.tup (.cons (.var 6) (.cons (.var 12) (.cons (.var 8) .nil))))) .nil)))))), ["machine", "shape"]⟩
/-! ### machines -/
structure Mc where
  s : Int
  m : Int
  l : Int
  al : Int
  ord : PySem.Str
  low : Bool
def Mc.d (c : Mc) : D := .tup [.tup [.int c.s, .int c.m, .int c.l], .int c.al, .str c.ord, .bl c.low]
def p2 (i : Int) : Prop := i = 1 ∨ i = 2 ∨ i = 4 ∨ i = 8
structure McOk (c : Mc) : Prop where
  s : c.s = 1 ∨ c.s = 2
  m : c.m = 2 ∨ c.m = 4
  l : c.l = 4 ∨ c.l = 8
  al : p2 c.al
  ord : c.ord = "big" ∨ c.ord = "little" ∨ c.ord = "pairs"
theorem oneOf_int {v : D} {ds : List D} (h : isOneOf v ds = true) : ∃ i, v = .int i ∧ ∃ d ∈ ds, d.eqv (.int i) = true := by
  unfold isOneOf at h
  split at h
  · rename_i i; exact ⟨i, rfl, List.any_eq_true.mp h⟩
  · cases h
theorem word_str {v : D} {ds : List D} (h : isWord v ds = true) : ∃ i, v = .str i ∧ ∃ d ∈ ds, d.eqv (.str i) = true := by
  unfold isWord at h
  split at h
  · rename_i i; exact ⟨i, rfl, List.any_eq_true.mp h⟩
  · cases h
theorem mach_form {v : D} (h : machB v = true) : ∃ c, v = Mc.d c ∧ McOk c := by
  unfold machB at h
  split at h
  · rename_i s a b c
    obtain ⟨h1, h2⟩ := He.ba h
    obtain ⟨h2, h3⟩ := He.ba h2
    obtain ⟨h3, h4⟩ := He.ba h3
    unfold sizesB at h1
    split at h1
    · rename_i x y z
      obtain ⟨g1, g2⟩ := He.ba h1
      obtain ⟨g2, g3⟩ := He.ba g2
      obtain ⟨i, rfl, i1⟩ := oneOf_int g1
      obtain ⟨j, rfl, j1⟩ := oneOf_int g2
      obtain ⟨k, rfl, k1⟩ := oneOf_int g3
      obtain ⟨u, rfl, u1⟩ := oneOf_int h2
      obtain ⟨w, rfl, w1⟩ := word_str h3
      simp at i1 j1 k1 u1 w1
      cases c with
      | bl q => exact ⟨⟨i, j, k, u, w, q⟩, rfl, ⟨by show i = 1 ∨ i = 2; omega, by show j = 2 ∨ j = 4; omega, by show k = 4 ∨ k = 8; omega, by show u = 1 ∨ u = 2 ∨ u = 4 ∨ u = 8; omega, by
          show w = _ ∨ w = _ ∨ w = _
          rcases w1 with h | h | h
          · exact .inl h
          · exact .inr (.inl h)
          · exact .inr (.inr h)⟩⟩
      | _ => cases h4
    · cases h1
  · cases h
/-! ### layouts -/
abbrev Lay := Int × Int × List (List Int)
def upI (p a : Int) : Int := -(-p / a) * a
theorem up_ge {p a : Int} (h : p2 a) : p ≤ upI p a ∧ upI p a < p + a ∧ upI p a % a = 0 := by
  unfold upI
  rcases h with rfl | rfl | rfl | rfl <;> omega
theorem up_uniq {p a q : Int} (h : p2 a) (h1 : p ≤ q) (h2 : q ≤ upI p a) (h3 : q % a = 0) : q = upI p a := by
  obtain ⟨g1, g2, g3⟩ := up_ge (p := p) h
  generalize upI p a = u at *
  rcases h with rfl | rfl | rfl | rfl <;> omega
def Mc.room (c : Mc) (z : PySem.Str) : Int := if z = "s" then c.s else if z = "m" then c.m else c.l
def bytesOf (c : Mc) (room : Int) : List Int :=
  if c.ord = "pairs" ∧ 1 < room then ((List.range room.toNat).map fun (i : Nat) => (i : Int)).map fun a => if a % 2 = 0 then a + 1 else a - 1
  else if c.ord = "big" then ((List.range room.toNat).map fun (i : Nat) => (i : Int)).reverse else (List.range room.toNat).map fun (i : Nat) => (i : Int)
def byteB (p : Int) : List Int := (List.range 8).map fun (b : Nat) => 8 * p + (b : Int)
def kindL (c : Mc) (z : PySem.Str) : Lay := (c.room z, if c.al < c.room z then c.al else c.room z, [(bytesOf c (c.room z)).flatMap byteB])
def bitsL (c : Mc) : Int → List Int → List (List Int)
  | _, [] => []
  | used, w :: ws => ((List.range w.toNat).map fun (b : Nat) => (if c.low = true then used else 8 - used - w) + (b : Int)) :: bitsL c (used + w) ws
def stepL (st r : Lay) : Lay := (upI st.1 r.2.1 + r.1, if r.2.1 > st.2.1 then r.2.1 else st.2.1, st.2.2 ++ r.2.2.map fun bs => bs.map (8 * upI st.1 r.2.1 + ·))
def endLay (st : Lay) : Lay := (upI st.1 st.2.1, st.2.1, st.2.2)
def partsL (rs : List Lay) : Lay := endLay (rs.foldl stepL (0, 1, []))
def intOf : D → Int
  | .int i => i
  | _ => 0
/-- how a machine lays a shape that is so deep at most -/
def layS (c : Mc) : Nat → D → Lay
  | 0, v => (match v with
    | .str z => kindL c z
    | _ => (0, 1, []))
  | d + 1, v => (match v with
    | .str z => kindL c z
    | .tup [.str z, .tup ws] => if z = "bits" then (1, 1, bitsL c 0 (ws.map intOf)) else partsL (ws.map (layS c d))
    | .tup [.str _, .int n, x] => partsL (List.replicate n.toNat (layS c d x))
    | _ => (0, 1, []))
structure LayOk (r : Lay) : Prop where
  al : p2 r.2.1
  pos : 0 < r.1
  mul : r.1 % r.2.1 = 0
theorem room_p2 {c : Mc} (h : McOk c) {z : PySem.Str} : p2 (c.room z) := by
  unfold Mc.room p2
  have := h.s
  have := h.m
  have := h.l
  split
  · omega
  · split <;> omega
theorem kind_ok {c : Mc} (h : McOk c) {z : PySem.Str} : LayOk (kindL c z) := by
  have h1 := room_p2 h (z := z)
  have h2 := h.al
  unfold kindL
  refine ⟨?_, ?_, ?_⟩
  · show p2 (if c.al < c.room z then c.al else c.room z)
    split <;> assumption
  · show 0 < c.room z
    unfold p2 at h1; omega
  · show c.room z % (if c.al < c.room z then c.al else c.room z) = 0
    rcases h1 with h1 | h1 | h1 | h1 <;> rcases h2 with h2 | h2 | h2 | h2 <;> rw [h1, h2] <;> decide
theorem step_ok {st r : Lay} (h1 : p2 st.2.1) (h2 : 0 ≤ st.1) (hr : LayOk r) : p2 (stepL st r).2.1 ∧ 0 < (stepL st r).1 := by
  unfold stepL
  refine ⟨?_, ?_⟩
  · show p2 (if r.2.1 > st.2.1 then r.2.1 else st.2.1)
    split
    · exact hr.al
    · exact h1
  · show 0 < upI st.1 r.2.1 + r.1
    have := (up_ge (p := st.1) hr.al).1
    have := hr.pos
    omega
theorem fold_ok : ∀ {rs : List Lay} {st : Lay}, p2 st.2.1 → 0 ≤ st.1 → (∀ r ∈ rs, LayOk r) → p2 (rs.foldl stepL st).2.1 ∧ 0 ≤ (rs.foldl stepL st).1 ∧ (rs ≠ [] → 0 < (rs.foldl stepL st).1)
  | [], st, h1, h2, _ => ⟨h1, h2, fun h => absurd rfl h⟩
  | r :: rs, st, h1, h2, hr => by
    obtain ⟨g1, g2⟩ := step_ok h1 h2 (hr r (by simp))
    obtain ⟨q1, q2, q3⟩ := fold_ok (rs := rs) g1 (Int.le_of_lt g2) fun x hx => hr x (by simp [hx])
    rw [List.foldl_cons]
    refine ⟨q1, q2, fun _ => ?_⟩
    cases rs with
    | nil => exact g2
    | cons a b => exact q3 (by simp)
theorem parts_ok {rs : List Lay} (h : rs ≠ []) (hr : ∀ r ∈ rs, LayOk r) : LayOk (partsL rs) := by
  obtain ⟨q1, q2, q3⟩ := fold_ok (rs := rs) (st := (0, 1, [])) (.inl rfl) (Int.le_refl _) hr
  have q3 := q3 h
  unfold partsL endLay
  have g := up_ge (p := (rs.foldl stepL (0, 1, [])).1) q1
  exact ⟨q1, by show 0 < upI _ _; omega, g.2.2⟩
theorem rep_fold {r : Lay} (h : LayOk r) : ∀ (n : Nat) (st : Lay), st.1 % r.2.1 = 0 → (st.2.1 = r.2.1 ∨ st.2.1 = 1) → ((List.replicate n r).foldl stepL st).1 = st.1 + n * r.1 ∧ (((List.replicate n r).foldl stepL st).2.1 = r.2.1 ∨ n = 0)
  | 0, st, _, _ => by simp
  | n + 1, st, h1, h2 => by
    rw [List.replicate_succ, List.foldl_cons]
    have e1 : upI st.1 r.2.1 = st.1 := (up_uniq h.al (Int.le_refl _) (up_ge h.al).1 h1).symm
    have e2 : (stepL st r).1 = st.1 + r.1 := by show upI st.1 r.2.1 + r.1 = _; rw [e1]
    have e3 : (stepL st r).2.1 = r.2.1 := by
      show (if r.2.1 > st.2.1 then r.2.1 else st.2.1) = r.2.1
      have := h.al
      unfold p2 at this
      rcases h2 with h2 | h2
      · rw [h2]; split <;> rfl
      · rw [h2]; split <;> omega
    have h3 : (stepL st r).1 % r.2.1 = 0 := by
      rw [e2, Int.add_emod, h1, h.mul]; rfl
    obtain ⟨q1, q2⟩ := rep_fold h n (stepL st r) h3 (.inl e3)
    refine ⟨?_, .inl ?_⟩
    · rw [q1, e2]
      have : ((n + 1 : Nat) : Int) * r.1 = (n : Int) * r.1 + r.1 := by rw [Int.natCast_add, Int.add_mul]; simp
      omega
    · rcases q2 with q2 | q2
      · exact q2
      · subst q2; exact e3
theorem rep_parts {r : Lay} (h : LayOk r) {n : Nat} (hn : 1 ≤ n) : (partsL (List.replicate n r)).1 = r.1 * n ∧ (partsL (List.replicate n r)).2.1 = r.2.1 := by
  obtain ⟨q1, q2⟩ := rep_fold h n (0, 1, []) (by simp) (.inr rfl)
  have q2 : ((List.replicate n r).foldl stepL (0, 1, [])).2.1 = r.2.1 := q2.resolve_right (by omega)
  unfold partsL endLay
  refine ⟨?_, q2⟩
  show upI _ _ = _
  rw [q2, q1]
  have e : (0 : Int) + n * r.1 = r.1 * n := by rw [Int.zero_add, Int.mul_comm]
  show upI (0 + (n : Int) * r.1) r.2.1 = _
  rw [e]
  refine (up_uniq h.al (Int.le_refl _) (up_ge h.al).1 ?_).symm
  rw [Int.mul_emod, h.mul]; simp
theorem joinW_mem {os : List (Option (List Int))} {ns : List Int} (h : joinW os = some ns) : ∀ o ∈ os, ∃ ms, o = some ms := fun o ho => by
  have : (joinW os).isSome = true := by rw [h]; rfl
  rw [joinW_some] at this
  exact Option.isSome_iff_exists.mp (List.all_eq_true.mp this o ho)
theorem lenB_ne {ws : List D} (h : lenB ws = true) : ws ≠ [] ∧ ws.length ≤ 4 := by
  unfold lenB at h
  obtain ⟨h1, h2⟩ := He.ba h
  have h1 := of_decide_eq_true h1
  have h2 := of_decide_eq_true h2
  refine ⟨fun e => ?_, by omega⟩
  subst e
  simp at h1
theorem layS_str {c : Mc} {d : Nat} {z : PySem.Str} : layS c d (.str z) = kindL c z := by cases d <;> rfl
theorem layS_all {c : Mc} {d : Nat} {ws : List D} : layS c (d + 1) (.tup [.str "all", .tup ws]) = partsL (ws.map (layS c d)) := by
  rw [layS]
  simp
theorem layS_bits {c : Mc} {d : Nat} {ws : List D} : layS c (d + 1) (.tup [.str "bits", .tup ws]) = (1, 1, bitsL c 0 (ws.map intOf)) := by
  rw [layS]
  simp
theorem layS_row {c : Mc} {d : Nat} {n : Int} {x : D} : layS c (d + 1) (.tup [.str "row", .int n, x]) = partsL (List.replicate n.toNat (layS c d x)) := rfl
theorem bitW_form {x : D} {ns : List Int} (h : bitW x = some ns) : x = .tup (ns.map D.int) ∧ ns.length ≤ 4 := by
  unfold bitW at h
  split at h
  · have := bitsW_len h
    exact ⟨by rw [this.1], this.2⟩
  · cases h
theorem layS_ok {c : Mc} (hc : McOk c) : ∀ {d : Nat} {v : D} {ns : List Int}, wide d v = some ns → LayOk (layS c d v)
  | 0, v, ns, h => by
    have h : strW v = some ns := h
    unfold strW at h
    split at h
    · exact kind_ok hc
    · cases h
  | d + 1, v, ns, h => by
    rcases wide_form h with ⟨z, rfl⟩ | ⟨x, rfl, hx⟩ | ⟨ws, rfl, hl, hj⟩ | ⟨j, x, ms, rfl, j1, j2, hx, _⟩
    · exact kind_ok hc
    · obtain ⟨rfl, _⟩ := bitW_form hx
      rw [layS_bits]
      exact ⟨.inl rfl, by show (0 : Int) < 1; decide, by show (1 : Int) % 1 = 0; decide⟩
    · rw [layS_all]
      refine parts_ok (by simp [(lenB_ne hl).1]) fun r hr => ?_
      obtain ⟨w, hw, rfl⟩ := List.mem_map.mp hr
      obtain ⟨ms, hms⟩ := joinW_mem hj _ (List.mem_map.mpr ⟨w, hw, rfl⟩)
      exact layS_ok hc hms
    · rw [layS_row]
      refine parts_ok (by simp; omega) fun r hr => ?_
      rw [(List.mem_replicate.mp hr).2]
      exact layS_ok hc hx

/-! ### the program's measured -/
theorem ci_s : dcix ["s", "m", "l"] (.str "s") = .ok (.int 0) := by with_unfolding_all rfl
theorem ci_m : dcix ["s", "m", "l"] (.str "m") = .ok (.int 1) := by with_unfolding_all rfl
theorem ci_l : dcix ["s", "m", "l"] (.str "l") = .ok (.int 2) := by with_unfolding_all rfl
theorem strW_form {v : D} {ns : List Int} (h : strW v = some ns) : ∃ z, v = .str z ∧ (z = "s" ∨ z = "m" ∨ z = "l") := by
  unfold strW at h
  split at h
  · rename_i z
    refine ⟨z, rfl, ?_⟩
    by_cases h1 : z = "s"
    · exact .inl h1
    · by_cases h2 : z = "m"
      · exact .inr (.inl h2)
      · by_cases h3 : z = "l"
        · exact .inr (.inr h3)
        · rw [if_neg h1, if_neg h2, if_neg h3] at h; cases h
  · cases h
theorem wide_str {d : Nat} {z : PySem.Str} {ns : List Int} (h : wide d (.str z) = some ns) : z = "s" ∨ z = "m" ∨ z = "l" := by
  have h : strW (.str z) = some ns := by cases d <;> exact h
  obtain ⟨y, e, hy⟩ := strW_form h
  cases e
  exact hy
section
variable {Df : Nat → Option Def} {wf k : Nat} {M : Ms} {L n : Nat} {c : Mc}
theorem s31 (H1 : Df 1 = some b1) (H2 : Df 2 = some b2) (H3 : Df 3 = some b3) (H4 : Df 4 = some b4) (H : Df 31 = some b31) {v : D} (hv : Fi L n v) : callD Df wf (k + 4) 31 [.d v] M = if machB v = true then .ok (.d .non, M) else .exc 1 M := by
  refine eq_of ?_
  rw [w_callD H rfl]
  cases e : machB v <;> simp [b31, startD, s4 H1 H2 H3 H4 hv, e]
theorem s32 (H : Df 32 = some b32) {p a : Int} (ha : p2 a) : callD Df wf (k + 1) 32 [.d (.int p), .d (.int a)] M = .ok (.d (.int (upI p a)), M) := by
  refine eq_of ?_
  rw [w_callD H rfl]
  unfold p2 at ha
  have h1 : 0 < a := by omega
  have h2 : a < 2 ^ 64 := by omega
  have h2' : a < 18446744073709551616 := by omega
  have h3 : -18446744073709551616 < a := by omega
  simp [b32, startD, h1, h2', h3, mulOk, upI]
theorem s33 (H : Df 33 = some b33) {z : PySem.Str} (hz : z = "s" ∨ z = "m" ∨ z = "l") : callD Df wf (k + 1) 33 [.d c.d, .d (.str z)] M = .ok (.d (.int (c.room z)), M) := by
  refine eq_of ?_
  rw [w_callD H rfl]
  rcases hz with rfl | rfl | rfl <;> simp [b33, startD, Mc.d, ci_s, ci_m, ci_l, Mc.room]
theorem s34 (hc : McOk c) (H32 : Df 32 = some b32) (H33 : Df 33 = some b33) (H : Df 34 = some b34) : ∀ {d : Nat} {v : D} {ns : List Int} {k : Nat} {M : Ms}, wide d v = some ns → callD Df wf (k + d + 2) 34 [.d c.d, .d v] M = .ok (.d (.tup [.int (layS c d v).1, .int (layS c d v).2.1]), M) := by
  have kind : ∀ {d : Nat} {z : PySem.Str} {k : Nat} {M : Ms}, (z = "s" ∨ z = "m" ∨ z = "l") → callD Df wf (k + 2) 34 [.d c.d, .d (.str z)] M = .ok (.d (.tup [.int (layS c d (.str z)).1, .int (layS c d (.str z)).2.1]), M) := by
    intro d z k M hz
    refine eq_of ?_
    rw [w_callD H rfl]
    have := fun M => s33 (wf := wf) (k := k) (M := M) (c := c) H33 hz
    simp only [Mc.d] at this
    simp [b34, startD, Mc.d, this, layS_str, kindL, sizeLine_eq]
  intro d
  induction d with
  | zero =>
    intro v ns k M h
    obtain ⟨z, rfl, hz⟩ := strW_form h
    exact kind hz
  | succ d ih =>
    intro v ns k M h
    have hok := layS_ok hc h
    rcases wide_form h with ⟨z, rfl⟩ | ⟨x, rfl, hx⟩ | ⟨ws, rfl, hl, hj⟩ | ⟨j, x, ms, rfl, j1, j2, hx, _⟩
    · exact kind (k := k + (d + 1)) (wide_str h)
    · obtain ⟨rfl, _⟩ := bitW_form hx
      refine eq_of ?_
      rw [w_callD H rfl]
      simp [b34, startD, Mc.d, layS_bits, sizeLine_eq]
    · refine eq_of ?_
      rw [show k + (d + 1) + 2 = (k + d + 2) + 1 by omega, w_callD H rfl, layS_all]
      simp [b34, startD, sizeLine_eq]
      refine wx_forL (fun r ρ M' => M' = M ∧ ∃ st o2 o3 o6, p2 st.2.1 ∧ r.foldl (fun s x => stepL s (layS c d x)) st = (ws.map (layS c d)).foldl stepL (0, 1, []) ∧ (∀ x ∈ r, ∃ ms, wide d x = some ms) ∧
        ρ = [some (.d c.d), some (.d (.tup [.str "all", .tup ws])), o2, o3, some (.d (.int st.1)), some (.d (.int st.2.1)), o6]) ⟨rfl, (0, 1, []), none, none, none, .inl rfl, by rw [List.foldl_map], fun x hx => ?_, rfl⟩ (fun x r ρ M' hI => ?_) (fun ρ M' hI => ?_)
      · obtain ⟨ms, hms⟩ := joinW_mem hj _ (List.mem_map.mpr ⟨x, hx, rfl⟩)
        exact ⟨ms, hms⟩
      · obtain ⟨rfl, st, o2, o3, o6, h1, h2, h3, rfl⟩ := hI
        obtain ⟨ms, hms⟩ := h3 x (by simp)
        have e := ih (k := k) (M := M') hms
        have hr := layS_ok hc hms
        have e32 := fun M => s32 (Df := Df) (wf := wf) (k := k + d + 1) (M := M) (p := st.1) H32 hr.al
        simp [e, e32]
        refine ⟨(stepL st (layS c d x)).1, (stepL st (layS c d x)).2.1, ?_, ⟨(stepL st (layS c d x)).2.2, h2⟩, fun y hy => h3 y (by simp [hy]), rfl, rfl⟩
        show p2 (if (layS c d x).2.1 > st.2.1 then (layS c d x).2.1 else st.2.1)
        split
        · exact hr.al
        · exact h1
      · obtain ⟨rfl, st, o2, o3, o6, h1, h2, h3, rfl⟩ := hI
        have e32 := fun M => s32 (Df := Df) (wf := wf) (k := k + d + 1) (M := M) (p := st.1) H32 h1
        have h2 : st = (ws.map (layS c d)).foldl stepL (0, 1, []) := h2
        simp [e32, sizeLine_eq, partsL, endLay, ← h2]
    · refine eq_of ?_
      rw [show k + (d + 1) + 2 = (k + d + 2) + 1 by omega, w_callD H rfl, layS_row]
      have e := ih (k := k) (M := M) hx
      have hr := layS_ok hc hx
      obtain ⟨q1, q2⟩ := rep_parts hr (n := j.toNat) (by omega)
      have hj : ((j.toNat : Nat) : Int) = j := by omega
      rw [q1, q2, hj]
      have m1 : j < 18446744073709551616 := by omega
      have m2 : -18446744073709551616 < j := by omega
      simp [b34, startD, sizeLine_eq, e, mulOk, m1, m2]
end

end PyP

set_option Elab.async false
set_option linter.all false
set_option maxRecDepth 100000
set_option maxHeartbeats 4000000
/-! PyP14: how the law lays shapes (59). -/
namespace PyP
open PySem hiding Env
open PySem.Spec PyProof.Rows L2 PyD
/-! ### bounds -/
theorem fold_len : ∀ {rs : List Lay} {st : Lay}, (rs.foldl stepL st).2.2.length = st.2.2.length + (rs.map fun r => r.2.2.length).sum
  | [], st => by simp
  | r :: rs, st => by
    rw [List.foldl_cons, fold_len, List.map_cons, List.sum_cons]
    show (st.2.2 ++ r.2.2.map _).length + _ = _
    rw [List.length_append, List.length_map]
    omega
theorem parts_len {rs : List Lay} : (partsL rs).2.2.length = (rs.map fun r => r.2.2.length).sum := by
  show (rs.foldl stepL (0, 1, [])).2.2.length = _
  rw [fold_len]; simp
theorem bitsL_len {c : Mc} : ∀ {ws : List Int} {u : Int}, (bitsL c u ws).length = ws.length
  | [], _ => rfl
  | w :: ws, u => by rw [bitsL, List.length_cons, List.length_cons, bitsL_len]
theorem joinW_length {d : Nat} {c : Mc} : ∀ {ws : List D} {ns : List Int}, joinW (ws.map (wide d)) = some ns → (∀ x ∈ ws, ∀ ms, wide d x = some ms → (layS c d x).2.2.length = ms.length) → ((ws.map (layS c d)).map fun r => r.2.2.length).sum = ns.length
  | [], ns, h, _ => by cases h; rfl
  | x :: ws, ns, h, hl => by
    rw [List.map_cons, joinW] at h
    obtain ⟨a, ha, h⟩ := Option.bind_eq_some_iff.mp h
    obtain ⟨b, hb, rfl⟩ := Option.map_eq_some_iff.mp h
    have h1 := hl x List.mem_cons_self a ha
    have h2 := joinW_length hb fun y hy => hl y (List.mem_cons_of_mem _ hy)
    rw [List.map_cons, List.map_cons, List.sum_cons, List.length_append, h1, h2]
theorem layS_len {c : Mc} : ∀ {d : Nat} {v : D} {ns : List Int}, wide d v = some ns → (layS c d v).2.2.length = ns.length
  | 0, v, ns, h => by
    have h : strW v = some ns := h
    unfold strW at h
    split at h
    · repeat' split at h
      all_goals first | (cases h; rfl) | cases h
    · cases h
  | d + 1, v, ns, h => by
    have h0 := h
    rcases wide_form h with ⟨z, rfl⟩ | ⟨x, rfl, hx⟩ | ⟨ws, rfl, hl, hj⟩ | ⟨j, x, ms, rfl, j1, j2, hx, e⟩
    · have h : strW (.str z) = some ns := h0
      unfold strW at h
      dsimp only at h
      repeat' split at h
      all_goals first | (cases h; rfl) | cases h
    · obtain ⟨rfl, _⟩ := bitW_form hx
      rw [layS_bits]
      show (bitsL c 0 _).length = _
      rw [bitsL_len]; simp
    · rw [layS_all, parts_len]
      exact joinW_length hj fun x _ ms hm => layS_len hm
    · rw [layS_row, parts_len, e, repI_len, List.map_replicate, layS_len hx]
      simp
theorem fold_bits {P : List Int → Prop} (hp : ∀ bs (k : Int), P bs → P (bs.map (k + ·))) : ∀ {rs : List Lay} {st : Lay}, (∀ b ∈ st.2.2, P b) → (∀ r ∈ rs, ∀ b ∈ r.2.2, P b) → ∀ b ∈ (rs.foldl stepL st).2.2, P b
  | [], st, h, _ => h
  | r :: rs, st, h, hr => by
    rw [List.foldl_cons]
    refine fold_bits hp (fun b hb => ?_) fun x hx => hr x (List.mem_cons_of_mem _ hx)
    rcases List.mem_append.mp (show b ∈ st.2.2 ++ r.2.2.map _ from hb) with hb | hb
    · exact h b hb
    · obtain ⟨a, ha, rfl⟩ := List.mem_map.mp hb
      exact hp a _ (hr r List.mem_cons_self a ha)
theorem bytes_len {c : Mc} {r : Int} : (bytesOf c r).length = r.toNat := by
  unfold bytesOf
  split
  · simp
  · split <;> simp
theorem flat_len : ∀ {ps : List Int}, (ps.flatMap byteB).length = 8 * ps.length
  | [] => rfl
  | p :: ps => by
    rw [List.flatMap_cons, List.length_append, flat_len, List.length_cons]
    unfold byteB
    rw [List.length_map, List.length_range]
    omega
theorem bitW_form2 {x : D} {ns : List Int} (h : bitW x = some ns) : (∀ w ∈ ns, 1 ≤ w ∧ w ≤ 8) ∧ ns.sum ≤ 8 := by
  unfold bitW at h
  split at h
  · rename_i ds
    unfold bitsW at h
    split at h
    · rename_i h1
      obtain ⟨h1, h2⟩ := He.ba h1
      obtain ⟨ms, e1, e2⟩ := intsOf_whole h2
      rw [e1] at h
      have h : (if ms.sum ≤ 8 then some ms else none) = some ns := h
      split at h
      · cases h
        refine ⟨fun w hw => ?_, by assumption⟩
        have := List.all_eq_true.mp h2 (.int w) (by rw [e2]; exact List.mem_map.mpr ⟨w, hw, rfl⟩)
        obtain ⟨i, e, i1, i2⟩ := whole_int this
        cases e
        exact ⟨i1, i2⟩
      · cases h
    · cases h
  · cases h
theorem bitsL_bits {c : Mc} : ∀ {ws : List Int} {u : Int}, (∀ w ∈ ws, 1 ≤ w ∧ w ≤ 8) → ∀ b ∈ bitsL c u ws, b.length ≤ 64
  | [], _, _, b, hb => by cases hb
  | w :: ws, u, h, b, hb => by
    rw [bitsL] at hb
    rcases List.mem_cons.mp hb with rfl | hb
    · have := h w List.mem_cons_self
      simp; omega
    · exact bitsL_bits (fun x hx => h x (List.mem_cons_of_mem _ hx)) b hb
theorem layS_bit {c : Mc} (hc : McOk c) : ∀ {d : Nat} {v : D} {ns : List Int}, wide d v = some ns → ∀ b ∈ (layS c d v).2.2, b.length ≤ 64 := by
  have kind : ∀ {z : PySem.Str}, ∀ b ∈ (kindL c z).2.2, b.length ≤ 64 := fun {z} b hb => by
    have hb : b ∈ [(bytesOf c (c.room z)).flatMap byteB] := hb
    rw [List.mem_singleton.mp hb, flat_len, bytes_len]
    have := room_p2 hc (z := z)
    unfold p2 at this
    omega
  intro d
  induction d with
  | zero =>
    intro v ns h
    obtain ⟨z, rfl, _⟩ := strW_form h
    exact kind
  | succ d ih =>
    intro v ns h
    rcases wide_form h with ⟨z, rfl⟩ | ⟨x, rfl, hx⟩ | ⟨ws, rfl, hl, hj⟩ | ⟨j, x, ms, rfl, j1, j2, hx, e⟩
    · exact kind
    · obtain ⟨rfl, _⟩ := bitW_form hx
      rw [layS_bits]
      refine bitsL_bits ?_
      have : (ns.map D.int).map intOf = ns := by rw [List.map_map]; exact List.map_id' ns
      rw [this]
      exact (bitW_form2 hx).1
    · rw [layS_all]
      refine fold_bits (P := fun b => b.length ≤ 64) (fun bs k h => by simpa using h) (fun b hb => by cases hb) fun r hr => ?_
      obtain ⟨w, hw, rfl⟩ := List.mem_map.mp hr
      obtain ⟨ms, hms⟩ := joinW_mem hj _ (List.mem_map.mpr ⟨w, hw, rfl⟩)
      exact ih hms
    · rw [layS_row]
      refine fold_bits (P := fun b => b.length ≤ 64) (fun bs k h => by simpa using h) (fun b hb => by cases hb) fun r hr => ?_
      rw [(List.mem_replicate.mp hr).2]
      exact ih hx
/-! ### the law's lay -/
theorem dc_s {a b c : Int} : dcGet (zipC "sml" [a, b, c]) "s" = some a := by with_unfolding_all rfl
theorem dc_m {a b c : Int} : dcGet (zipC "sml" [a, b, c]) "m" = some b := by with_unfolding_all rfl
theorem dc_l {a b c : Int} : dcGet (zipC "sml" [a, b, c]) "l" = some c := by with_unfolding_all rfl
@[simp] theorem zd_tup3 {z : PySem.Str} {a b c : Int} : dzd z (.tup [.int a, .int b, .int c]) = .ok (.dc (zipC z [a, b, c])) := rfl
def layV (r : Lay) : D := .tup [.int r.1, .int r.2.1, .lst (r.2.2.map iL)]
theorem rgD0 {n : Int} : rgD 0 n = ((List.range n.toNat).map fun (i : Nat) => (i : Int)).map D.int := by
  unfold rgD
  rw [List.map_map, Int.sub_zero]
  refine List.map_congr_left fun i _ => ?_
  simp
theorem rev_ints {ns : List Int} : (ns.map D.int).reverse = ns.reverse.map D.int := by rw [List.map_reverse]
section
variable {Df : Nat → Option Def} {wf k : Nat} {M : Ms} {L n : Nat} {c : Mc}
/-- the bits of a byte -/
theorem byte_lc {cl : Nat → List W → Ms → R (W × Ms)} {p : Int} {ρ : Env} (h6 : ρ[6]? = some (some (.d (.int p)))) (h7 : 7 < ρ.length) : lcL (lcE cl (.op2 .add (.op2 .mul (.con (.int 8)) (.var 6)) (.var 7)) (.nm 7) .none [7] ρ) (rgD 0 8) [] M = .ok ((byteB p).map D.int, M) := by
  have := lcL_pure (elt := lcE cl (.op2 .add (.op2 .mul (.con (.int 8)) (.var 6)) (.var 7)) (.nm 7) .none [7] ρ) (M := M) (fun d => match d with | .int b => some (.int (8 * p + b)) | _ => none) (ds := rgD 0 8) (acc := []) (fun d hd => by
    rw [rgD0] at hd
    obtain ⟨b, hb, rfl⟩ := List.mem_map.mp hd
    refine eq_of ?_
    have h7' : (ρ.set 7 (some (W.d (D.int b))))[7]? = some (some (W.d (D.int b))) := List.getElem?_set_self h7
    simp [h6, h7', mulOk]) (by rw [sizeLine_eq]; simp)
  rw [this]
  rfl
/-- the bits of a leaf, further on -/
theorem leaf_in {cl : Nat → List W → Ms → R (W × Ms)} {p : Int} {bs : List Int} {ρ : Env} (h6 : ρ[6]? = some (some (.d (.int p)))) (h7 : 7 < ρ.length) (hl : bs.length ≤ 64) : lcL (lcE cl (.op2 .add (.op2 .mul (.con (.int 8)) (.var 6)) (.var 7)) (.nm 7) .none [7] ρ) (bs.map D.int) [] M = .ok ((bs.map (8 * p + ·)).map D.int, M) := by
  have := lcL_pure (elt := lcE cl (.op2 .add (.op2 .mul (.con (.int 8)) (.var 6)) (.var 7)) (.nm 7) .none [7] ρ) (M := M) (fun d => match d with | .int b => some (.int (8 * p + b)) | _ => none) (ds := bs.map D.int) (acc := []) (fun d hd => by
    obtain ⟨b, hb, rfl⟩ := List.mem_map.mp hd
    refine eq_of ?_
    have h7' : (ρ.set 7 (some (W.d (D.int b))))[7]? = some (some (W.d (D.int b))) := List.getElem?_set_self h7
    simp [h6, h7', mulOk]) (by rw [sizeLine_eq]; simp; omega)
  rw [this]
  have : (bs.map D.int).filterMap (fun d => match d with | .int b => some (.int (8 * p + b)) | _ => none) = (bs.map (8 * p + ·)).map D.int := by
    clear this hl
    induction bs with
    | nil => rfl
    | cons a l ih => rw [List.map_cons, List.filterMap_cons, List.map_cons, List.map_cons, ← ih]
  rw [this, List.nil_append]
theorem leaf_lc {cl : Nat → List W → Ms → R (W × Ms)} {p : Int} {L : List (List Int)} {ρ : Env} (h6 : ρ[6]? = some (some (.d (.int p)))) (h7 : 7 < ρ.length) (hl : ∀ b ∈ L, b.length ≤ 64) (hL : L.length ≤ 1000000) :
    lcL (lcE cl (.fr (.lc (.op2 .add (.op2 .mul (.con (.int 8)) (.var 6)) (.var 7)) (.nm 7) (.seq (.var 5)) .none [7])) (.nm 5) .none [5] ρ) (L.map iL) [] M = .ok ((L.map fun bs => bs.map (8 * p + ·)).map iL, M) := by
  have := lcL_pure (elt := lcE cl (.fr (.lc (.op2 .add (.op2 .mul (.con (.int 8)) (.var 6)) (.var 7)) (.nm 7) (.seq (.var 5)) .none [7])) (.nm 5) .none [5] ρ) (M := M) (fun d => match d with | .lst ds => some (iL ((ds.map intOf).map (8 * p + ·))) | _ => none) (ds := L.map iL) (acc := []) (fun d hd => by
    obtain ⟨b, hb, rfl⟩ := List.mem_map.mp hd
    refine eq_of ?_
    have h5' : (ρ.set 5 (some (W.d (iL b))))[5]? = some (some (W.d (iL b))) := List.getElem?_set_self (by omega)
    have e := leaf_in (cl := cl) (M := M) (p := p) (bs := b) (ρ := ρ.set 5 (some (W.d (iL b)))) (by simp [h6]) (by simp; exact h7) (hl b hb)
    have em : (b.map D.int).map intOf = b := by rw [List.map_map]; exact List.map_id' b
    simp only [iL] at e h5' ⊢
    simp [h5', e, em]) (by rw [sizeLine_eq]; simp; omega)
  rw [this]
  have : (L.map iL).filterMap (fun d => match d with | .lst ds => some (iL ((ds.map intOf).map (8 * p + ·))) | _ => none) = (L.map fun bs => bs.map (8 * p + ·)).map iL := by
    clear this hL hl
    induction L with
    | nil => rfl
    | cons a l ih =>
      have em : (a.map D.int).map intOf = a := by rw [List.map_map]; exact List.map_id' a
      rw [List.map_cons, List.filterMap_cons, List.map_cons, List.map_cons, ← ih]
      show iL _ :: _ = _
      rw [em]
  rw [this, List.nil_append]
/-- the next place that is even -/
theorem even_wh {cl : Nat → List W → Ms → R (W × Ms)} {a : Nat} {p al : Int} {Q : (Fl × Env) × Ms → Prop} {E : XE} {o0 o1 o2 o3 o4 o5 o7 o8 o9 o10 o11 o12 o13 o14 o15 : Option W} (hal : p2 al) (hwf : 9 ≤ wf)
    (hi : ([o0, o1, o2, o3, o4, o5, none, o7, o8, o9, o10, o11, o12, o13, o14, o15] : Env)[a]? = some (some (.d (.int al)))) (ha : a ≠ 6)
    (hQ : Q ((.nx, [o0, o1, o2, o3, o4, o5, some (.d (.int (upI p al))), o7, o8, o9, o10, o11, o12, o13, o14, o15]), M)) :
    Wx (whL (whC cl (.cmp .ne (.op2 .mod (.var 6) (.var a)) (.con (.int 0)))) (fun ρ M => evSs cl wf (.cons (.asg (.nm 6) (.op2 .add (.var 6) (.con (.int 1)))) .nil) ρ M) wf [o0, o1, o2, o3, o4, o5, some (.d (.int p)), o7, o8, o9, o10, o11, o12, o13, o14, o15] M) Q E := by
  have hal' := hal
  unfold p2 at hal'
  obtain ⟨g1, g2, g3⟩ := up_ge (p := p) hal
  refine wx_whL (fun m ρ M' => M' = M ∧ ∃ q, p ≤ q ∧ q ≤ upI p al ∧ m = (upI p al - q).toNat ∧ ρ = [o0, o1, o2, o3, o4, o5, some (.d (.int q)), o7, o8, o9, o10, o11, o12, o13, o14, o15]) (upI p al - p).toNat (by omega) ⟨rfl, p, by omega, by omega, rfl, rfl⟩ (fun m ρ M' hI => ?_)
  obtain ⟨rfl, q, q1, q2, rfl, rfl⟩ := hI
  have e : ([o0, o1, o2, o3, o4, o5, some (.d (.int q)), o7, o8, o9, o10, o11, o12, o13, o14, o15] : Env)[a]? = some (some (.d (.int al))) := by
    rcases a with _ | _ | _ | _ | _ | _ | _ | a
    all_goals first | exact absurd rfl ha | exact hi
  have h0 : 0 < al := by omega
  simp [e, h0]
  by_cases hz : q % al = 0
  · have := up_uniq hal q1 q2 hz
    subst this
    simp [hz]
    exact hQ
  · simp [hz]
    have : q ≠ upI p al := fun h => hz (by rw [h]; exact g3)
    exact ⟨(upI p al - (q + 1)).toNat, by omega, q + 1, by omega, by omega, rfl, rfl⟩
theorem s59 (hc : McOk c) (hwf : 9 ≤ wf) (H : Df 59 = some b59) : ∀ {d : Nat} {v : D} {ns : List Int} {k : Nat} {M : Ms}, d ≤ 6 → wide d v = some ns → callD Df wf (k + d + 1) 59 [.d c.d, .d v] M = .ok (.d (layV (layS c d v)), M) := by
  have kind : ∀ {d : Nat} {z : PySem.Str} {k : Nat} {M : Ms}, (z = "s" ∨ z = "m" ∨ z = "l") → callD Df wf (k + 1) 59 [.d c.d, .d (.str z)] M = .ok (.d (layV (layS c d (.str z))), M) := by
    intro d z k M hz
    refine eq_of ?_
    rw [w_callD H rfl, layS_str]
    have hr := room_p2 hc (z := z)
    have hroom : dcGet (zipC "sml" [c.s, c.m, c.l]) z = some (c.room z) := by
      rcases hz with rfl | rfl | rfl
      · rw [dc_s]; rfl
      · rw [dc_m]; simp [Mc.room]
      · rw [dc_l]; simp [Mc.room]
    have hrg : rgOk 0 (c.room z) = true := by
      unfold p2 at hr
      rcases hr with h | h | h | h <;> rw [h] <;> decide
    have r0 : (c.room z).toNat ≤ 8 := by unfold p2 at hr; omega
    have loop : ∀ (ps : List Int) (Q : (Fl × Env) × Ms → Prop) (E : XE) (o0 o1 o2 o3 o4 o6 o7 o8 o9 o10 o11 o12 o13 o14 o15 : Option W), ps.length ≤ 8 →
        (∀ o6 o7, Q ((.nx, [o0, o1, o2, o3, o4, some (.d (iL (ps.flatMap byteB))), o6, o7, o8, o9, o10, o11, o12, o13, o14, o15]), M)) →
        Wx (forL (forB (callD Df wf k) wf (.nm 6) (.cons (.asg (.nm 5) (.op2 .add (.var 5) (.fr (.lc (.op2 .add (.op2 .mul (.con (.int 8)) (.var 6)) (.var 7)) (.nm 7) (.rg1 (.con (.int 8))) .none [7])))) .nil)) (ps.map D.int) [o0, o1, o2, o3, o4, some (.d (.lst [])), o6, o7, o8, o9, o10, o11, o12, o13, o14, o15] M) Q E := by
      intro ps Q E o0 o1 o2 o3 o4 o6 o7 o8 o9 o10 o11 o12 o13 o14 o15 hl hQ
      refine wx_forL (fun r ρ M' => M' = M ∧ ∃ bs rest o6 o7, bs ++ rest.flatMap byteB = ps.flatMap byteB ∧ r = rest.map D.int ∧ ρ = [o0, o1, o2, o3, o4, some (.d (iL bs)), o6, o7, o8, o9, o10, o11, o12, o13, o14, o15]) ⟨rfl, [], ps, o6, o7, rfl, rfl, rfl⟩ (fun x r ρ M' hI => ?_) (fun ρ M' hI => ?_)
      · obtain ⟨rfl, bs, rest, o6, o7, h1, h2, rfl⟩ := hI
        cases rest with
        | nil => cases h2
        | cons p rest =>
          rw [List.map_cons] at h2
          cases h2
          have hb : bs.length + 8 ≤ 64 := by
            have := congrArg List.length h1
            rw [List.flatMap_cons, List.length_append, List.length_append, flat_len, flat_len] at this
            unfold byteB at this
            rw [List.length_map, List.length_range] at this
            omega
          have e := byte_lc (cl := callD Df wf k) (p := p) (M := M') (ρ := [o0, o1, o2, o3, o4, some (.d (iL bs)), some (.d (.int p)), o7, o8, o9, o10, o11, o12, o13, o14, o15]) rfl (by simp)
          have l8 : (byteB p).length = 8 := by unfold byteB; simp
          simp [iL] at e
          simp [iL, e, l8, sizeLine_eq]
          refine ⟨by omega, bs ++ byteB p, rest, ?_, rfl, ?_⟩
          · rw [List.append_assoc]; exact h1
          · simp
      · obtain ⟨rfl, bs, rest, o6, o7, h1, h2, rfl⟩ := hI
        cases rest with
        | nil =>
          rw [List.flatMap_nil, List.append_nil] at h1
          subst h1
          exact hQ o6 o7
        | cons _ _ => cases h2
    have rg0 := rgD0 (n := c.room z)
    have pl : ((List.range (c.room z).toNat).map fun (i : Nat) => (i : Int)).length ≤ 8 := by simpa using r0
    have lc : ∀ (o4 o5 o6 o7 o8 o9 o10 o11 o12 o13 o14 o15 : Option W), lcL (lcE (callD Df wf k) (.ife (.cmp .eq (.op2 .mod (.var 4) (.con (.int 2))) (.con (.int 0))) (.op2 .add (.var 4) (.con (.int 1))) (.op2 .sub (.var 4) (.con (.int 1)))) (.nm 4) .none [4] [some (.d c.d), some (.d (.str z)), some (.d (.int (c.room z))), some (.d (.lst (rgD 0 (c.room z)))), o4, o5, o6, o7, o8, o9, o10, o11, o12, o13, o14, o15]) (rgD 0 (c.room z)) [] M = .ok ([] ++ (rgD 0 (c.room z)).filterMap (fun d => match d with | .int a => some (.int (if a % 2 = 0 then a + 1 else a - 1)) | _ => none), M) := fun o4 o5 o6 o7 o8 o9 o10 o11 o12 o13 o14 o15 =>
      lcL_pure _ (fun d hd => by
        rw [rg0] at hd
        obtain ⟨b, hb, rfl⟩ := List.mem_map.mp hd
        refine eq_of ?_
        by_cases h2 : b % 2 = 0 <;> simp [h2]) (by rw [sizeLine_eq]; simp; omega)
    have fm : (rgD 0 (c.room z)).filterMap (fun d => match d with | .int a => some (.int (if a % 2 = 0 then a + 1 else a - 1)) | _ => none) = (((List.range (c.room z).toNat).map fun (i : Nat) => (i : Int)).map fun a => if a % 2 = 0 then a + 1 else a - 1).map D.int := by
      rw [rg0]
      generalize ((List.range (c.room z).toNat).map fun (i : Nat) => (i : Int)) = l
      induction l with
      | nil => rfl
      | cons a l ih => rw [List.map_cons, List.filterMap_cons, List.map_cons, List.map_cons, ih]
    have bl : ((bytesOf c (c.room z)).flatMap byteB).length ≤ 64 := by rw [flat_len, bytes_len]; omega
    have bl8 : (bytesOf c (c.room z)).length ≤ 8 := by rw [bytes_len]; omega
    have hmin : (kindL c z).2.1 = if c.al < c.room z then c.al else c.room z := rfl
    rcases hc.ord with ho | ho | ho
    · have eb : (rgD 0 (c.room z)).reverse = (bytesOf c (c.room z)).map D.int := by
        unfold bytesOf; rw [rg0, rev_ints]; simp [ho]
      simp [b59, startD, Mc.d, hroom, hrg, ho, eb]
      refine loop _ _ _ _ _ _ _ _ _ _ _ _ _ _ _ _ _ _ bl8 fun o6 o7 => ?_
      simp [layV, kindL, sizeLine_eq]
    · have eb : rgD 0 (c.room z) = (bytesOf c (c.room z)).map D.int := by
        unfold bytesOf; rw [rg0]; simp [ho]
      simp [b59, startD, Mc.d, hroom, hrg, ho]
      rw [eb]
      refine loop _ _ _ _ _ _ _ _ _ _ _ _ _ _ _ _ _ _ bl8 fun o6 o7 => ?_
      simp [layV, kindL, sizeLine_eq]
    · by_cases h1 : 1 < c.room z
      · have eb : (rgD 0 (c.room z)).filterMap (fun d => match d with | .int a => some (.int (if a % 2 = 0 then a + 1 else a - 1)) | _ => none) = (bytesOf c (c.room z)).map D.int := by
          rw [fm]; unfold bytesOf; rw [if_pos ⟨ho, h1⟩]
        rw [eb] at lc
        simp only [Mc.d, ho] at lc
        simp [b59, startD, Mc.d, hroom, hrg, ho, h1, lc]
        refine loop _ _ _ _ _ _ _ _ _ _ _ _ _ _ _ _ _ _ bl8 fun o6 o7 => ?_
        simp [layV, kindL, sizeLine_eq]
      · have eb : rgD 0 (c.room z) = (bytesOf c (c.room z)).map D.int := by
          unfold bytesOf; rw [rg0]; simp [ho, h1]
        simp [b59, startD, Mc.d, hroom, hrg, ho, h1]
        rw [eb]
        refine loop _ _ _ _ _ _ _ _ _ _ _ _ _ _ _ _ _ _ bl8 fun o6 o7 => ?_
        simp [layV, kindL, sizeLine_eq]
  have main : ∀ (d : Nat) (k : Nat) (M : Ms) (v : D) (ps : List D) (bound : Nat) (ih : ∀ {v : D} {ns : List Int} {M : Ms}, wide d v = some ns → callD Df wf (k + d + 1) 59 [.d c.d, .d v] M = .ok (.d (layV (layS c d v)), M)) (hps : ∀ x ∈ ps, ∃ ms, wide d x = some ms) (hb : (partsL (ps.map (layS c d))).2.2.length ≤ 1000000)
      (Q : W × Ms → Prop) (o2 o3 o4 o5 o7 o9 o10 o11 o13 o14 o15 : Option W), Q (.d (layV (partsL (ps.map (layS c d)))), M) →
      Wx (forL (forB (callD Df wf (k + d + 1)) wf (.nm 13) (.cons (.asg (.tp [2, 14, 15]) (.call 59 (.cons (.var 0) (.cons (.var 13) .nil)))) (.cons (.wh (.cmp .ne (.op2 .mod (.var 6) (.var 14)) (.con (.int 0))) (.cons (.asg (.nm 6) (.op2 .add (.var 6) (.con (.int 1)))) .nil)) (.cons (.asg (.nm 8) (.nw (.op .add (.var 8) (.fr (.lc (.fr (.lc (.op2 .add (.op2 .mul (.con (.int 8)) (.var 6)) (.var 7)) (.nm 7) (.seq (.var 5)) .none [7])) (.nm 5) (.seq (.var 15)) .none [5]))))) (.cons (.par [6, 12] (.cons (.op2 .add (.var 6) (.var 2)) (.cons (.bi .max (.cons (.var 12) (.cons (.var 14) .nil))) .nil))) .nil))))) ps [some (.d c.d), some (.d v), o2, o3, o4, o5, some (.d (.int 0)), o7, some (.c M.length), o9, o10, o11, some (.d (.int 1)), o13, o14, o15] (M ++ [.lst []]))
        (kSs (callD Df wf (k + d + 1)) wf (.cons (.wh (.cmp .ne (.op2 .mod (.var 6) (.var 12)) (.con (.int 0))) (.cons (.asg (.nm 6) (.op2 .add (.var 6) (.con (.int 1)))) .nil)) (.cons (.ret (.tup (.cons (.var 6) (.cons (.var 12) (.cons (.var 8) .nil))))) .nil)) (kEnd M.length Q NoE) (xEnd M.length NoE)) (xEnd M.length NoE) := by
    intro d k M v ps bound ih hps hb Q o2 o3 o4 o5 o7 o9 o10 o11 o13 o14 o15 hQ
    refine wx_forL (fun r ρ M' => ∃ st0 st1 st2 i o2 o3 o4 o5 o7 o9 o10 o11 o13 o14 o15, p2 st1 ∧ r.foldl (fun s x => stepL s (layS c d x)) (st0, st1, st2) = (ps.map (layS c d)).foldl stepL (0, 1, []) ∧ (∀ x ∈ r, ∃ ms, wide d x = some ms) ∧ (∀ b ∈ st2, b.length ≤ 64) ∧ M'.take M.length = M ∧ M.length ≤ i ∧ M'[i]? = some (.lst (st2.map iL)) ∧
      ρ = [some (.d c.d), some (.d v), o2, o3, o4, o5, some (.d (.int st0)), o7, some (.c i), o9, o10, o11, some (.d (.int st1)), o13, o14, o15])
      ⟨0, 1, [], M.length, o2, o3, o4, o5, o7, o9, o10, o11, o13, o14, o15, .inl rfl, by rw [List.foldl_map], hps, by simp, by simp, by omega, by simp, rfl⟩ (fun x r ρ M' hI => ?_) (fun ρ M' hI => ?_)
    · obtain ⟨st0, st1, st2, i, o2, o3, o4, o5, o7, o9, o10, o11, o13, o14, o15, h1, h2, h3, h4, h5, h6, h7, rfl⟩ := hI
      obtain ⟨ms, hms⟩ := h3 x (by simp)
      have e := ih (M := M') hms
      have hr := layS_ok hc hms
      obtain ⟨r0, r1, r2, er⟩ : ∃ r0 r1 r2, layS c d x = (r0, r1, r2) := ⟨_, _, _, rfl⟩
      rw [er] at e hr
      have hbits := layS_bit hc hms
      rw [er] at hbits
      have hlen : st2.length + r2.length ≤ 1000000 := by
        have q := fold_len (rs := (r.map (layS c d))) (st := stepL (st0, st1, st2) (layS c d x))
        rw [List.foldl_map] at q
        rw [List.foldl_cons] at h2
        rw [h2] at q
        have hb : ((ps.map (layS c d)).foldl stepL (0, 1, [])).2.2.length ≤ 1000000 := hb
        rw [q, er] at hb
        have : (stepL (st0, st1, st2) (r0, r1, r2)).2.2.length = st2.length + r2.length := by
          show (st2 ++ r2.map _).length = _
          rw [List.length_append, List.length_map]
        omega
      simp [e, layV]
      refine even_wh (a := 14) hr.al hwf rfl (by decide) ?_
      have lc := leaf_lc (cl := callD Df wf (k + d + 1)) (M := M') (p := upI st0 r1) (L := r2) (ρ := [some (.d c.d), some (.d v), some (.d (.int r0)), o3, o4, o5, some (.d (.int (upI st0 r1))), o7, some (.c i), o9, o10, o11, some (.d (.int st1)), some (.d x), some (.d (.int r1)), some (.d (.lst (r2.map iL)))]) rfl (by simp) hbits (by omega)
      have hv := view_c h7
      simp [lc, hv]
      have hlt : i < M'.length := (List.getElem?_eq_some_iff.mp h7).1
      have hml : M.length ≤ M'.length := by omega
      refine ⟨by rw [sizeLine_eq]; omega, upI st0 r1 + r0, (if st1 < r1 then r1 else st1), ?_, st2 ++ r2.map (fun bs => bs.map (8 * upI st0 r1 + ·)), ?_, fun y hy => h3 y (by simp [hy]), ?_, ?_, M'.length, hml, ?_, rfl, rfl, rfl⟩
      · split
        · exact hr.al
        · exact h1
      · rw [List.foldl_cons, er] at h2
        exact h2
      · intro b hb
        rcases List.mem_append.mp hb with hb | hb
        · exact h4 b hb
        · obtain ⟨a, ha, rfl⟩ := List.mem_map.mp hb
          simpa using hbits a ha
      · rw [List.take_append_of_le_length hml]; exact h5
      · rw [List.getElem?_append_right (Nat.le_refl _), Nat.sub_self]
        simp
    · obtain ⟨st0, st1, st2, i, o2, o3, o4, o5, o7, o9, o10, o11, o13, o14, o15, h1, h2, h3, h4, h5, h6, h7, rfl⟩ := hI
      have h2 : (st0, st1, st2) = (ps.map (layS c d)).foldl stepL (0, 1, []) := h2
      simp
      refine even_wh (a := 12) h1 hwf rfl (by decide) ?_
      have hf := frz_c h7
      simp [hf]
      have et : (M'.set i (C.fro (st2.map iL))).take M.length = M := by rw [List.take_set_of_le h6]; exact h5
      have ep : layV (partsL (ps.map (layS c d))) = .tup [.int (upI st0 st1), .int st1, .lst (st2.map iL)] := by
        unfold partsL; rw [← h2]; rfl
      rw [ep] at hQ
      exact ⟨by rw [sizeLine_eq]; omega, by rw [et]; exact hQ⟩
  intro d
  induction d with
  | zero =>
    intro v ns k M _ h
    obtain ⟨z, rfl, hz⟩ := strW_form h
    exact kind hz
  | succ d ih =>
    intro v ns k M hd h
    have hlen := layS_len (c := c) h
    have hwl := wide_len h
    have h4 : 4 ^ (d + 1 + 1) ≤ 4 ^ 7 := Nat.pow_le_pow_right (by omega) (by omega)
    have h47 : 4 ^ 7 = 16384 := by decide
    have ihk : ∀ {v : D} {ns : List Int} {M : Ms}, wide d v = some ns → callD Df wf (k + d + 1) 59 [.d c.d, .d v] M = .ok (.d (layV (layS c d v)), M) := fun h => ih (k := k) (by omega) h
    rcases wide_form h with ⟨z, rfl⟩ | ⟨x, rfl, hx⟩ | ⟨ws, rfl, hl, hj⟩ | ⟨j, x, ms, rfl, j1, j2, hx, _⟩
    · exact kind (k := k + (d + 1)) (wide_str h)
    · obtain ⟨rfl, hl4⟩ := bitW_form hx
      obtain ⟨hw, hs⟩ := bitW_form2 hx
      have em : (ns.map D.int).map intOf = ns := by rw [List.map_map]; exact List.map_id' ns
      refine eq_of ?_
      rw [w_callD H rfl]
      rw [layS_bits, em]
      simp [b59, startD]
      refine wx_forL (fun r ρ M' => ∃ L rest used o7 o10 o11, L ++ bitsL c used rest = bitsL c 0 ns ∧ r = rest.map D.int ∧ (∀ w ∈ rest, 1 ≤ w ∧ w ≤ 8) ∧ L.length + rest.length = ns.length ∧ M' = M ++ [.lst (L.map iL)] ∧
        ρ = [some (.d c.d), some (.d (.tup [.str "bits", .tup (ns.map D.int)])), none, none, none, none, none, o7, some (.c M.length), some (.d (.int used)), o10, o11, none, none, none, none]) ⟨[], ns, 0, none, none, none, rfl, rfl, hw, by simp, rfl, rfl⟩ (fun x r ρ M' hI => ?_) (fun ρ M' hI => ?_)
      · obtain ⟨L, rest, used, o7, o10, o11, h1, h2, h3, h4, rfl, rfl⟩ := hI
        cases rest with
        | nil => cases h2
        | cons w rest =>
          rw [List.map_cons] at h2
          cases h2
          obtain ⟨w1, w2⟩ := h3 w (by simp)
          simp only [List.length_cons] at h4
          have inner : ∀ (f : Int) (ρ : Env) (M : Ms), ρ[11]? = some (some (.d (.int f))) → 7 < ρ.length → lcL (lcE (callD Df wf (k + (d + 1))) (.op2 .add (.var 11) (.var 7)) (.nm 7) .none [7] ρ) (rgD 0 w) [] M = .ok (((List.range w.toNat).map fun (b : Nat) => f + (b : Int)).map D.int, M) := by
            intro f ρ M h11 h7
            have := lcL_pure (elt := lcE (callD Df wf (k + (d + 1))) (.op2 .add (.var 11) (.var 7)) (.nm 7) .none [7] ρ) (M := M) (fun d => match d with | .int b => some (.int (f + b)) | _ => none) (ds := rgD 0 w) (acc := []) (fun d hd => by
              rw [rgD0] at hd
              obtain ⟨b, hb, rfl⟩ := List.mem_map.mp hd
              refine eq_of ?_
              have h7' : (ρ.set 7 (some (W.d (D.int b))))[7]? = some (some (W.d (D.int b))) := List.getElem?_set_self h7
              simp [h11, h7']) (by rw [sizeLine_eq]; simp; omega)
            rw [this, rgD0, List.nil_append]
            congr 2
            generalize w.toNat = n
            generalize List.range n = l
            induction l with
            | nil => rfl
            | cons a l ih => rw [List.map_cons, List.map_cons, List.filterMap_cons, List.map_cons, List.map_cons, ih]
          have i0 := inner (if c.low = true then used else 8 - used - w)
          have wr : w < 2 ^ 62 := by omega
          have d3 : dix c.d (.int 3) = .ok (.bl c.low) := rfl
          have hL4 : (L.length : Int) < 16777216 := by omega
          cases hlow : c.low with
          | true =>
            rw [hlow] at d3
            rw [if_pos hlow] at i0
            simp [d3, i0, sizeLine_eq, PyD.cellOf, apI]
            refine ⟨by omega, by omega, L ++ [(List.range w.toNat).map fun (b : Nat) => used + (b : Int)], rest, used + w, ?_, rfl, fun w hw => h3 w (by simp [hw]), by simp; omega, by simp [iL], rfl⟩
            rw [bitsL, if_pos hlow] at h1
            rw [List.append_assoc]
            exact h1
          | false =>
            rw [hlow] at d3
            have i0 := inner (8 - used - w)
            simp [d3, i0, sizeLine_eq, PyD.cellOf, apI]
            refine ⟨by omega, by omega, L ++ [(List.range w.toNat).map fun (b : Nat) => 8 - used - w + (b : Int)], rest, used + w, ?_, rfl, fun w hw => h3 w (by simp [hw]), by simp; omega, by simp [iL], rfl⟩
            rw [bitsL, if_neg (by rw [hlow]; simp)] at h1
            rw [List.append_assoc]
            exact h1
      · obtain ⟨L, rest, used, o7, o10, o11, h1, h2, h3, h4, rfl, rfl⟩ := hI
        cases rest with
        | nil =>
          rw [bitsL, List.append_nil] at h1
          subst h1
          have hf := frz_c (M := M ++ [.lst ((bitsL c 0 ns).map iL)]) (i := M.length) (ds := (bitsL c 0 ns).map iL) (by simp)
          simp [hf, layV, sizeLine_eq]
        | cons _ _ => cases h2
    · rw [layS_all] at hlen ⊢
      refine eq_of ?_
      rw [show k + (d + 1) + 1 = (k + d + 1) + 1 by omega, w_callD H rfl]
      simp [b59, startD]
      refine main d k M _ ws 0 ihk (fun x hx => ?_) (by omega) _ _ _ _ _ _ _ _ _ _ _ _ rfl
      exact joinW_mem hj _ (List.mem_map.mpr ⟨x, hx, rfl⟩)
    · rw [layS_row] at hlen ⊢
      have e : (List.replicate j.toNat x).map (layS c d) = List.replicate j.toNat (layS c d x) := List.map_replicate
      refine eq_of ?_
      rw [show k + (d + 1) + 1 = (k + d + 1) + 1 by omega, w_callD H rfl]
      have hrep : repD [x] j = List.replicate j.toNat x := by
        unfold repD
        induction j.toNat with
        | zero => rfl
        | succ n ih => rw [List.replicate_succ, List.flatten_cons, ih, List.replicate_succ]; rfl
      have j3 : j ≤ 1000 := by omega
      rw [← e] at hlen ⊢
      have hm := main d k M (.tup [.str "row", .int j, x]) (List.replicate j.toNat x) 0 ihk (fun y hy => by rw [(List.mem_replicate.mp hy).2]; exact ⟨ms, hx⟩) (by omega) _ none none none none none none none none none none none rfl
      simp only [e] at hm ⊢
      simp [b59, startD, hrep, j1, j3]
      exact ⟨by rw [sizeLine_eq]; omega, hm⟩
end

end PyP

set_option Elab.async false
set_option linter.all false
set_option maxRecDepth 100000
set_option maxHeartbeats 4000000
/-! PyP15: contents, and which machines programs suit (45 to 49, 60 to 63). -/
namespace PyP
open PySem hiding Env
open PySem.Spec PyProof.Rows L2 PyD
/-- are_values -/
def b45 : Def := ⟨2, 3, (.cons (.ife (.or (.not (.isi (.var 1) .tuple)) (.cmp .ne (.bi .len (.cons (.var 1) .nil)) (.bi .len (.cons (.var 0) .nil)))) (.cons (.ret (.con (.bl false))) .nil) .nil) (.cons (.ret (.cmp .eq (.fr (.lc (.var 2) (.nm 2) (.rg1 (.bi .len (.cons (.var 0) .nil))) (.some (.not (.call 0 (.cons (.ix (.var 1) (.var 2)) (.cons (.con (.int 0)) (.cons (.op2 .sub (.op2 .shl (.con (.int 1)) (.ix (.var 0) (.var 2))) (.con (.int 1))) .nil)))))) [2])) (.fr (.lst .nil)))) .nil)), ["widths", "value"]⟩
/-- has_contents -/
def b46 : Def := ⟨2, 4, (.cons (.asg (.nm 2) (.call 39 (.cons (.var 0) .nil))) (.cons (.ife (.or (.not (.isi (.var 1) .tuple)) (.cmp .ne (.bi .len (.cons (.var 1) .nil)) (.bi .len (.cons (.var 2) .nil)))) (.cons (.ret (.con (.bl false))) .nil) .nil) (.cons (.ret (.cmp .eq (.fr (.lc (.var 3) (.nm 3) (.rg1 (.bi .len (.cons (.var 2) .nil))) (.some (.not (.call 45 (.cons (.call 8 (.cons (.ix (.ix (.var 2) (.var 3)) (.con (.int 2))) .nil)) (.cons (.ix (.var 1) (.var 3)) .nil))))) [3])) (.fr (.lst .nil)))) .nil))), ["program", "value"]⟩
/-- are_contents -/
def b47 : Def := ⟨2, 2, (.cons (.ex (.call 44 (.cons (.var 0) .nil))) (.cons (.ret (.call 46 (.cons (.var 0) (.cons (.var 1) .nil)))) .nil)), ["program", "value"]⟩
/-- does_suit -/
def b48 : Def := ⟨3, 5, (.cons (.asg (.nm 3) (.ife (.cmp .eq (.var 2) (.con (.str "writer"))) (.call 39 (.cons (.var 0) .nil)) (.call 40 (.cons (.var 0) .nil)))) (.cons (.ret (.cmp .eq (.fr (.lc (.var 4) (.nm 4) (.seq (.var 3)) (.some (.cmp .gt (.op2 .add (.ix (.var 4) (.con (.int 1))) (.ix (.call 34 (.cons (.var 1) (.cons (.ix (.var 4) (.con (.int 2))) .nil))) (.con (.int 0)))) (.ix (.var 0) (.con (.int 0))))) [4])) (.fr (.lst .nil)))) .nil)), ["program", "machine", "role"]⟩
/-- suits -/
def b49 : Def := ⟨3, 3, (.cons (.ex (.call 44 (.cons (.var 0) .nil))) (.cons (.ex (.call 31 (.cons (.var 1) .nil))) (.cons (.ife (.not (.call 1 (.cons (.var 2) (.cons (.tup (.cons (.con (.str "writer")) (.cons (.con (.str "reader")) .nil))) .nil)))) (.cons (.rai 7) .nil) .nil) (.cons (.ret (.call 48 (.cons (.var 0) (.cons (.var 1) (.cons (.var 2) .nil))))) .nil)))), ["program", "machine", "role"]⟩
/-- _law_writes -/
def b60 : Def := ⟨1, 2, (.cons (.ret (.fr (.lc (.var 1) (.nm 1) (.seq (.ix (.var 0) (.con (.int 1)))) (.some (.cmp .eq (.ix (.var 1) (.con (.int 0))) (.con (.str "write")))) [1]))) .nil), ["program"]⟩
/-- _law_fits -/
def b61 : Def := ⟨3, 4, (.cons (.fr (.nm 3) (.seq (.op2 .add (.ix (.var 0) (.con (.int 1))) (.ix (.var 0) (.con (.int 2))))) (.cons (.ife (.and (.cmp .eq (.ix (.var 3) (.con (.int 0))) (.var 2)) (.cmp .gt (.op2 .add (.ix (.var 3) (.con (.int 1))) (.ix (.call 59 (.cons (.var 1) (.cons (.ix (.var 3) (.con (.int 2))) .nil))) (.con (.int 0)))) (.ix (.var 0) (.con (.int 0))))) (.cons (.ret (.con (.bl false))) .nil) .nil) .nil)) (.cons (.ret (.con (.bl true))) .nil)), ["program", "machine", "word"]⟩
/-- _law_contents -/
def b62 : Def := ⟨2, 8, (.cons (.asg (.nm 2) (.tup .nil)) (.cons (.fr (.nm 3) (.seq (.call 60 (.cons (.var 1) .nil))) (.cons (.asg (.nm 4) (.nw (.lst .nil))) (.cons (.fr (.nm 5) (.seq (.call 21 (.cons (.ix (.var 3) (.con (.int 2))) .nil))) (.cons (.asg (.nm 6) (.op2 .shl (.con (.int 1)) (.var 5))) (.cons (.asg (.nm 7) (.call 13 (.cons (.var 0) (.cons (.var 6) .nil)))) (.cons (.app (.var 4) (.call 14 (.cons (.var 0) (.cons (.fr (.lst (.cons (.con (.int 0)) (.cons (.op2 .sub (.var 6) (.con (.int 1))) (.cons (.var 7) (.cons (.var 7) .nil)))))) .nil)))) .nil)))) (.cons (.asg (.nm 2) (.op2 .add (.var 2) (.tup (.cons (.bi .tuple (.cons (.var 4) .nil)) .nil)))) .nil)))) (.cons (.ret (.var 2)) .nil))), ["vat", "program"]⟩
/-- _law_has_contents -/
def b63 : Def := ⟨2, 7, (.cons (.asg (.nm 2) (.fr (.lc (.call 21 (.cons (.ix (.var 3) (.con (.int 2))) .nil)) (.nm 3) (.seq (.call 60 (.cons (.var 0) .nil))) .none [3]))) (.cons (.ife (.or (.not (.isi (.var 1) .tuple)) (.cmp .ne (.bi .len (.cons (.var 1) .nil)) (.bi .len (.cons (.var 2) .nil)))) (.cons (.ret (.con (.bl false))) .nil) .nil) (.cons (.fr (.tp [4, 5]) (.zip (.var 2) (.var 1)) (.cons (.ife (.or (.not (.isi (.var 5) .tuple)) (.cmp .ne (.bi .len (.cons (.var 5) .nil)) (.bi .len (.cons (.var 4) .nil)))) (.cons (.ret (.con (.bl false))) .nil) .nil) (.cons (.ife (.cmp .ne (.fr (.lc (.var 6) (.nm 6) (.rg1 (.bi .len (.cons (.var 4) .nil))) (.some (.not (.call 15 (.cons (.ix (.var 5) (.var 6)) (.cons (.con (.int 0)) (.cons (.op2 .sub (.op2 .shl (.con (.int 1)) (.ix (.var 4) (.var 6))) (.con (.int 1))) .nil)))))) [6])) (.fr (.lst .nil))) (.cons (.ret (.con (.bl false))) .nil) .nil) .nil))) (.cons (.ret (.con (.bl true))) .nil)))), ["program", "value"]⟩
/-! ### widths -/
theorem wide_range : ∀ {d : Nat} {v : D} {ns : List Int}, wide d v = some ns → ∀ w ∈ ns, 1 ≤ w ∧ w ≤ 32 := by
  have hs : ∀ {v : D} {ns : List Int}, strW v = some ns → ∀ w ∈ ns, 1 ≤ w ∧ w ≤ 32 := fun {v ns} h w hw => by
    unfold strW at h
    repeat' split at h
    all_goals first | (cases h; rw [List.mem_singleton.mp hw]; decide) | cases h
  intro d
  induction d with
  | zero => exact fun h => hs h
  | succ d ih =>
    intro v ns h
    have h0 := h
    rcases wide_form h with ⟨z, rfl⟩ | ⟨x, rfl, hx⟩ | ⟨ws, rfl, hl, hj⟩ | ⟨j, x, ms, rfl, j1, j2, hx, e⟩
    · exact hs (show strW (.str z) = some ns from h0)
    · intro w hw
      have := (bitW_form2 hx).1 w hw
      omega
    · clear h0 h hl
      induction ws generalizing ns with
      | nil => cases hj; intro w hw; cases hw
      | cons x ws ih2 =>
        rw [List.map_cons, joinW] at hj
        obtain ⟨a, ha, hj⟩ := Option.bind_eq_some_iff.mp hj
        obtain ⟨b, hb, rfl⟩ := Option.map_eq_some_iff.mp hj
        intro w hw
        rcases List.mem_append.mp hw with hw | hw
        · exact ih ha w hw
        · exact ih2 hb w hw
    · intro w hw
      rw [e] at hw
      unfold repI at hw
      obtain ⟨l, hl, hw⟩ := List.mem_flatten.mp hw
      rw [(List.mem_replicate.mp hl).2] at hw
      exact ih hx w hw
/-! ### contents -/
def valsB (ws : List Int) (x : D) : Bool := match x with
  | .tup ys => decide (ys.length = ws.length) && (List.range ws.length).all fun i => isWhole (ys.getD i .non) 0 (2 ^ (ws.getD i 0).toNat - 1)
  | _ => false
def contB (wss : List (List Int)) (v : D) : Bool := match v with
  | .tup vs => decide (vs.length = wss.length) && (List.range wss.length).all fun i => valsB (wss.getD i []) (vs.getD i .non)
  | _ => false
theorem valsB_tup {ws : List Int} {ys : List D} : valsB ws (.tup ys) = (decide (ys.length = ws.length) && (List.range ws.length).all fun i => isWhole (ys.getD i .non) 0 (2 ^ (ws.getD i 0).toNat - 1)) := rfl
theorem contB_tup {wss : List (List Int)} {vs : List D} : contB wss (.tup vs) = (decide (vs.length = wss.length) && (List.range wss.length).all fun i => valsB (wss.getD i []) (vs.getD i .non)) := rfl
/-- the widths of an item -/
def widI (x : D) : List Int := (wideOf x).getD []
def badI (p : Nat → Bool) (d : D) : Option D := match d with
  | .int i => if p i.toNat = true then none else some (.int i)
  | _ => none
theorem badI_all {p : Nat → Bool} : ∀ {l : List Nat}, ((l.map fun (i : Nat) => D.int (i : Int)).filterMap (badI p)).isEmpty = l.all p
  | [] => rfl
  | i :: l => by
    rw [List.map_cons, List.filterMap_cons, List.all_cons, ← badI_all (l := l)]
    have e : badI p (.int (i : Int)) = if p i = true then none else some (.int (i : Int)) := rfl
    rw [e]
    by_cases h : p i = true
    · rw [if_pos h, h]; rfl
    · rw [if_neg h, Bool.eq_false_iff.mpr h]; rfl
theorem rgD_nat {n : Nat} : rgD 0 (n : Int) = (List.range n).map fun (i : Nat) => D.int (i : Int) := by
  rw [rgD0, List.map_map]
  simp
theorem badI_sh {p : Nat → Bool} {n : Nat} : (D.lst ((rgD 0 (n : Int)).filterMap (badI p))).sh = true := by
  have : (rgD 0 (n : Int)).filterMap (badI p) = (((List.range n).filter fun i => !p i).map fun (i : Nat) => (i : Int)).map D.int := by
    rw [rgD_nat, List.map_map]
    generalize List.range n = l
    induction l with
    | nil => rfl
    | cons a l ih =>
      have e : badI p (.int (a : Int)) = if p a = true then none else some (.int (a : Int)) := rfl
      rw [List.map_cons, List.filterMap_cons, ih, List.filter_cons, e]
      by_cases h : p a = true
      · rw [if_pos h, h]; rfl
      · rw [if_neg h, Bool.eq_false_iff.mpr h]; rfl
  rw [this]
  exact sh_iL
section
variable {Df : Nat → Option Def} {wf k : Nat} {M : Ms} {L n : Nat}
theorem shl1 {w : Int} (h1 : 1 ≤ w) (h2 : w ≤ 32) : iop .shl 1 w = .ok (.int (2 ^ w.toNat)) := by
  have e : (decide (0 ≤ w ∧ w ≤ 1000000 ∧ (1 : Int).natAbs < 2 ^ 64)) = true := decide_eq_true ⟨by omega, by omega, by decide⟩
  show stuckIf (decide (0 ≤ w ∧ w ≤ 1000000 ∧ (1 : Int).natAbs < 2 ^ 64)) (.ok (D.int (1 * 2 ^ w.toNat))) = _
  rw [e, Int.one_mul]
  rfl
theorem s45 (H0 : Df 0 = some b0) (H : Df 45 = some b45) {ws : List Int} (hw : ∀ w ∈ ws, 1 ≤ w ∧ w ≤ 32) (hl : ws.length ≤ 1000) {v : D} (hv : Fi L n v) (hn : n ≤ 60) : callD Df wf (k + 2) 45 [.d (iL ws), .d v] M = .ok (.d (.bl (valsB ws v)), M) := by
  refine eq_of ?_
  rw [w_callD H rfl]
  cases hv with
  | @tup m ys hyl hym =>
    by_cases hlen : ys.length = ws.length
    · have lc : ∀ o2, lcL (lcE (callD Df wf (k + 1)) (.var 2) (.nm 2) (.some (.not (.call 0 (.cons (.ix (.var 1) (.var 2)) (.cons (.con (.int 0)) (.cons (.op2 .sub (.op2 .shl (.con (.int 1)) (.ix (.var 0) (.var 2))) (.con (.int 1))) .nil)))))) [2] [some (.d (iL ws)), some (.d (.tup ys)), o2]) (rgD 0 (ws.length : Int)) [] M = .ok ([] ++ (rgD 0 (ws.length : Int)).filterMap (badI fun i => isWhole (ys.getD i .non) 0 (2 ^ (ws.getD i 0).toNat - 1)), M) := fun o2 =>
        lcL_pure _ (fun d hd => by
          rw [rgD_nat] at hd
          obtain ⟨i, hi, rfl⟩ := List.mem_map.mp hd
          have hi := List.mem_range.mp hi
          have hi' : i < ys.length := by omega
          have e1 : atI ys (i : Int) = some ys[i] := by rw [atI_nat rfl]; exact List.getElem?_eq_getElem hi'
          have e2 : atI (ws.map D.int) (i : Int) = some (.int ws[i]) := by rw [atI_nat rfl, List.getElem?_map, List.getElem?_eq_getElem hi]; rfl
          obtain ⟨w1, w2⟩ := hw _ (List.getElem_mem hi)
          have e0 := fun lo up => s0 (wf := wf) (k := k) (M := M) (lo := lo) (hi := up) H0 (hym _ (List.getElem_mem hi'))
          have g1 : ys.getD i .non = ys[i] := by simp [hi']
          have g2 : ws.getD i 0 = ws[i] := by simp [hi]
          refine eq_of ?_
          simp only [badI, Int.toNat_natCast, g1, g2]
          simp [iL, e1, e2, shl1 w1 w2, e0]) (by rw [sizeLine_eq]; simp; omega)
      have e : ((rgD 0 (ws.length : Int)).filterMap (badI fun i => isWhole (ys.getD i .non) 0 (2 ^ (ws.getD i 0).toNat - 1))).isEmpty = valsB ws (.tup ys) := by
        rw [rgD_nat, badI_all]
        rw [valsB_tup, decide_eq_true hlen, Bool.true_and]
      have shb := badI_sh (p := fun i => isWhole (ys.getD i .non) 0 (2 ^ (ws.getD i 0).toNat - 1)) (n := ws.length)
      obtain ⟨z, hz⟩ : ∃ z : Int, (ws.length : Int) = z := ⟨_, rfl⟩
      have hlen' : (ys.length : Int) = z := by omega
      rw [hz] at lc e shb
      simp only [iL] at lc
      generalize (fun i => isWhole (ys.getD i .non) 0 (2 ^ (ws.getD i 0).toNat - 1)) = q at lc e shb
      simp [b45, startD, iL, hlen', hz, lc, cmp_eq shb sh_nil]
      exact ⟨⟨by omega, by omega⟩, e.symm⟩
    · have hlen' : ¬ ((ys.length : Int) = ws.length) := by omega
      have : valsB ws (.tup ys) = false := by rw [valsB_tup, decide_eq_false hlen]; rfl
      simp [b45, startD, iL, hlen', this]
  | _ => simp [b45, startD, valsB]
/-- what a program is made of -/
structure PrOk (long : Int) (bs ls : List D) : Prop where
  l1 : 1 ≤ long
  l2 : long ≤ 24
  b6 : bs.length ≤ 6
  s6 : ls.length ≤ 6
  b : ∀ x ∈ bs, (stepB long x || writeB long x) = true
  l : ∀ x ∈ ls, (stepB long x || lookB long x) = true
  w3 : (bs.filter (isIt "write")).length ≤ 3
  k3 : (ls.filter (isIt "look")).length ≤ 3
theorem prog_form {v : D} (h : progB v = true) : ∃ long bs ls, v = .tup [.int long, .tup bs, .tup ls] ∧ PrOk long bs ls := by
  unfold progB at h
  split at h
  · rename_i long bs ls
    obtain ⟨h1, h2⟩ := He.ba h
    obtain ⟨l1, l2⟩ := He.ba (show (decide (1 ≤ long) && decide (long ≤ 24)) = true from h1)
    unfold bodyB at h2
    obtain ⟨c1, h2⟩ := He.ba h2
    obtain ⟨c2, h2⟩ := He.ba h2
    obtain ⟨c3, h2⟩ := He.ba h2
    obtain ⟨c4, h2⟩ := He.ba h2
    obtain ⟨c5, h2⟩ := He.ba h2
    obtain ⟨c6, h2⟩ := He.ba h2
    have c1 := of_decide_eq_true c1
    have c2 := of_decide_eq_true c2
    have c5 := of_decide_eq_true c5
    have c6 := of_decide_eq_true c6
    exact ⟨long, bs, ls, rfl, of_decide_eq_true l1, of_decide_eq_true l2, by omega, by omega, List.all_eq_true.mp c3, List.all_eq_true.mp c4, by omega, by omega⟩
  · cases h
section
variable {long : Int} {bs ls : List D}
theorem PrOk.writes (p : PrOk long bs ls) : ∀ x ∈ bs.filter (isIt "write"), writeB long x = true := fun x hx => by
  obtain ⟨q1, q2⟩ := List.mem_filter.mp hx
  exact (it_write (p.b x q1)).1 q2
theorem PrOk.looks (p : PrOk long bs ls) : ∀ x ∈ ls.filter (isIt "look"), lookB long x = true := fun x hx => by
  obtain ⟨q1, q2⟩ := List.mem_filter.mp hx
  exact (it_look (p.l x q1)).1 q2
theorem head_sh {z : PySem.Str} (h : z = "again" ∨ z = "clear" ∨ z = "copy" ∨ z = "swap") : (D.str z).sh = true := by
  rcases h with rfl | rfl | rfl | rfl <;> simp
theorem PrOk.hb (p : PrOk long bs ls) : ∀ x ∈ bs, ∃ z r, x = .tup (.str z :: r) ∧ (D.str z).sh = true := fun x hx => by
  rcases Bool.or_eq_true_iff.mp (p.b x hx) with q | q
  · obtain ⟨z, r, e, hz⟩ := step_head q
    exact ⟨z, r, e, head_sh hz⟩
  · obtain ⟨a, s, rfl, _⟩ := write_form q
    exact ⟨_, _, rfl, by simp⟩
theorem PrOk.hl (p : PrOk long bs ls) : ∀ x ∈ ls, ∃ z r, x = .tup (.str z :: r) ∧ (D.str z).sh = true := fun x hx => by
  rcases Bool.or_eq_true_iff.mp (p.l x hx) with q | q
  · obtain ⟨z, r, e, hz⟩ := step_head q
    exact ⟨z, r, e, head_sh hz⟩
  · obtain ⟨a, s, j, rfl, _⟩ := look_form q
    exact ⟨_, _, rfl, by simp⟩
theorem write_wid {x : D} (h : writeB long x = true) : ∃ a s ns, x = .tup [.str "write", .int a, s] ∧ 0 ≤ a ∧ a ≤ long - 1 ∧ wide 3 s = some ns ∧ ns.length ≤ 10 ∧ shapeW s = some ns ∧ widI x = ns := by
  obtain ⟨a, s, rfl, ha, hs⟩ := write_form h
  obtain ⟨ns, h1, h2, h3⟩ := shapeW_wide hs
  obtain ⟨a1, a2⟩ := He.ba (show (decide (0 ≤ a) && decide (a ≤ long - 1)) = true from ha)
  exact ⟨a, s, ns, rfl, of_decide_eq_true a1, of_decide_eq_true a2, h1, h2, h3, by show (wide 3 s).getD [] = ns; rw [h1]; rfl⟩
theorem look_wid {x : D} (h : lookB long x = true) : ∃ a s j ns, x = .tup [.str "look", .int a, s, j] ∧ 0 ≤ a ∧ a ≤ long - 1 ∧ wide 3 s = some ns ∧ ns.length ≤ 10 ∧ shapeW s = some ns ∧ widI x = ns := by
  obtain ⟨a, s, j, rfl, ha, hs⟩ := look_form h
  obtain ⟨ns, h1, h2, h3⟩ := shapeW_wide hs
  obtain ⟨a1, a2⟩ := He.ba (show (decide (0 ≤ a) && decide (a ≤ long - 1)) = true from ha)
  exact ⟨a, s, j, ns, rfl, of_decide_eq_true a1, of_decide_eq_true a2, h1, h2, h3, by show (wide 3 s).getD [] = ns; rw [h1]; rfl⟩
end
/-- has_contents -/
theorem s46 (H0 : Df 0 = some b0) (H8 : Df 8 = some b8) (H39 : Df 39 = some b39) (H45 : Df 45 = some b45) (H : Df 46 = some b46) {long : Int} {bs ls : List D} (p : PrOk long bs ls) {v : D} (hv : Fi L n v) (hn : n ≤ 60) :
    callD Df wf (k + 6) 46 [.d (.tup [.int long, .tup bs, .tup ls]), .d v] M = .ok (.d (.bl (contB ((bs.filter (isIt "write")).map widI) v)), M) := by
  refine eq_of ?_
  rw [w_callD H rfl]
  have e39 := fun M => s39 (wf := wf) (k := k + 4) (M := M) H39 (a := .int long) (c := .tup ls) p.hb (by have := p.b6; omega)
  obtain ⟨W, hW⟩ : ∃ W, W = bs.filter (isIt "write") := ⟨_, rfl⟩
  have hw := p.writes
  have w3 := p.w3
  rw [← hW] at e39 hw w3 ⊢
  cases hv with
  | @tup m ys hyl hym =>
    by_cases hlen : ys.length = W.length
    · have lc : ∀ o3, lcL (lcE (callD Df wf (k + 5)) (.var 3) (.nm 3) (.some (.not (.call 45 (.cons (.call 8 (.cons (.ix (.ix (.var 2) (.var 3)) (.con (.int 2))) .nil)) (.cons (.ix (.var 1) (.var 3)) .nil))))) [3] [some (.d (.tup [.int long, .tup bs, .tup ls])), some (.d (.tup ys)), some (.d (.lst W)), o3]) (rgD 0 (W.length : Int)) [] M = .ok ([] ++ (rgD 0 (W.length : Int)).filterMap (badI fun i => valsB ((W.map widI).getD i []) (ys.getD i .non)), M) := fun o3 =>
        lcL_pure _ (fun d hd => by
          rw [rgD_nat] at hd
          obtain ⟨i, hi, rfl⟩ := List.mem_map.mp hd
          have hi := List.mem_range.mp hi
          have hi' : i < ys.length := by omega
          obtain ⟨a, s, ns, ew, _, _, e1, l10, _, ewid⟩ := write_wid (hw _ (List.getElem_mem hi))
          have g1 : atI ys (i : Int) = some ys[i] := by rw [atI_nat rfl]; exact List.getElem?_eq_getElem hi'
          have g2 : atI W (i : Int) = some (.tup [.str "write", .int a, s]) := by rw [atI_nat rfl, List.getElem?_eq_getElem hi, ew]
          have e8 := fun M => s8 (wf := wf) H8 (d := 3) (k := k + 1) (M := M) (by omega) e1
          have e45 := fun M => s45 (wf := wf) (k := k + 3) (M := M) H0 H45 (wide_range e1) (by omega) (hym _ (List.getElem_mem hi')) (by omega)
          have q1 : ys.getD i .non = ys[i] := by simp [hi']
          have q2 : (W.map widI).getD i [] = ns := by simp [hi, ewid]
          refine eq_of ?_
          simp only [badI, Int.toNat_natCast, q1, q2]
          simp [g1, g2, e8, e45]) (by rw [sizeLine_eq]; simp; omega)
      have e : ((rgD 0 (W.length : Int)).filterMap (badI fun i => valsB ((W.map widI).getD i []) (ys.getD i .non))).isEmpty = contB (W.map widI) (.tup ys) := by
        rw [rgD_nat, badI_all, contB_tup, List.length_map, decide_eq_true hlen, Bool.true_and]
      have shb := badI_sh (p := fun i => valsB ((W.map widI).getD i []) (ys.getD i .non)) (n := W.length)
      obtain ⟨z, hz⟩ : ∃ z : Int, (W.length : Int) = z := ⟨_, rfl⟩
      have hlen' : (ys.length : Int) = z := by omega
      rw [hz] at lc e shb
      generalize (fun i => valsB ((W.map widI).getD i []) (ys.getD i .non)) = q at lc e shb
      simp [b46, startD, e39, hlen', hz, lc, cmp_eq shb sh_nil]
      exact ⟨⟨by omega, by omega⟩, e.symm⟩
    · have hlen' : ¬ ((ys.length : Int) = W.length) := by omega
      have : contB (W.map widI) (.tup ys) = false := by rw [contB_tup, List.length_map, decide_eq_false hlen]; rfl
      simp [b46, startD, e39, hlen', this]
  | _ => simp [b46, startD, e39, contB]
end

end PyP

set_option Elab.async false
set_option linter.all false
set_option maxRecDepth 100000
set_option maxHeartbeats 4000000
/-! PyP16: which machines programs suit; contents drawn (47 to 49, 60 to 63). -/
namespace PyP
open PySem hiding Env
open PySem.Spec PyProof.Rows L2 PyD
/-! ### which machines suit -/
def fitI (c : Mc) (long : Int) (x : D) : Bool := match x with
  | .tup (_ :: .int a :: s :: _) => decide (a + (layS c 3 s).1 ≤ long)
  | _ => false
section
variable {Df : Nat → Option Def} {wf k : Nat} {M : Ms} {L n : Nat} {c : Mc} {long : Int} {bs ls : List D}
theorem s47t (S : HasP Df) (H45 : Df 45 = some b45) (H46 : Df 46 = some b46) (H : Df 47 = some b47) {v : D} {n' : Nat} (ok : PrOk long bs ls) (h : progB (.tup [.int long, .tup bs, .tup ls]) = true) (fp : Fi L n' (.tup [.int long, .tup bs, .tup ls])) (hp : n' ≤ 60) (hL : L ≤ 100) (hv : Fi L n v) (hn : n ≤ 60) :
    callD Df wf (k + 11) 47 [.d (.tup [.int long, .tup bs, .tup ls]), .d v] M = .ok (.d (.bl (contB ((bs.filter (isIt "write")).map widI) v)), M) := by
  refine eq_of ?_
  rw [w_callD H rfl]
  have e44 := fun M => s44 (wf := wf) (k := k) (M := M) S fp hp hL
  have e46 := fun M => s46 (wf := wf) (k := k + 4) (M := M) S.h0 S.h8 S.h39 H45 H46 ok hv hn
  simp [b47, startD, e44, h, e46]
theorem s47f (S : HasP Df) (H : Df 47 = some b47) {p v : D} {n' : Nat} (h : progB p = false) (fp : Fi L n' p) (hp : n' ≤ 60) (hL : L ≤ 100) :
    callD Df wf (k + 11) 47 [.d p, .d v] M = .exc 4 M := by
  refine eq_of ?_
  rw [w_callD H rfl]
  have e44 := fun M => s44 (wf := wf) (k := k) (M := M) S fp hp hL
  simp [b47, startD, e44, h]
theorem PrOk.fit_lc (p : PrOk long bs ls) (hc : McOk c) (H32 : Df 32 = some b32) (H33 : Df 33 = some b33) (H34 : Df 34 = some b34) {ws : List D} (hW : ∀ x ∈ ws, ∃ z a s r ns, x = .tup (.str z :: .int a :: s :: r) ∧ wide 3 s = some ns) (hl : ws.length ≤ 1000) {o2 o3 o4 : Option W} (ρ : Env)
    (h0 : ρ = [some (.d (.tup [.int long, .tup bs, .tup ls])), some (.d c.d), o2, o3, o4]) :
    lcL (lcE (callD Df wf (k + 5)) (.var 4) (.nm 4) (.some (.cmp .gt (.op2 .add (.ix (.var 4) (.con (.int 1))) (.ix (.call 34 (.cons (.var 1) (.cons (.ix (.var 4) (.con (.int 2))) .nil))) (.con (.int 0)))) (.ix (.var 0) (.con (.int 0))))) [4] ρ) ws [] M = .ok ([] ++ ws.filterMap (badO (fitI c long)), M) := by
  subst h0
  refine lcL_pure _ (fun d hd => ?_) (by rw [sizeLine_eq]; simp; omega)
  obtain ⟨z, a, s, r, ns, rfl, e1⟩ := hW d hd
  have e34 := fun M => s34 (wf := wf) (M := M) hc H32 H33 H34 (d := 3) (k := k) e1
  refine eq_of ?_
  by_cases hh : a + (layS c 3 s).1 ≤ long
  · have h2 : ¬ (long < a + (layS c 3 s).1) := by omega
    simp [e34, badO, fitI, hh, h2]
  · have h2 : long < a + (layS c 3 s).1 := by omega
    simp [e34, badO, fitI, hh, h2]
theorem fits_w (p : PrOk long bs ls) : ∀ x ∈ bs.filter (isIt "write"), ∃ z a s r ns, x = .tup (.str z :: .int a :: s :: r) ∧ wide 3 s = some ns := fun x hx => by
  obtain ⟨a, s, ns, rfl, _, _, e, _⟩ := write_wid (p.writes x hx)
  exact ⟨_, a, s, [], ns, rfl, e⟩
theorem fits_l (p : PrOk long bs ls) : ∀ x ∈ ls.filter (isIt "look"), ∃ z a s r ns, x = .tup (.str z :: .int a :: s :: r) ∧ wide 3 s = some ns := fun x hx => by
  obtain ⟨a, s, j, ns, rfl, _, _, e, _⟩ := look_wid (p.looks x hx)
  exact ⟨_, a, s, [j], ns, rfl, e⟩
structure HasM (Df : Nat → Option Def) : Prop where
  h3 : Df 3 = some b3
  h4 : Df 4 = some b4
  h31 : Df 31 = some b31
  h32 : Df 32 = some b32
  h33 : Df 33 = some b33
  h34 : Df 34 = some b34
  h45 : Df 45 = some b45
  h46 : Df 46 = some b46
  h47 : Df 47 = some b47
  h48 : Df 48 = some b48
  h49 : Df 49 = some b49
/-- does_suit -/
theorem s48w (S : HasP Df) (T : HasM Df) (p : PrOk long bs ls) (hc : McOk c) (hf : ∀ x ∈ bs, Fi L n x) (hbl : bs.length ≤ 100 + L) (hn : n ≤ 60) :
    callD Df wf (k + 6) 48 [.d (.tup [.int long, .tup bs, .tup ls]), .d c.d, .d (.str "writer")] M = .ok (.d (.bl ((bs.filter (isIt "write")).all (fitI c long))), M) := by
  refine eq_of ?_
  rw [w_callD T.h48 rfl]
  have e39 := fun M => s39 (wf := wf) (k := k + 4) (M := M) S.h39 (a := .int long) (c := .tup ls) p.hb (by have := p.b6; omega)
  have lc := fun o2 o3 o4 => p.fit_lc (wf := wf) (k := k) (M := M) (o2 := o2) (o3 := o3) (o4 := o4) hc T.h32 T.h33 T.h34 (fits_w p) (by have := p.w3; omega) _ rfl
  have hl := List.length_filter_le (isIt "write") bs
  have sh := bad_sh (L := L) (n := n) (p := fitI c long) (ds := bs.filter (isIt "write")) (fun d hd => hf d (List.mem_filter.mp hd).1) (by omega) (by omega)
  have e := badO_all (p := fitI c long) (ds := bs.filter (isIt "write"))
  generalize bs.filter (isIt "write") = W at *
  simp [b48, startD, e39, lc, cmp_eq sh sh_nil, e]
theorem s48l (S : HasP Df) (T : HasM Df) (p : PrOk long bs ls) (hc : McOk c) (hf : ∀ x ∈ ls, Fi L n x) (hll : ls.length ≤ 100 + L) (hn : n ≤ 60) :
    callD Df wf (k + 6) 48 [.d (.tup [.int long, .tup bs, .tup ls]), .d c.d, .d (.str "reader")] M = .ok (.d (.bl ((ls.filter (isIt "look")).all (fitI c long))), M) := by
  refine eq_of ?_
  rw [w_callD T.h48 rfl]
  have e40 := fun M => s40 (wf := wf) (k := k + 4) (M := M) S.h40 (a := .int long) (c := .tup bs) p.hl (by have := p.s6; omega)
  have lc := fun o2 o3 o4 => p.fit_lc (wf := wf) (k := k) (M := M) (o2 := o2) (o3 := o3) (o4 := o4) hc T.h32 T.h33 T.h34 (fits_l p) (by have := p.k3; omega) _ rfl
  have hl := List.length_filter_le (isIt "look") ls
  have sh := bad_sh (L := L) (n := n) (p := fitI c long) (ds := ls.filter (isIt "look")) (fun d hd => hf d (List.mem_filter.mp hd).1) (by omega) (by omega)
  have e := badO_all (p := fitI c long) (ds := ls.filter (isIt "look"))
  generalize ls.filter (isIt "look") = W at *
  simp [b48, startD, e40, lc, cmp_eq sh sh_nil, e]
theorem mc_mach (hc : McOk c) : machB c.d = true := by
  have h1 := hc.s
  have h2 := hc.m
  have h3 := hc.l
  have h4 := hc.al
  have h5 := hc.ord
  unfold p2 at h4
  show (sizesB (.tup [.int c.s, .int c.m, .int c.l]) && (isOneOf (.int c.al) [.int 1, .int 2, .int 4, .int 8] && (isWord (.str c.ord) [.str "big", .str "little", .str "pairs"] && isBool (.bl c.low)))) = true
  have q1 : sizesB (.tup [.int c.s, .int c.m, .int c.l]) = true := by
    show (isOneOf (.int c.s) [.int 1, .int 2] && (isOneOf (.int c.m) [.int 2, .int 4] && isOneOf (.int c.l) [.int 4, .int 8])) = true
    rcases h1 with h1 | h1 <;> rcases h2 with h2 | h2 <;> rcases h3 with h3 | h3 <;> rw [h1, h2, h3] <;> rfl
  have q2 : isOneOf (.int c.al) [.int 1, .int 2, .int 4, .int 8] = true := by rcases h4 with h4 | h4 | h4 | h4 <;> rw [h4] <;> rfl
  have q3 : isWord (.str c.ord) [.str "big", .str "little", .str "pairs"] = true := by rcases h5 with h5 | h5 | h5 <;> rw [h5] <;> decide +kernel
  rw [q1, q2, q3]; rfl
theorem s49w (S : HasP Df) (T : HasM Df) (p : PrOk long bs ls) (hp : progB (.tup [.int long, .tup bs, .tup ls]) = true) (hc : McOk c) {m m' : Nat} (fp : Fi L (n + 2) (.tup [.int long, .tup bs, .tup ls])) (fc : Fi L m c.d) (hn : n + 2 ≤ 60) (hL : L ≤ 100) :
    callD Df wf (k + 11) 49 [.d (.tup [.int long, .tup bs, .tup ls]), .d c.d, .d (.str "writer")] M = .ok (.d (.bl ((bs.filter (isIt "write")).all (fitI c long))), M) := by
  have e44 := fun M => s44 (wf := wf) (k := k) (M := M) S fp hn hL
  have e31 := fun M => s31 (wf := wf) (k := k + 6) (M := M) S.h1 S.h2 T.h3 T.h4 T.h31 fc
  have fi : ∀ x ∈ bs, Fi L n x := by
    cases fp with
    | tup _ q => cases q (.tup bs) (by simp) with
      | tup _ q => exact q
  have e48 := fun M => s48w (wf := wf) (k := k + 4) (M := M) S T p hc fi (by have := p.b6; omega) (by omega)
  have e1 := fun M => s1 (wf := wf) (k := k + 9) (M := M) (L := 0) (n := 0) (v := .str "writer") (ds := [.str "writer", .str "reader"]) S.h1 (fi_lit (by decide +kernel)) rfl
  have w : isWord (.str "writer") [.str "writer", .str "reader"] = true := by decide +kernel
  rw [hp] at e44
  rw [mc_mach hc] at e31
  rw [w] at e1
  refine eq_of ?_
  rw [w_callD T.h49 rfl]
  simp [b49, startD, e44, e31, e1, e48, sizeLine_eq]
theorem s49l (S : HasP Df) (T : HasM Df) (p : PrOk long bs ls) (hp : progB (.tup [.int long, .tup bs, .tup ls]) = true) (hc : McOk c) {m m' : Nat} (fp : Fi L (n + 2) (.tup [.int long, .tup bs, .tup ls])) (fc : Fi L m c.d) (hn : n + 2 ≤ 60) (hL : L ≤ 100) :
    callD Df wf (k + 11) 49 [.d (.tup [.int long, .tup bs, .tup ls]), .d c.d, .d (.str "reader")] M = .ok (.d (.bl ((ls.filter (isIt "look")).all (fitI c long))), M) := by
  have e44 := fun M => s44 (wf := wf) (k := k) (M := M) S fp hn hL
  have e31 := fun M => s31 (wf := wf) (k := k + 6) (M := M) S.h1 S.h2 T.h3 T.h4 T.h31 fc
  have fi : ∀ x ∈ ls, Fi L n x := by
    cases fp with
    | tup _ q => cases q (.tup ls) (by simp) with
      | tup _ q => exact q
  have e48 := fun M => s48l (wf := wf) (k := k + 4) (M := M) S T p hc fi (by have := p.s6; omega) (by omega)
  have e1 := fun M => s1 (wf := wf) (k := k + 9) (M := M) (L := 0) (n := 0) (v := .str "reader") (ds := [.str "writer", .str "reader"]) S.h1 (fi_lit (by decide +kernel)) rfl
  have w : isWord (.str "reader") [.str "writer", .str "reader"] = true := by decide +kernel
  rw [hp] at e44
  rw [mc_mach hc] at e31
  rw [w] at e1
  refine eq_of ?_
  rw [w_callD T.h49 rfl]
  simp [b49, startD, e44, e31, e1, e48, sizeLine_eq]
theorem s49_role (S : HasP Df) (T : HasM Df) {pr v : D} {n' m : Nat} (hp : progB pr = true) (hc : McOk c) (fp : Fi L n' pr) (fc : Fi L m c.d) (hn : n' ≤ 60) (hL : L ≤ 100) (hv : Fi L n v) (hr : isWord v [.str "writer", .str "reader"] = false) :
    callD Df wf (k + 11) 49 [.d pr, .d c.d, .d v] M = .exc 7 M := by
  have e44 := fun M => s44 (wf := wf) (k := k) (M := M) S fp hn hL
  have e31 := fun M => s31 (wf := wf) (k := k + 6) (M := M) S.h1 S.h2 T.h3 T.h4 T.h31 fc
  have e1 := fun M => s1 (wf := wf) (k := k + 9) (M := M) (ds := [.str "writer", .str "reader"]) S.h1 hv rfl
  rw [hp] at e44
  rw [mc_mach hc] at e31
  rw [hr] at e1
  refine eq_of ?_
  rw [w_callD T.h49 rfl]
  simp [b49, startD, e44, e31, e1, sizeLine_eq]
theorem s49_mach (S : HasP Df) (T : HasM Df) {pr v w : D} {n' m : Nat} (hp : progB pr = true) (fp : Fi L n' pr) (hn : n' ≤ 60) (hL : L ≤ 100) (hv : Fi L n v) (hm : machB v = false) :
    callD Df wf (k + 11) 49 [.d pr, .d v, .d w] M = .exc 1 M := by
  have e44 := fun M => s44 (wf := wf) (k := k) (M := M) S fp hn hL
  have e31 := fun M => s31 (wf := wf) (k := k + 6) (M := M) S.h1 S.h2 T.h3 T.h4 T.h31 hv
  rw [hp] at e44
  rw [hm] at e31
  refine eq_of ?_
  rw [w_callD T.h49 rfl]
  simp [b49, startD, e44, e31, sizeLine_eq]
/-! ### the law's own -/
theorem no_write (p : PrOk long bs ls) : ls.filter (isIt "write") = [] := List.filter_eq_nil_iff.mpr fun x hx e => by
  rcases Bool.or_eq_true_iff.mp (p.l x hx) with q | q
  · rw [step_nowrite q] at e; cases e
  · obtain ⟨a, s, j, rfl, _⟩ := look_form q
    simp [isIt] at e
theorem step_nolook {x : D} (h : stepB long x = true) : isIt "look" x = false := by
  obtain ⟨z, r, rfl, hz⟩ := step_head h
  simp [isIt]
  intro e
  subst e
  simp at hz
theorem no_look (p : PrOk long bs ls) : bs.filter (isIt "look") = [] := List.filter_eq_nil_iff.mpr fun x hx e => by
  rcases Bool.or_eq_true_iff.mp (p.b x hx) with q | q
  · rw [step_nolook q] at e; cases e
  · obtain ⟨a, s, rfl, _⟩ := write_form q
    simp [isIt] at e
theorem s60 (H : Df 60 = some b60) {a c : D} {bs : List D} (hb : ∀ x ∈ bs, ∃ z r, x = .tup (.str z :: r) ∧ (D.str z).sh = true) (hl : bs.length ≤ 1000) : callD Df wf (k + 1) 60 [.d (.tup [a, .tup bs, c])] M = .ok (.d (.lst (bs.filter (isIt "write"))), M) := by
  refine eq_of ?_
  rw [w_callD H rfl]
  have lc : ∀ ρ, lcL (lcE (callD Df wf k) (.var 1) (.nm 1) (.some (.cmp .eq (.ix (.var 1) (.con (.int 0))) (.con (.str "write")))) [1] [some (.d (.tup [a, .tup bs, c])), ρ]) bs [] M = .ok ([] ++ bs.filterMap (keepO (isIt "write")), M) := fun ρ =>
    lcL_pure _ (fun d hd => by
      refine eq_of ?_
      obtain ⟨z, r, rfl, hz⟩ := hb d hd
      simp [isIt, hz, keepO]) (by rw [sizeLine_eq]; simp; omega)
  simp [b60, startD, lc, keepO_filter]
theorem s61 (p : PrOk long bs ls) (hc : McOk c) (hwf : 9 ≤ wf) (H59 : Df 59 = some b59) (H : Df 61 = some b61) {w : PySem.Str} (hw : w = "write" ∨ w = "look") :
    callD Df wf (k + 5) 61 [.d (.tup [.int long, .tup bs, .tup ls]), .d c.d, .d (.str w)] M = .ok (.d (.bl (((bs ++ ls).filter (isIt w)).all (fitI c long))), M) := by
  refine eq_of ?_
  rw [w_callD H rfl]
  have hws : (D.str w).sh = true := by rcases hw with rfl | rfl <;> simp
  have hlen : bs.length + ls.length ≤ 16777216 := by have := p.b6; have := p.s6; omega
  obtain ⟨tot, htot⟩ : ∃ tot, tot = ((bs ++ ls).filter (isIt w)).all (fitI c long) := ⟨_, rfl⟩
  rw [← htot]
  simp [b61, startD, sizeLine_eq]
  refine ⟨hlen, ?_⟩
  refine wx_forL (fun r ρ M' => M' = M ∧ (∀ x ∈ r, x ∈ bs ++ ls) ∧ (r.filter (isIt w)).all (fitI c long) = tot ∧ ∃ o3, ρ = [some (.d (.tup [.int long, .tup bs, .tup ls])), some (.d c.d), some (.d (.str w)), o3]) ⟨rfl, fun x hx => hx, htot.symm, none, rfl⟩ (fun x r ρ M' hI => ?_) (fun ρ M' hI => ?_)
  · obtain ⟨rfl, h1, h2, o3, rfl⟩ := hI
    have hx := h1 x (by simp)
    have hh : ∃ z r, x = .tup (.str z :: r) ∧ (D.str z).sh = true := by
      rcases List.mem_append.mp hx with hx | hx
      · exact p.hb x hx
      · exact p.hl x hx
    by_cases hi : isIt w x = true
    · have hf : ∃ z a s r ns, x = .tup (.str z :: .int a :: s :: r) ∧ wide 3 s = some ns := by
        rcases hw with rfl | rfl
        · rcases List.mem_append.mp hx with hx | hx
          · exact fits_w p x (List.mem_filter.mpr ⟨hx, hi⟩)
          · have : x ∈ ls.filter (isIt "write") := List.mem_filter.mpr ⟨hx, hi⟩
            rw [no_write p] at this; cases this
        · rcases List.mem_append.mp hx with hx | hx
          · have : x ∈ bs.filter (isIt "look") := List.mem_filter.mpr ⟨hx, hi⟩
            rw [no_look p] at this; cases this
          · exact fits_l p x (List.mem_filter.mpr ⟨hx, hi⟩)
      obtain ⟨z, a, s, r', ns, rfl, e1⟩ := hf
      obtain ⟨z', r'', ex, hz⟩ := hh
      cases ex
      have e59 := fun M => s59 (wf := wf) (M := M) hc hwf H59 (d := 3) (k := k) (by omega) e1
      have hzw : z = w := by
        have : (z == w) = true := hi
        exact eq_of_beq this
      rw [List.filter_cons, if_pos hi, List.all_cons] at h2
      by_cases hfit : a + (layS c 3 s).1 ≤ long
      · have h2' : ¬ (long < a + (layS c 3 s).1) := by omega
        have hft : fitI c long (.tup (.str z :: .int a :: s :: r')) = true := decide_eq_true hfit
        rw [hft, Bool.true_and] at h2
        simp [hz, hws, hzw, e59, layV, h2']
        exact ⟨fun y hy => by simpa using h1 y (by simp [hy]), by simpa using h2⟩
      · have h2' : long < a + (layS c 3 s).1 := by omega
        have hft : fitI c long (.tup (.str z :: .int a :: s :: r')) = false := decide_eq_false hfit
        rw [hft, Bool.false_and] at h2
        simp [hz, hws, hzw, e59, layV, h2', ← h2]
    · rw [List.filter_cons, if_neg hi] at h2
      obtain ⟨z, r', rfl, hz⟩ := hh
      have hzw : ¬ z = w := fun e => hi (by show (z == w) = true; rw [e]; exact beq_self_eq_true w)
      simp [hz, hws, hzw]
      exact ⟨fun y hy => by simpa using h1 y (by simp [hy]), by simpa using h2⟩
  · obtain ⟨rfl, h1, h2, o3, rfl⟩ := hI
    have h2 : true = tot := h2
    simp [← h2]
end

end PyP

set_option Elab.async false
set_option linter.all false
set_option maxRecDepth 100000
set_option maxHeartbeats 4000000
/-! PyPU: small lemmas for the laws. -/
namespace PyP
open PySem hiding Env
open PySem.Spec PyProof.Rows L2 PyD
theorem g1 {Q : W × Ms → Prop} {n : Nat} {M : Ms} : nmE enm n Q 1 M = Q (.d (.str "machine value"), M.take n) := nmE_mk rfl
theorem g2 {Q : W × Ms → Prop} {n : Nat} {M : Ms} : nmE enm n Q 2 M = Q (.d (.str "family value"), M.take n) := nmE_mk rfl
theorem g4 {Q : W × Ms → Prop} {n : Nat} {M : Ms} : nmE enm n Q 4 M = Q (.d (.str "program value"), M.take n) := nmE_mk rfl
theorem g7 {Q : W × Ms → Prop} {n : Nat} {M : Ms} : nmE enm n Q 7 M = Q (.d (.str "role value"), M.take n) := nmE_mk rfl
theorem g14 {Q : W × Ms → Prop} {n : Nat} {M : Ms} : nmE enm n Q 14 M = Q (.d (.str "misfit value"), M.take n) := nmE_mk rfl
theorem apI_new {M : Ms} {ds : List D} {x : D} (h : ds.length < 16777216) : apI (M ++ [.lst ds]) M.length x = .ok (M ++ [.lst (ds ++ [x])]) := by
  rw [apI_c (ds := ds) (by simp) (by rw [sizeLine_eq]; exact h)]
  simp
theorem cell_new {M : Ms} {ds : List D} : PyD.cellOf (M ++ [.lst ds]) (.c M.length) = .ok M.length := cell_c (ds := ds) (by simp)
theorem view_new {M : Ms} {ds : List D} : view (M ++ [.lst ds]) (.c M.length) = .ok (.lst ds) := view_c (by simp)
theorem ret_new {M : Ms} {c d : C} : retD M.length (.c (M.length + 1)) (M ++ [c, d]) = .ok (.c M.length, M ++ [d]) := by
  unfold retD
  simp
@[simp] theorem take_new {M : Ms} {c : C} : List.take (M.length + 1) (M ++ [c]) = M ++ [c] := List.take_of_length_le (by simp)
@[simp] theorem take_new0 {M : Ms} {c : List C} : List.take M.length (M ++ c) = M := List.take_left' rfl
theorem frz_new {M : Ms} {ds : List D} : frz (M ++ [.lst ds]) (.c M.length) = .ok (.lst ds, M ++ [.fro ds]) := by
  rw [frz_c (ds := ds) (by simp)]
  simp
theorem lc_same {cl : Nat → List W → Ms → R (W × Ms)} {ρ : Env} {a : String} {j : Nat} (h : 8 < ρ.length) (hj : j ≤ 1000) : lcL (lcE cl (.var 8) (.nm 8) (.some (.cmp .ne (.var 8) (.con (.str (PySem.Str.ofString a))))) [8] ρ) (List.replicate j (.str (PySem.Str.ofString a))) [] M = .ok ([], M) := by
  have := lcL_pure (elt := lcE cl (.var 8) (.nm 8) (.some (.cmp .ne (.var 8) (.con (.str (PySem.Str.ofString a))))) [8] ρ) (M := M) (fun _ => none) (ds := List.replicate j (.str (PySem.Str.ofString a))) (acc := []) (fun d hd => by
    have := (List.mem_replicate.mp hd).2
    subst this
    refine eq_of ?_
    have h8 : ∀ w, (ρ.set 8 (some w))[8]? = some (some w) := fun w => List.getElem?_set_self h
    simp [h8]) (by rw [sizeLine_eq]; simp; omega)
  rw [this]
  simp
theorem lc_none {cl : Nat → List W → Ms → R (W × Ms)} {e : PyD.E} {t : Tg} {c : Eo} {own : List Nat} {ρ : Env} : lcL (lcE cl e t c own ρ) [] [] M = .ok ([], M) := by rw [lcL]
theorem fi_mach {c : Mc} (hc : McOk c) : Fi 0 2 c.d := by
  have g1 := hc.s
  have g2 := hc.m
  have g3 := hc.l
  have g4 := hc.al
  unfold p2 at g4
  refine .tup (by simp) fun x hx => ?_
  simp at hx
  rcases hx with rfl | rfl | rfl | rfl
  · refine .tup (by simp) fun x hx => ?_
    simp at hx
    rcases hx with rfl | rfl | rfl <;> exact fi_small (by omega) (by omega)
  · exact fi_small (by omega) (by omega)
  · rcases hc.ord with h | h | h <;> rw [h] <;> exact fi_lit (by decide +kernel)
  · exact .bl _
end PyP

set_option Elab.async false
set_option linter.all false
set_option maxRecDepth 100000
set_option maxHeartbeats 4000000
/-! PyK19a (only what k19 runs): the doors of the interface: what is refused, and in which order. -/
namespace PyP
open PySem hiding Env
open PySem.Spec PyProof.Rows L2 PyD
/-- need_contents -/
def b89 : Def := ⟨2, 2, (.cons (.ife (.not (.call 46 (.cons (.var 0) (.cons (.var 1) .nil)))) (.cons (.rai 5) .nil) .nil) .nil), ["program", "contents"]⟩
/-- are_bytes -/
def b90 : Def := ⟨2, 3, (.cons (.ife (.or (.not (.isi (.var 0) .tuple)) (.cmp .ne (.bi .len (.cons (.var 0) .nil)) (.var 1))) (.cons (.ret (.con (.bl false))) .nil) .nil) (.cons (.ret (.cmp .eq (.fr (.lc (.var 2) (.nm 2) (.seq (.var 0)) (.some (.not (.call 0 (.cons (.var 2) (.cons (.con (.int 0)) (.cons (.con (.int 255)) .nil)))))) [2])) (.fr (.lst .nil)))) .nil)), ["value", "many"]⟩
/-- need_bytes -/
def b91 : Def := ⟨2, 2, (.cons (.ife (.not (.call 90 (.cons (.var 0) (.cons (.var 1) .nil)))) (.cons (.rai 6) .nil) .nil) .nil), ["value", "many"]⟩
/-- need_fit -/
def b92 : Def := ⟨3, 4, (.cons (.fr (.nm 3) (.seq (.var 1)) (.cons (.ife (.not (.call 48 (.cons (.var 0) (.cons (.var 3) (.cons (.con (.str "writer")) .nil))))) (.cons (.rai 14) .nil) .nil) .nil)) (.cons (.fr (.nm 3) (.seq (.var 2)) (.cons (.ife (.not (.call 48 (.cons (.var 0) (.cons (.var 3) (.cons (.con (.str "reader")) .nil))))) (.cons (.rai 14) .nil) .nil) .nil)) .nil)), ["program", "writers", "readers"]⟩
/-- sent -/
def b105 : Def := ⟨4, 4, (.cons (.ex (.call 44 (.cons (.var 0) .nil))) (.cons (.ex (.call 31 (.cons (.var 1) .nil))) (.cons (.ex (.call 89 (.cons (.var 0) (.cons (.var 2) .nil)))) (.cons (.ex (.call 91 (.cons (.var 3) (.cons (.ix (.var 0) (.con (.int 0))) .nil)))) (.cons (.ex (.call 92 (.cons (.var 0) (.cons (.fr (.lst (.cons (.var 1) .nil))) (.cons (.fr (.lst .nil)) .nil))))) (.cons .bad .nil)))))), ["program", "machine", "contents", "old"]⟩
/-- read -/
def b106 : Def := ⟨5, 5, (.cons (.ex (.call 44 (.cons (.var 0) .nil))) (.cons (.ex (.call 31 (.cons (.var 1) .nil))) (.cons (.ex (.call 31 (.cons (.var 2) .nil))) (.cons (.ex (.call 89 (.cons (.var 0) (.cons (.var 3) .nil)))) (.cons (.ex (.call 91 (.cons (.var 4) (.cons (.ix (.var 0) (.con (.int 0))) .nil)))) (.cons (.ex (.call 92 (.cons (.var 0) (.cons (.fr (.lst (.cons (.var 1) .nil))) (.cons (.fr (.lst (.cons (.var 2) .nil))) .nil))))) (.cons .bad .nil))))))), ["program", "writer", "reader", "contents", "old"]⟩
/-- sent_fates -/
def b126 : Def := ⟨2, 2, (.cons (.ex (.call 44 (.cons (.var 0) .nil))) (.cons (.ex (.call 31 (.cons (.var 1) .nil))) (.cons (.ex (.call 92 (.cons (.var 0) (.cons (.fr (.lst (.cons (.var 1) .nil))) (.cons (.fr (.lst .nil)) .nil))))) (.cons .bad .nil)))), ["program", "machine"]⟩
/-- read_fates -/
def b127 : Def := ⟨3, 4, (.cons (.ex (.call 44 (.cons (.var 0) .nil))) (.cons (.ex (.call 31 (.cons (.var 1) .nil))) (.cons (.ex (.call 31 (.cons (.var 2) .nil))) (.cons (.ex (.call 92 (.cons (.var 0) (.cons (.fr (.lst (.cons (.var 1) .nil))) (.cons (.fr (.lst (.cons (.var 2) .nil))) .nil))))) (.cons .bad .nil))))), ["program", "writer", "reader"]⟩
/-- need_family -/
def b135 : Def := ⟨1, 1, (.cons (.ife (.not (.call 5 (.cons (.var 0) .nil))) (.cons (.rai 2) .nil) .nil) .nil), ["family"]⟩
/-- right_looks -/
def b142 : Def := ⟨3, 3, (.cons (.ex (.call 44 (.cons (.var 0) .nil))) (.cons (.ex (.call 31 (.cons (.var 1) .nil))) (.cons (.ex (.call 31 (.cons (.var 2) .nil))) (.cons (.ex (.call 92 (.cons (.var 0) (.cons (.fr (.lst (.cons (.var 1) .nil))) (.cons (.fr (.lst (.cons (.var 2) .nil))) .nil))))) (.cons .bad .nil))))), ["program", "writer", "reader"]⟩
/-- wrong_for -/
def b143 : Def := ⟨4, 5, (.cons (.ex (.call 44 (.cons (.var 0) .nil))) (.cons (.ex (.call 31 (.cons (.var 1) .nil))) (.cons (.ex (.call 31 (.cons (.var 2) .nil))) (.cons (.ife (.not (.call 0 (.cons (.var 3) (.cons (.con (.int 0)) (.cons (.op2 .sub (.bi .len (.cons (.call 40 (.cons (.var 0) .nil)) .nil)) (.con (.int 1))) .nil))))) (.cons (.rai 8) .nil) .nil) (.cons (.ex (.call 92 (.cons (.var 0) (.cons (.fr (.lst (.cons (.var 1) .nil))) (.cons (.fr (.lst (.cons (.var 2) .nil))) .nil))))) (.cons .bad (.cons .bad .nil))))))), ["program", "writer", "reader", "look"]⟩
/-- bad_pairs -/
def b144 : Def := ⟨2, 5, (.cons (.ex (.call 44 (.cons (.var 0) .nil))) (.cons (.ex (.call 135 (.cons (.var 1) .nil))) (.cons (.ex (.call 92 (.cons (.var 0) (.cons (.var 1) (.cons (.var 1) .nil))))) (.cons (.asg (.nm 2) (.fr (.lst .nil))) (.cons (.fr (.nm 3) (.rg1 (.bi .len (.cons (.var 1) .nil))) (.cons (.fr (.nm 4) (.rg1 (.bi .len (.cons (.var 1) .nil))) (.cons .bad .nil)) .nil)) (.cons (.ret (.var 2)) .nil)))))), ["program", "family"]⟩
/-- told_out -/
def b152 : Def := ⟨2, 2, (.cons (.ex (.call 44 (.cons (.var 0) .nil))) (.cons (.ex (.call 31 (.cons (.var 1) .nil))) (.cons (.ex (.call 92 (.cons (.var 0) (.cons (.fr (.lst (.cons (.var 1) .nil))) (.cons (.fr (.lst .nil)) .nil))))) (.cons .bad .nil)))), ["program", "machine"]⟩
/-- least_clears -/
def b153 : Def := ⟨2, 6, (.cons (.ex (.call 44 (.cons (.var 0) .nil))) (.cons (.ex (.call 135 (.cons (.var 1) .nil))) (.cons (.ex (.call 92 (.cons (.var 0) (.cons (.var 1) (.cons (.fr (.lst .nil)) .nil))))) (.cons (.asg (.nm 2) (.fr (.lst .nil))) (.cons (.fr (.nm 3) (.seq (.var 1)) (.cons .bad .nil)) (.cons .bad .nil)))))), ["program", "family"]⟩
/-- machines_for -/
def b158 : Def := ⟨4, 5, (.cons (.ex (.call 44 (.cons (.var 0) .nil))) (.cons (.ex (.call 135 (.cons (.var 1) .nil))) (.cons (.ex (.call 89 (.cons (.var 0) (.cons (.var 2) .nil)))) (.cons (.ex (.call 91 (.cons (.var 3) (.cons (.ix (.var 0) (.con (.int 0))) .nil)))) (.cons (.ex (.call 92 (.cons (.var 0) (.cons (.var 1) (.cons (.fr (.lst .nil)) .nil))))) (.cons .bad .nil)))))), ["program", "family", "contents", "value"]⟩
/-- apart -/
def b165 : Def := ⟨3, 6, (.cons (.ex (.call 44 (.cons (.var 0) .nil))) (.cons (.ex (.call 31 (.cons (.var 1) .nil))) (.cons (.ex (.call 31 (.cons (.var 2) .nil))) (.cons (.ex (.call 92 (.cons (.var 0) (.cons (.fr (.lst (.cons (.var 1) (.cons (.var 2) .nil)))) (.cons (.fr (.lst .nil)) .nil))))) (.cons .bad (.cons (.ret (.con (.non))) .nil)))))), ["program", "one_machine", "other_machine"]⟩
/-- need_two -/
def b175 : Def := ⟨3, 3, (.cons (.ex (.call 44 (.cons (.var 0) .nil))) (.cons (.ex (.call 44 (.cons (.var 1) .nil))) (.cons (.ex (.call 135 (.cons (.var 2) .nil))) (.cons .bad (.cons (.ex (.call 92 (.cons (.var 0) (.cons (.var 2) (.cons (.var 2) .nil))))) (.cons (.ex (.call 92 (.cons (.var 1) (.cons (.var 2) (.cons (.var 2) .nil))))) .nil)))))), ["one", "other", "family"]⟩
/-- same_read -/
def b176 : Def := ⟨3, 3, (.cons (.ex (.call 175 (.cons (.var 0) (.cons (.var 1) (.cons (.var 2) .nil))))) (.cons .bad .nil)), ["one", "other", "family"]⟩
/-- parting -/
def b177 : Def := ⟨3, 3, (.cons (.ex (.call 175 (.cons (.var 0) (.cons (.var 1) (.cons (.var 2) .nil))))) (.cons .bad .nil)), ["one", "other", "family"]⟩
/-- needless -/
def b185 : Def := ⟨2, 7, (.cons (.ex (.call 44 (.cons (.var 0) .nil))) (.cons (.ex (.call 135 (.cons (.var 1) .nil))) (.cons (.ex (.call 92 (.cons (.var 0) (.cons (.var 1) (.cons (.var 1) .nil))))) (.cons (.asg (.nm 2) (.fr (.lst .nil))) (.cons (.fr (.tp [3, 4]) (.seq (.fr (.lst (.cons (.tup (.cons (.con (.str "before")) (.cons (.ix (.var 0) (.con (.int 1))) .nil))) (.cons (.tup (.cons (.con (.str "behind")) (.cons (.ix (.var 0) (.con (.int 2))) .nil))) .nil))))) (.cons (.fr (.tp [5, 6]) (.enum (.var 4)) (.cons (.ife (.cmp .nmem (.ix (.var 6) (.con (.int 0))) (.tup (.cons (.con (.str "write")) (.cons (.con (.str "look")) .nil)))) (.cons .bad .nil) .nil) .nil)) .nil)) (.cons (.ret (.var 2)) .nil)))))), ["program", "family"]⟩
/-- program_text -/
def b210 : Def := ⟨1, 1, (.cons (.ex (.call 44 (.cons (.var 0) .nil))) (.cons .bad .nil)), ["program"]⟩
structure HasF (Df : Nat → Option Def) : Prop extends HasP Df, HasM Df where
  h5 : Df 5 = some b5
  h89 : Df 89 = some b89
  h90 : Df 90 = some b90
  h91 : Df 91 = some b91
  h92 : Df 92 = some b92
  h105 : Df 105 = some b105
  h106 : Df 106 = some b106
  h126 : Df 126 = some b126
  h127 : Df 127 = some b127
  h135 : Df 135 = some b135
  h142 : Df 142 = some b142
  h143 : Df 143 = some b143
  h144 : Df 144 = some b144
  h152 : Df 152 = some b152
  h153 : Df 153 = some b153
  h158 : Df 158 = some b158
  h165 : Df 165 = some b165
  h175 : Df 175 = some b175
  h176 : Df 176 = some b176
  h177 : Df 177 = some b177
  h185 : Df 185 = some b185
  h210 : Df 210 = some b210
section
variable {Df : Nat → Option Def} {wf k : Nat} {M : Ms} {L n n' : Nat} {c : Mc} {v u w x y : D} {bs ls : List D} {long : Int}
theorem s135 (S : HasF Df) (hv : Fi L n v) (hn : n ≤ 60) (hL : L ≤ 100) : callD Df wf (k + 5) 135 [.d v] M = if famB v = true then .ok (.d .non, M) else .exc 2 M := by
  refine eq_of ?_
  rw [w_callD S.h135 rfl]
  have e5 := fun M => s5 (wf := wf) (k := k) (M := M) S.h1 S.h2 S.h3 S.h4 S.h5 hv hn hL
  cases e : famB v <;> simp [b135, startD, e5, e]
theorem p175 (S : HasF Df) (hv : Fi L n v) (hn : n ≤ 60) (hL : L ≤ 100) (h : progB v = false) : callD Df wf (k + 12) 175 [.d v, .d u, .d w] M = .exc 4 M := by
  refine eq_of ?_
  rw [w_callD S.h175 rfl]
  have e44 := fun M => s44 (wf := wf) (k := k + 1) (M := M) S.toHasP hv hn hL
  simp [b175, startD, e44, h]
theorem p126 (S : HasF Df) (hv : Fi L n v) (hn : n ≤ 60) (hL : L ≤ 100) (h : progB v = false) : callD Df wf (k + 13) 126 [.d v, .d u] M = .exc 4 M := by
  refine eq_of ?_
  rw [w_callD S.h126 rfl]
  have e44 := fun M => s44 (wf := wf) (k := k + 2) (M := M) S.toHasP hv hn hL
  simp [b126, startD, e44, h]
theorem p144 (S : HasF Df) (hv : Fi L n v) (hn : n ≤ 60) (hL : L ≤ 100) (h : progB v = false) : callD Df wf (k + 13) 144 [.d v, .d u] M = .exc 4 M := by
  refine eq_of ?_
  rw [w_callD S.h144 rfl]
  have e44 := fun M => s44 (wf := wf) (k := k + 2) (M := M) S.toHasP hv hn hL
  simp [b144, startD, e44, h]
theorem p152 (S : HasF Df) (hv : Fi L n v) (hn : n ≤ 60) (hL : L ≤ 100) (h : progB v = false) : callD Df wf (k + 13) 152 [.d v, .d u] M = .exc 4 M := by
  refine eq_of ?_
  rw [w_callD S.h152 rfl]
  have e44 := fun M => s44 (wf := wf) (k := k + 2) (M := M) S.toHasP hv hn hL
  simp [b152, startD, e44, h]
theorem p153 (S : HasF Df) (hv : Fi L n v) (hn : n ≤ 60) (hL : L ≤ 100) (h : progB v = false) : callD Df wf (k + 13) 153 [.d v, .d u] M = .exc 4 M := by
  refine eq_of ?_
  rw [w_callD S.h153 rfl]
  have e44 := fun M => s44 (wf := wf) (k := k + 2) (M := M) S.toHasP hv hn hL
  simp [b153, startD, e44, h]
theorem p185 (S : HasF Df) (hv : Fi L n v) (hn : n ≤ 60) (hL : L ≤ 100) (h : progB v = false) : callD Df wf (k + 13) 185 [.d v, .d u] M = .exc 4 M := by
  refine eq_of ?_
  rw [w_callD S.h185 rfl]
  have e44 := fun M => s44 (wf := wf) (k := k + 2) (M := M) S.toHasP hv hn hL
  simp [b185, startD, e44, h]
theorem p127 (S : HasF Df) (hv : Fi L n v) (hn : n ≤ 60) (hL : L ≤ 100) (h : progB v = false) : callD Df wf (k + 13) 127 [.d v, .d u, .d w] M = .exc 4 M := by
  refine eq_of ?_
  rw [w_callD S.h127 rfl]
  have e44 := fun M => s44 (wf := wf) (k := k + 2) (M := M) S.toHasP hv hn hL
  simp [b127, startD, e44, h]
theorem p142 (S : HasF Df) (hv : Fi L n v) (hn : n ≤ 60) (hL : L ≤ 100) (h : progB v = false) : callD Df wf (k + 13) 142 [.d v, .d u, .d w] M = .exc 4 M := by
  refine eq_of ?_
  rw [w_callD S.h142 rfl]
  have e44 := fun M => s44 (wf := wf) (k := k + 2) (M := M) S.toHasP hv hn hL
  simp [b142, startD, e44, h]
theorem p165 (S : HasF Df) (hv : Fi L n v) (hn : n ≤ 60) (hL : L ≤ 100) (h : progB v = false) : callD Df wf (k + 13) 165 [.d v, .d u, .d w] M = .exc 4 M := by
  refine eq_of ?_
  rw [w_callD S.h165 rfl]
  have e44 := fun M => s44 (wf := wf) (k := k + 2) (M := M) S.toHasP hv hn hL
  simp [b165, startD, e44, h]
theorem p105 (S : HasF Df) (hv : Fi L n v) (hn : n ≤ 60) (hL : L ≤ 100) (h : progB v = false) : callD Df wf (k + 13) 105 [.d v, .d u, .d w, .d x] M = .exc 4 M := by
  refine eq_of ?_
  rw [w_callD S.h105 rfl]
  have e44 := fun M => s44 (wf := wf) (k := k + 2) (M := M) S.toHasP hv hn hL
  simp [b105, startD, e44, h]
theorem p143 (S : HasF Df) (hv : Fi L n v) (hn : n ≤ 60) (hL : L ≤ 100) (h : progB v = false) : callD Df wf (k + 13) 143 [.d v, .d u, .d w, .d x] M = .exc 4 M := by
  refine eq_of ?_
  rw [w_callD S.h143 rfl]
  have e44 := fun M => s44 (wf := wf) (k := k + 2) (M := M) S.toHasP hv hn hL
  simp [b143, startD, e44, h]
theorem p158 (S : HasF Df) (hv : Fi L n v) (hn : n ≤ 60) (hL : L ≤ 100) (h : progB v = false) : callD Df wf (k + 13) 158 [.d v, .d u, .d w, .d x] M = .exc 4 M := by
  refine eq_of ?_
  rw [w_callD S.h158 rfl]
  have e44 := fun M => s44 (wf := wf) (k := k + 2) (M := M) S.toHasP hv hn hL
  simp [b158, startD, e44, h]
theorem p106 (S : HasF Df) (hv : Fi L n v) (hn : n ≤ 60) (hL : L ≤ 100) (h : progB v = false) : callD Df wf (k + 13) 106 [.d v, .d u, .d w, .d x, .d y] M = .exc 4 M := by
  refine eq_of ?_
  rw [w_callD S.h106 rfl]
  have e44 := fun M => s44 (wf := wf) (k := k + 2) (M := M) S.toHasP hv hn hL
  simp [b106, startD, e44, h]
theorem p210 (S : HasF Df) (hv : Fi L n v) (hn : n ≤ 60) (hL : L ≤ 100) (h : progB v = false) : callD Df wf (k + 13) 210 [.d v] M = .exc 4 M := by
  refine eq_of ?_
  rw [w_callD S.h210 rfl]
  have e44 := fun M => s44 (wf := wf) (k := k + 2) (M := M) S.toHasP hv hn hL
  simp [b210, startD, e44, h]
theorem p176 (S : HasF Df) (hv : Fi L n v) (hn : n ≤ 60) (hL : L ≤ 100) (h : progB v = false) : callD Df wf (k + 13) 176 [.d v, .d u, .d w] M = .exc 4 M := by
  refine eq_of ?_
  rw [w_callD S.h176 rfl]
  have e := fun M => p175 (wf := wf) (k := k) (M := M) (u := u) (w := w) S hv hn hL h
  simp [b176, startD, e]
theorem p177 (S : HasF Df) (hv : Fi L n v) (hn : n ≤ 60) (hL : L ≤ 100) (h : progB v = false) : callD Df wf (k + 13) 177 [.d v, .d u, .d w] M = .exc 4 M := by
  refine eq_of ?_
  rw [w_callD S.h177 rfl]
  have e := fun M => p175 (wf := wf) (k := k) (M := M) (u := u) (w := w) S hv hn hL h
  simp [b177, startD, e]
theorem p175b (S : HasF Df) (hv : Fi L n v) (hu : Fi L n u) (hn : n ≤ 60) (hL : L ≤ 100) (h : progB u = false) : callD Df wf (k + 12) 175 [.d v, .d u, .d w] M = .exc 4 M := by
  refine eq_of ?_
  rw [w_callD S.h175 rfl]
  have e1 := fun M => s44 (wf := wf) (k := k + 1) (M := M) S.toHasP hv hn hL
  have e2 := fun M => s44 (wf := wf) (k := k + 1) (M := M) S.toHasP hu hn hL
  cases hp : progB v <;> simp [b175, startD, e1, e2, h, hp]
theorem p176b (S : HasF Df) (hv : Fi L n v) (hu : Fi L n u) (hn : n ≤ 60) (hL : L ≤ 100) (h : progB u = false) : callD Df wf (k + 13) 176 [.d v, .d u, .d w] M = .exc 4 M := by
  refine eq_of ?_
  rw [w_callD S.h176 rfl]
  have e := fun M => p175b (wf := wf) (k := k) (M := M) (w := w) S hv hu hn hL h
  simp [b176, startD, e]
theorem m126 (S : HasF Df) (hv : Fi L n v) (hu : Fi L n' u) (hn : n ≤ 60) (hL : L ≤ 100) (hp : progB v = true) (h : machB u = false) : callD Df wf (k + 13) 126 [.d v, .d u] M = .exc 1 M := by
  refine eq_of ?_
  rw [w_callD S.h126 rfl]
  have e44 := fun M => s44 (wf := wf) (k := k + 2) (M := M) S.toHasP hv hn hL
  have e31 := fun M => s31 (wf := wf) (k := k + 8) (M := M) S.h1 S.h2 S.h3 S.h4 S.h31 hu
  rw [hp] at e44
  rw [h] at e31
  simp [b126, startD, e44, e31]
theorem m152 (S : HasF Df) (hv : Fi L n v) (hu : Fi L n' u) (hn : n ≤ 60) (hL : L ≤ 100) (hp : progB v = true) (h : machB u = false) : callD Df wf (k + 13) 152 [.d v, .d u] M = .exc 1 M := by
  refine eq_of ?_
  rw [w_callD S.h152 rfl]
  have e44 := fun M => s44 (wf := wf) (k := k + 2) (M := M) S.toHasP hv hn hL
  have e31 := fun M => s31 (wf := wf) (k := k + 8) (M := M) S.h1 S.h2 S.h3 S.h4 S.h31 hu
  rw [hp] at e44
  rw [h] at e31
  simp [b152, startD, e44, e31]
theorem m127 (S : HasF Df) (hv : Fi L n v) (hu : Fi L n' u) (hn : n ≤ 60) (hL : L ≤ 100) (hp : progB v = true) (h : machB u = false) : callD Df wf (k + 13) 127 [.d v, .d u, .d w] M = .exc 1 M := by
  refine eq_of ?_
  rw [w_callD S.h127 rfl]
  have e44 := fun M => s44 (wf := wf) (k := k + 2) (M := M) S.toHasP hv hn hL
  have e31 := fun M => s31 (wf := wf) (k := k + 8) (M := M) S.h1 S.h2 S.h3 S.h4 S.h31 hu
  rw [hp] at e44
  rw [h] at e31
  simp [b127, startD, e44, e31]
theorem m142 (S : HasF Df) (hv : Fi L n v) (hu : Fi L n' u) (hn : n ≤ 60) (hL : L ≤ 100) (hp : progB v = true) (h : machB u = false) : callD Df wf (k + 13) 142 [.d v, .d u, .d w] M = .exc 1 M := by
  refine eq_of ?_
  rw [w_callD S.h142 rfl]
  have e44 := fun M => s44 (wf := wf) (k := k + 2) (M := M) S.toHasP hv hn hL
  have e31 := fun M => s31 (wf := wf) (k := k + 8) (M := M) S.h1 S.h2 S.h3 S.h4 S.h31 hu
  rw [hp] at e44
  rw [h] at e31
  simp [b142, startD, e44, e31]
theorem m165 (S : HasF Df) (hv : Fi L n v) (hu : Fi L n' u) (hn : n ≤ 60) (hL : L ≤ 100) (hp : progB v = true) (h : machB u = false) : callD Df wf (k + 13) 165 [.d v, .d u, .d w] M = .exc 1 M := by
  refine eq_of ?_
  rw [w_callD S.h165 rfl]
  have e44 := fun M => s44 (wf := wf) (k := k + 2) (M := M) S.toHasP hv hn hL
  have e31 := fun M => s31 (wf := wf) (k := k + 8) (M := M) S.h1 S.h2 S.h3 S.h4 S.h31 hu
  rw [hp] at e44
  rw [h] at e31
  simp [b165, startD, e44, e31]
theorem m105 (S : HasF Df) (hv : Fi L n v) (hu : Fi L n' u) (hn : n ≤ 60) (hL : L ≤ 100) (hp : progB v = true) (h : machB u = false) : callD Df wf (k + 13) 105 [.d v, .d u, .d w, .d x] M = .exc 1 M := by
  refine eq_of ?_
  rw [w_callD S.h105 rfl]
  have e44 := fun M => s44 (wf := wf) (k := k + 2) (M := M) S.toHasP hv hn hL
  have e31 := fun M => s31 (wf := wf) (k := k + 8) (M := M) S.h1 S.h2 S.h3 S.h4 S.h31 hu
  rw [hp] at e44
  rw [h] at e31
  simp [b105, startD, e44, e31]
theorem m143 (S : HasF Df) (hv : Fi L n v) (hu : Fi L n' u) (hn : n ≤ 60) (hL : L ≤ 100) (hp : progB v = true) (h : machB u = false) : callD Df wf (k + 13) 143 [.d v, .d u, .d w, .d x] M = .exc 1 M := by
  refine eq_of ?_
  rw [w_callD S.h143 rfl]
  have e44 := fun M => s44 (wf := wf) (k := k + 2) (M := M) S.toHasP hv hn hL
  have e31 := fun M => s31 (wf := wf) (k := k + 8) (M := M) S.h1 S.h2 S.h3 S.h4 S.h31 hu
  rw [hp] at e44
  rw [h] at e31
  simp [b143, startD, e44, e31]
theorem m106 (S : HasF Df) (hv : Fi L n v) (hu : Fi L n' u) (hn : n ≤ 60) (hL : L ≤ 100) (hp : progB v = true) (h : machB u = false) : callD Df wf (k + 13) 106 [.d v, .d u, .d w, .d x, .d y] M = .exc 1 M := by
  refine eq_of ?_
  rw [w_callD S.h106 rfl]
  have e44 := fun M => s44 (wf := wf) (k := k + 2) (M := M) S.toHasP hv hn hL
  have e31 := fun M => s31 (wf := wf) (k := k + 8) (M := M) S.h1 S.h2 S.h3 S.h4 S.h31 hu
  rw [hp] at e44
  rw [h] at e31
  simp [b106, startD, e44, e31]
theorem m127b (S : HasF Df) {m : Nat} (hc : McOk c) (fc : Fi L m c.d) (hv : Fi L n v) (hu : Fi L n' u) (hn : n ≤ 60) (hL : L ≤ 100) (hp : progB v = true) (h : machB u = false) : callD Df wf (k + 13) 127 [.d v, .d c.d, .d u] M = .exc 1 M := by
  refine eq_of ?_
  rw [w_callD S.h127 rfl]
  have e44 := fun M => s44 (wf := wf) (k := k + 2) (M := M) S.toHasP hv hn hL
  have e31 := fun M => s31 (wf := wf) (k := k + 8) (M := M) S.h1 S.h2 S.h3 S.h4 S.h31 hu
  rw [hp] at e44
  rw [h] at e31
  have e31c := fun M => s31 (wf := wf) (k := k + 8) (M := M) S.h1 S.h2 S.h3 S.h4 S.h31 fc
  rw [mc_mach hc] at e31c
  simp [b127, startD, e44, e31, e31c]
theorem m142b (S : HasF Df) {m : Nat} (hc : McOk c) (fc : Fi L m c.d) (hv : Fi L n v) (hu : Fi L n' u) (hn : n ≤ 60) (hL : L ≤ 100) (hp : progB v = true) (h : machB u = false) : callD Df wf (k + 13) 142 [.d v, .d c.d, .d u] M = .exc 1 M := by
  refine eq_of ?_
  rw [w_callD S.h142 rfl]
  have e44 := fun M => s44 (wf := wf) (k := k + 2) (M := M) S.toHasP hv hn hL
  have e31 := fun M => s31 (wf := wf) (k := k + 8) (M := M) S.h1 S.h2 S.h3 S.h4 S.h31 hu
  rw [hp] at e44
  rw [h] at e31
  have e31c := fun M => s31 (wf := wf) (k := k + 8) (M := M) S.h1 S.h2 S.h3 S.h4 S.h31 fc
  rw [mc_mach hc] at e31c
  simp [b142, startD, e44, e31, e31c]
theorem m165b (S : HasF Df) {m : Nat} (hc : McOk c) (fc : Fi L m c.d) (hv : Fi L n v) (hu : Fi L n' u) (hn : n ≤ 60) (hL : L ≤ 100) (hp : progB v = true) (h : machB u = false) : callD Df wf (k + 13) 165 [.d v, .d c.d, .d u] M = .exc 1 M := by
  refine eq_of ?_
  rw [w_callD S.h165 rfl]
  have e44 := fun M => s44 (wf := wf) (k := k + 2) (M := M) S.toHasP hv hn hL
  have e31 := fun M => s31 (wf := wf) (k := k + 8) (M := M) S.h1 S.h2 S.h3 S.h4 S.h31 hu
  rw [hp] at e44
  rw [h] at e31
  have e31c := fun M => s31 (wf := wf) (k := k + 8) (M := M) S.h1 S.h2 S.h3 S.h4 S.h31 fc
  rw [mc_mach hc] at e31c
  simp [b165, startD, e44, e31, e31c]
theorem m143b (S : HasF Df) {m : Nat} (hc : McOk c) (fc : Fi L m c.d) (hv : Fi L n v) (hu : Fi L n' u) (hn : n ≤ 60) (hL : L ≤ 100) (hp : progB v = true) (h : machB u = false) : callD Df wf (k + 13) 143 [.d v, .d c.d, .d u, .d w] M = .exc 1 M := by
  refine eq_of ?_
  rw [w_callD S.h143 rfl]
  have e44 := fun M => s44 (wf := wf) (k := k + 2) (M := M) S.toHasP hv hn hL
  have e31 := fun M => s31 (wf := wf) (k := k + 8) (M := M) S.h1 S.h2 S.h3 S.h4 S.h31 hu
  rw [hp] at e44
  rw [h] at e31
  have e31c := fun M => s31 (wf := wf) (k := k + 8) (M := M) S.h1 S.h2 S.h3 S.h4 S.h31 fc
  rw [mc_mach hc] at e31c
  simp [b143, startD, e44, e31, e31c]
theorem f144 (S : HasF Df) (hv : Fi L n v) (hu : Fi L n' u) (hn : n ≤ 60) (hn' : n' ≤ 60) (hL : L ≤ 100) (hp : progB v = true) (h : famB u = false) : callD Df wf (k + 13) 144 [.d v, .d u] M = .exc 2 M := by
  refine eq_of ?_
  rw [w_callD S.h144 rfl]
  have e44 := fun M => s44 (wf := wf) (k := k + 2) (M := M) S.toHasP hv hn hL
  have e135 := fun M => s135 (wf := wf) (k := k + 7) (M := M) S hu hn' hL
  rw [hp] at e44
  rw [h] at e135
  simp [b144, startD, e44, e135]
theorem f153 (S : HasF Df) (hv : Fi L n v) (hu : Fi L n' u) (hn : n ≤ 60) (hn' : n' ≤ 60) (hL : L ≤ 100) (hp : progB v = true) (h : famB u = false) : callD Df wf (k + 13) 153 [.d v, .d u] M = .exc 2 M := by
  refine eq_of ?_
  rw [w_callD S.h153 rfl]
  have e44 := fun M => s44 (wf := wf) (k := k + 2) (M := M) S.toHasP hv hn hL
  have e135 := fun M => s135 (wf := wf) (k := k + 7) (M := M) S hu hn' hL
  rw [hp] at e44
  rw [h] at e135
  simp [b153, startD, e44, e135]
theorem f185 (S : HasF Df) (hv : Fi L n v) (hu : Fi L n' u) (hn : n ≤ 60) (hn' : n' ≤ 60) (hL : L ≤ 100) (hp : progB v = true) (h : famB u = false) : callD Df wf (k + 13) 185 [.d v, .d u] M = .exc 2 M := by
  refine eq_of ?_
  rw [w_callD S.h185 rfl]
  have e44 := fun M => s44 (wf := wf) (k := k + 2) (M := M) S.toHasP hv hn hL
  have e135 := fun M => s135 (wf := wf) (k := k + 7) (M := M) S hu hn' hL
  rw [hp] at e44
  rw [h] at e135
  simp [b185, startD, e44, e135]
theorem f158 (S : HasF Df) (hv : Fi L n v) (hu : Fi L n' u) (hn : n ≤ 60) (hn' : n' ≤ 60) (hL : L ≤ 100) (hp : progB v = true) (h : famB u = false) : callD Df wf (k + 13) 158 [.d v, .d u, .d w, .d x] M = .exc 2 M := by
  refine eq_of ?_
  rw [w_callD S.h158 rfl]
  have e44 := fun M => s44 (wf := wf) (k := k + 2) (M := M) S.toHasP hv hn hL
  have e135 := fun M => s135 (wf := wf) (k := k + 7) (M := M) S hu hn' hL
  rw [hp] at e44
  rw [h] at e135
  simp [b158, startD, e44, e135]
theorem f175 (S : HasF Df) (hv : Fi L n v) (hw : Fi L n w) (hu : Fi L n' u) (hn : n ≤ 60) (hn' : n' ≤ 60) (hL : L ≤ 100) (hp : progB v = true) (hq : progB w = true) (h : famB u = false) : callD Df wf (k + 12) 175 [.d v, .d w, .d u] M = .exc 2 M := by
  refine eq_of ?_
  rw [w_callD S.h175 rfl]
  have e1 := fun M => s44 (wf := wf) (k := k + 1) (M := M) S.toHasP hv hn hL
  have e2 := fun M => s44 (wf := wf) (k := k + 1) (M := M) S.toHasP hw hn hL
  have e135 := fun M => s135 (wf := wf) (k := k + 6) (M := M) S hu hn' hL
  rw [hp] at e1
  rw [hq] at e2
  rw [h] at e135
  simp [b175, startD, e1, e2, e135]
theorem f176 (S : HasF Df) (hv : Fi L n v) (hw : Fi L n w) (hu : Fi L n' u) (hn : n ≤ 60) (hn' : n' ≤ 60) (hL : L ≤ 100) (hp : progB v = true) (hq : progB w = true) (h : famB u = false) : callD Df wf (k + 13) 176 [.d v, .d w, .d u] M = .exc 2 M := by
  refine eq_of ?_
  rw [w_callD S.h176 rfl]
  have e := fun M => f175 (wf := wf) (k := k) (M := M) S hv hw hu hn hn' hL hp hq h
  simp [b176, startD, e]
theorem f177 (S : HasF Df) (hv : Fi L n v) (hw : Fi L n w) (hu : Fi L n' u) (hn : n ≤ 60) (hn' : n' ≤ 60) (hL : L ≤ 100) (hp : progB v = true) (hq : progB w = true) (h : famB u = false) : callD Df wf (k + 13) 177 [.d v, .d w, .d u] M = .exc 2 M := by
  refine eq_of ?_
  rw [w_callD S.h177 rfl]
  have e := fun M => f175 (wf := wf) (k := k) (M := M) S hv hw hu hn hn' hL hp hq h
  simp [b177, startD, e]
/-- need_fit -/
theorem s92 (S : HasF Df) (p : PrOk long bs ls) (hb : ∀ z ∈ bs, Fi L n z) (hl : ∀ z ∈ ls, Fi L n z) (hL : L ≤ 100) (hn : n ≤ 60) {ws rs : List Mc} (hw : ∀ c ∈ ws, McOk c) (hr : ∀ c ∈ rs, McOk c) {a b : D} (ha : itemsOf a = .ok (ws.map Mc.d)) (hb' : itemsOf b = .ok (rs.map Mc.d)) :
    callD Df wf (k + 7) 92 [.d (.tup [.int long, .tup bs, .tup ls]), .d a, .d b] M = if (ws.all fun c => (bs.filter (isIt "write")).all (fitI c long)) && (rs.all fun c => (ls.filter (isIt "look")).all (fitI c long)) then .ok (.d .non, M) else .exc 14 M := by
  refine eq_of ?_
  rw [w_callD S.h92 rfl]
  have ew := fun M {c : Mc} (hc : McOk c) => s48w (wf := wf) (k := k) (M := M) S.toHasP S.toHasM p hc hb (by have := p.b6; omega) hn
  have el := fun M {c : Mc} (hc : McOk c) => s48l (wf := wf) (k := k) (M := M) S.toHasP S.toHasM p hc hl (by have := p.s6; omega) hn
  obtain ⟨tw, htw⟩ : ∃ t, t = ws.all fun c => (bs.filter (isIt "write")).all (fitI c long) := ⟨_, rfl⟩
  obtain ⟨tr, htr⟩ : ∃ t, t = rs.all fun c => (ls.filter (isIt "look")).all (fitI c long) := ⟨_, rfl⟩
  rw [← htw, ← htr]
  simp [b92, startD, ha]
  refine wx_forL (fun r ρ M' => M' = M ∧ (∃ rest, r = rest.map Mc.d ∧ (∀ c ∈ rest, McOk c) ∧ tw = rest.all fun c => (bs.filter (isIt "write")).all (fitI c long)) ∧ ∃ o3, ρ = [some (.d (.tup [.int long, .tup bs, .tup ls])), some (.d a), some (.d b), o3]) ⟨rfl, ⟨ws, rfl, hw, htw⟩, none, rfl⟩ (fun z r ρ M' hI => ?_) (fun ρ M' hI => ?_)
  · obtain ⟨rfl, ⟨rest, h1, h2, h3⟩, o3, rfl⟩ := hI
    cases rest with
    | nil => cases h1
    | cons c rest =>
      rw [List.map_cons] at h1
      cases h1
      have e := fun M => ew M (h2 c (by simp))
      cases hf : (bs.filter (isIt "write")).all (fitI c long) with
      | true =>
        rw [hf] at e
        rw [List.all_cons, hf, Bool.true_and] at h3
        simp [e]
        exact ⟨rest, rfl, fun y hy => h2 y (by simp [hy]), by simpa using h3⟩
      | false =>
        rw [hf] at e
        rw [List.all_cons, hf, Bool.false_and] at h3
        simp [e, h3]
  · obtain ⟨rfl, ⟨rest, h1, h2, h3⟩, o3, rfl⟩ := hI
    cases rest with
    | cons _ _ => cases h1
    | nil =>
      have h3 : tw = true := h3
      subst h3
      simp [hb']
      refine wx_forL (fun r ρ M'' => M'' = M' ∧ (∃ rest, r = rest.map Mc.d ∧ (∀ c ∈ rest, McOk c) ∧ tr = rest.all fun c => (ls.filter (isIt "look")).all (fitI c long)) ∧ ∃ o3, ρ = [some (.d (.tup [.int long, .tup bs, .tup ls])), some (.d a), some (.d b), o3]) ⟨rfl, ⟨rs, rfl, hr, htr⟩, o3, rfl⟩ (fun z r ρ M'' hI => ?_) (fun ρ M'' hI => ?_)
      · obtain ⟨rfl, ⟨rest, h1, h2, h3⟩, o3, rfl⟩ := hI
        cases rest with
        | nil => cases h1
        | cons c rest =>
          rw [List.map_cons] at h1
          cases h1
          have e := fun M => el M (h2 c (by simp))
          cases hf : (ls.filter (isIt "look")).all (fitI c long) with
          | true =>
            rw [hf] at e
            rw [List.all_cons, hf, Bool.true_and] at h3
            simp [e]
            exact ⟨rest, rfl, fun y hy => h2 y (by simp [hy]), by simpa using h3⟩
          | false =>
            rw [hf] at e
            rw [List.all_cons, hf, Bool.false_and] at h3
            simp [e, h3]
      · obtain ⟨rfl, ⟨rest, h1, h2, h3⟩, o3, rfl⟩ := hI
        cases rest with
        | cons _ _ => cases h1
        | nil =>
          have h3 : tr = true := h3
          subst h3
          simp
end
end PyP

set_option Elab.async false
set_option linter.all false
set_option maxRecDepth 100000
set_option maxHeartbeats 4000000
/-! PyK19b: the law k19 (250 to 254). -/
namespace PyP
open PySem hiding Env
open PySem.Spec PyProof.Rows L2 PyD
/-- _law_program_calls -/
def b250 : Def := ⟨1, 3, (.cons (.asg (.nm 1) (.nw (.lst (.cons (.err (.call 210 (.cons (.var 0) .nil)) enm) .nil)))) (.cons (.fr (.nm 2) (.seq (.tup (.cons (.con (.fn 47)) (.cons (.con (.fn 126)) (.cons (.con (.fn 144)) (.cons (.con (.fn 152)) (.cons (.con (.fn 153)) (.cons (.con (.fn 185)) .nil)))))))) (.cons (.app (.var 1) (.err (.calv 2 (.cons (.var 0) (.cons (.con (.non)) .nil))) enm)) .nil)) (.cons (.fr (.nm 2) (.seq (.tup (.cons (.con (.fn 49)) (.cons (.con (.fn 127)) (.cons (.con (.fn 142)) (.cons (.con (.fn 165)) (.cons (.con (.fn 176)) (.cons (.con (.fn 177)) .nil)))))))) (.cons (.app (.var 1) (.err (.calv 2 (.cons (.var 0) (.cons (.con (.non)) (.cons (.con (.non)) .nil)))) enm)) .nil)) (.cons (.fr (.nm 2) (.seq (.tup (.cons (.con (.fn 105)) (.cons (.con (.fn 143)) (.cons (.con (.fn 158)) .nil))))) (.cons (.app (.var 1) (.err (.calv 2 (.cons (.var 0) (.cons (.con (.non)) (.cons (.con (.non)) (.cons (.con (.non)) .nil))))) enm)) .nil)) (.cons (.retc (.nw (.op .add (.var 1) (.fr (.lst (.cons (.err (.call 106 (.cons (.var 0) (.cons (.con (.non)) (.cons (.con (.non)) (.cons (.con (.non)) (.cons (.con (.non)) .nil)))))) enm) .nil)))))) .nil))))), ["odd"]⟩
/-- _law_machine_calls -/
def b251 : Def := ⟨3, 5, (.cons (.asg (.nm 3) (.nw (.lst (.cons (.call 252 (.cons (.con (.fn 126)) (.cons (.var 0) (.cons (.var 2) .nil)))) (.cons (.call 252 (.cons (.con (.fn 152)) (.cons (.var 0) (.cons (.var 2) .nil)))) .nil))))) (.cons (.fr (.nm 4) (.seq (.tup (.cons (.con (.fn 49)) (.cons (.con (.fn 127)) (.cons (.con (.fn 142)) (.cons (.con (.fn 165)) .nil)))))) (.cons (.app (.var 3) (.err (.calv 4 (.cons (.var 0) (.cons (.var 2) (.cons (.con (.non)) .nil)))) enm)) .nil)) (.cons (.fr (.nm 4) (.seq (.tup (.cons (.con (.fn 127)) (.cons (.con (.fn 142)) (.cons (.con (.fn 165)) .nil))))) (.cons (.app (.var 3) (.err (.calv 4 (.cons (.var 0) (.cons (.var 1) (.cons (.var 2) .nil)))) enm)) .nil)) (.cons (.app (.var 3) (.err (.call 105 (.cons (.var 0) (.cons (.var 2) (.cons (.con (.non)) (.cons (.con (.non)) .nil))))) enm)) (.cons (.app (.var 3) (.err (.call 143 (.cons (.var 0) (.cons (.var 2) (.cons (.con (.non)) (.cons (.con (.non)) .nil))))) enm)) (.cons (.app (.var 3) (.err (.call 143 (.cons (.var 0) (.cons (.var 1) (.cons (.var 2) (.cons (.con (.non)) .nil))))) enm)) (.cons (.retc (.nw (.op .add (.var 3) (.fr (.lst (.cons (.err (.call 106 (.cons (.var 0) (.cons (.var 2) (.cons (.con (.non)) (.cons (.con (.non)) (.cons (.con (.non)) .nil)))))) enm) .nil)))))) .nil))))))), ["program", "good", "odd"]⟩
/-- _law_by -/
def b252 : Def := ⟨3, 3, (.cons (.ret (.err (.calv 0 (.cons (.var 1) (.cons (.var 2) .nil))) enm)) .nil), ["call", "one", "other"]⟩
/-- _law_family_calls -/
def b253 : Def := ⟨2, 4, (.cons (.asg (.nm 2) (.nw (.lst .nil))) (.cons (.fr (.nm 3) (.seq (.tup (.cons (.con (.fn 144)) (.cons (.con (.fn 153)) (.cons (.con (.fn 185)) .nil))))) (.cons (.app (.var 2) (.err (.calv 3 (.cons (.var 0) (.cons (.var 1) .nil))) enm)) .nil)) (.cons (.fr (.nm 3) (.seq (.tup (.cons (.con (.fn 176)) (.cons (.con (.fn 177)) .nil)))) (.cons (.app (.var 2) (.err (.calv 3 (.cons (.var 0) (.cons (.var 0) (.cons (.var 1) .nil)))) enm)) .nil)) (.cons (.retc (.nw (.op .add (.var 2) (.fr (.lst (.cons (.err (.call 158 (.cons (.var 0) (.cons (.var 1) (.cons (.con (.non)) (.cons (.con (.non)) .nil))))) enm) .nil)))))) .nil)))), ["program", "odd"]⟩
/-- law -/
def b254 : Def := ⟨1, 12, (.cons (.fr (.nm 1) (.rg1 (.bi .max (.cons (.con (.int 5)) (.cons (.bi .min (.cons (.con (.int 12)) (.cons (.bi .len (.cons (.var 0) .nil)) .nil))) .nil)))) (.cons (.asg (.nm 2) (.call 12 (.cons (.var 0) (.cons (.var 1) .nil)))) (.cons (.par [3, 4] (.cons (.call 58 (.cons (.var 2) (.cons (.con (.int 16)) .nil))) (.cons (.call 22 (.cons (.var 2) .nil)) .nil))) (.cons (.asg (.nm 3) (.ife (.call 43 (.cons (.var 3) .nil)) (.var 3) (.tup (.cons (.con (.int 1)) (.cons (.tup .nil) (.cons (.tup .nil) .nil)))))) (.cons (.asg (.nm 5) (.fr (.lst (.cons (.con (.non)) (.cons (.fr (.of (.var 3))) (.cons (.sl (.var 3) .none (.some (.con (.int 2)))) (.cons (.op2 .add (.var 3) (.tup (.cons (.tup .nil) .nil))) (.cons (.tup (.cons (.var 3) .nil)) .nil)))))))) (.cons (.fr (.nm 6) (.seq (.op2 .add (.var 5) (.fr (.lst (.cons (.call 28 (.cons (.var 2) (.cons (.var 3) .nil))) .nil))))) (.cons (.asg (.nm 7) (.ife (.call 43 (.cons (.var 6) .nil)) (.fr (.lst .nil)) (.call 250 (.cons (.var 6) .nil)))) (.cons (.ife (.cmp .ne (.fr (.lc (.var 8) (.nm 8) (.seq (.var 7)) (.some (.cmp .ne (.var 8) (.con (.str "program value")))) [8])) (.fr (.lst .nil))) (.cons (.ret (.con (.bl false))) .nil) .nil) (.cons (.asg (.nm 9) (.con (.str "program value"))) (.cons (.ife (.not (.call 43 (.cons (.var 6) .nil))) (.cons (.asg (.nm 9) (.err (.call 176 (.cons (.var 3) (.cons (.var 6) (.cons (.con (.non)) .nil)))) enm)) .nil) .nil) (.cons (.ife (.cmp .ne (.var 9) (.con (.str "program value"))) (.cons (.ret (.con (.bl false))) .nil) .nil) .nil)))))) (.cons (.asg (.nm 5) (.fr (.lst (.cons (.con (.non)) (.cons (.fr (.of (.var 4))) (.cons (.sl (.var 4) .none (.some (.con (.int 3)))) (.cons (.tup (.cons (.var 4) .nil)) .nil))))))) (.cons (.fr (.nm 6) (.seq (.op2 .add (.var 5) (.fr (.lst (.cons (.call 28 (.cons (.var 2) (.cons (.var 4) .nil))) .nil))))) (.cons (.asg (.nm 7) (.nw (.lst .nil))) (.cons (.ife (.not (.call 18 (.cons (.var 6) .nil))) (.cons (.asg (.nm 7) (.call 251 (.cons (.var 3) (.cons (.var 4) (.cons (.var 6) .nil))))) .nil) .nil) (.cons (.ife (.cmp .ne (.fr (.lc (.var 8) (.nm 8) (.seq (.var 7)) (.some (.cmp .ne (.var 8) (.con (.str "machine value")))) [8])) (.fr (.lst .nil))) (.cons (.ret (.con (.bl false))) .nil) .nil) .nil)))) (.cons (.asg (.nm 5) (.fr (.lst (.cons (.con (.non)) (.cons (.tup .nil) (.cons (.var 4) (.cons (.fr (.lst (.cons (.var 4) .nil))) (.cons (.op2 .mul (.tup (.cons (.var 4) .nil)) (.con (.int 6))) .nil)))))))) (.cons (.fr (.nm 6) (.seq (.op2 .add (.var 5) (.fr (.lst (.cons (.tup (.cons (.var 4) (.cons (.con (.non)) .nil))) .nil))))) (.cons (.asg (.nm 7) (.call 253 (.cons (.var 3) (.cons (.var 6) .nil)))) (.cons (.ife (.cmp .ne (.fr (.lc (.var 8) (.nm 8) (.seq (.var 7)) (.some (.cmp .ne (.var 8) (.con (.str "family value")))) [8])) (.fr (.lst .nil))) (.cons (.ret (.con (.bl false))) .nil) .nil) .nil))) .nil)))))))))) (.cons (.par [10, 11] (.cons (.tup (.cons (.con (.int 1)) (.cons (.tup (.cons (.tup (.cons (.con (.str "write")) (.cons (.con (.int 0)) (.cons (.con (.str "s")) .nil)))) .nil)) (.cons (.tup .nil) .nil)))) (.cons (.tup (.cons (.tup (.cons (.con (.int 2)) (.cons (.con (.int 2)) (.cons (.con (.int 4)) .nil)))) (.cons (.con (.int 1)) (.cons (.con (.str "big")) (.cons (.con (.bl true)) .nil))))) .nil))) (.cons (.asg (.nm 7) (.nw (.lst (.cons (.call 252 (.cons (.con (.fn 126)) (.cons (.var 10) (.cons (.var 11) .nil)))) (.cons (.call 252 (.cons (.con (.fn 144)) (.cons (.var 10) (.cons (.tup (.cons (.var 11) .nil)) .nil)))) .nil))))) (.cons (.app (.var 7) (.err (.call 49 (.cons (.var 10) (.cons (.var 11) (.cons (.con (.non)) .nil)))) enm)) (.cons (.app (.var 7) (.call 252 (.cons (.con (.fn 152)) (.cons (.var 10) (.cons (.var 11) .nil))))) (.cons (.ret (.cmp .eq (.var 7) (.op2 .add (.op2 .mul (.fr (.lst (.cons (.con (.str "misfit value")) .nil))) (.con (.int 2))) (.fr (.lst (.cons (.con (.str "role value")) (.cons (.con (.str "misfit value")) .nil))))))) .nil)))))), ["script"]⟩
structure Has19 (Df : Nat → Option Def) : Prop extends HasF Df, HasD Df where
  h17 : Df 17 = some b17
  h18 : Df 18 = some b18
  h22 : Df 22 = some b22
  h27 : Df 27 = some b27
  h28 : Df 28 = some b28
  h250 : Df 250 = some b250
  h251 : Df 251 = some b251
  h252 : Df 252 = some b252
  h253 : Df 253 = some b253
  h254 : Df 254 = some b254
section
variable {Df : Nat → Option Def} {wf k : Nat} {M : Ms} {L n n' m : Nat} {c : Mc} {v u w x y : D} {bs ls : List D} {long : Int}
theorem p49 (S : Has19 Df) (hv : Fi L n v) (hn : n ≤ 60) (hL : L ≤ 100) (h : progB v = false) : callD Df wf (k + 13) 49 [.d v, .d u, .d w] M = .exc 4 M := by
  refine eq_of ?_
  rw [w_callD S.h49 rfl]
  have e44 := fun M => s44 (wf := wf) (k := k + 2) (M := M) S.toHasP hv hn hL
  simp [b49, startD, e44, h]
theorem s250 (S : Has19 Df) (hv : Fi L n v) (hn : n ≤ 60) (hL : L ≤ 100) (h : progB v = false) : callD Df wf (k + 14) 250 [.d v] M = .ok (.c M.length, M ++ [.lst (List.replicate 17 (.str "program value"))]) := by
  refine eq_of ?_
  rw [w_callD S.h250 rfl]
  have e210 := fun M => p210 (wf := wf) (k := k) (M := M) S.toHasF hv hn hL h
  have e47 := fun M u => s47f (wf := wf) (k := k + 2) (M := M) (v := u) S.toHasP S.h47 h hv hn hL
  have e126 := fun M u => p126 (wf := wf) (k := k) (M := M) (u := u) S.toHasF hv hn hL h
  have e144 := fun M u => p144 (wf := wf) (k := k) (M := M) (u := u) S.toHasF hv hn hL h
  have e152 := fun M u => p152 (wf := wf) (k := k) (M := M) (u := u) S.toHasF hv hn hL h
  have e153 := fun M u => p153 (wf := wf) (k := k) (M := M) (u := u) S.toHasF hv hn hL h
  have e185 := fun M u => p185 (wf := wf) (k := k) (M := M) (u := u) S.toHasF hv hn hL h
  have e49 := fun M u w => p49 (wf := wf) (k := k) (M := M) (u := u) (w := w) S hv hn hL h
  have e127 := fun M u w => p127 (wf := wf) (k := k) (M := M) (u := u) (w := w) S.toHasF hv hn hL h
  have e142 := fun M u w => p142 (wf := wf) (k := k) (M := M) (u := u) (w := w) S.toHasF hv hn hL h
  have e165 := fun M u w => p165 (wf := wf) (k := k) (M := M) (u := u) (w := w) S.toHasF hv hn hL h
  have e176 := fun M u w => p176 (wf := wf) (k := k) (M := M) (u := u) (w := w) S.toHasF hv hn hL h
  have e177 := fun M u w => p177 (wf := wf) (k := k) (M := M) (u := u) (w := w) S.toHasF hv hn hL h
  have e105 := fun M u w x => p105 (wf := wf) (k := k) (M := M) (u := u) (w := w) (x := x) S.toHasF hv hn hL h
  have e143 := fun M u w x => p143 (wf := wf) (k := k) (M := M) (u := u) (w := w) (x := x) S.toHasF hv hn hL h
  have e158 := fun M u w x => p158 (wf := wf) (k := k) (M := M) (u := u) (w := w) (x := x) S.toHasF hv hn hL h
  have e106 := fun M u w x y => p106 (wf := wf) (k := k) (M := M) (u := u) (w := w) (x := x) (y := y) S.toHasF hv hn hL h
  simp [b250, startD, sizeLine_eq, wFor0, wForC, apI_new, cell_new, view_new, g4, e210, e47, e126, e144, e152, e153, e185, e49, e127, e142, e165, e176, e177, e105, e143, e158, e106]
/-- _law_by -/
theorem s252 (S : Has19 Df) {j e : Nat} {z : PySem.Str} (h : ∀ M, callD Df wf k j [.d v, .d u] M = .exc e M) (hz : enm[e]? = some z) : callD Df wf (k + 1) 252 [.d (.fn j), .d v, .d u] M = .ok (.d (.str z), M) := by
  refine eq_of ?_
  rw [w_callD S.h252 rfl]
  have g : ∀ {Q : W × Ms → Prop} {n : Nat} {M : Ms}, nmE enm n Q e M = Q (.d (.str z), M.take n) := nmE_mk hz
  simp [b252, startD, h, g]
theorem s251 (S : Has19 Df) (hv : Fi L n v) (hu : Fi L n' u) (hn : n ≤ 60) (hL : L ≤ 100) (hp : progB v = true) (hc : McOk c) (fc : Fi L m c.d) (h : machB u = false) : callD Df wf (k + 15) 251 [.d v, .d c.d, .d u] M = .ok (.c M.length, M ++ [.lst (List.replicate 13 (.str "machine value"))]) := by
  refine eq_of ?_
  rw [w_callD S.h251 rfl]
  have e126 := fun M => s252 (k := k + 13) (M := M) S (fun M => m126 (wf := wf) (k := k) (M := M) S.toHasF hv hu hn hL hp h) (z := "machine value") rfl
  have e152 := fun M => s252 (k := k + 13) (M := M) S (fun M => m152 (wf := wf) (k := k) (M := M) S.toHasF hv hu hn hL hp h) (z := "machine value") rfl
  have e49 := fun M w => s49_mach (wf := wf) (k := k + 3) (M := M) (w := w) (m := 0) S.toHasP S.toHasM hp hv hn hL hu h
  have e127 := fun M w => m127 (wf := wf) (k := k + 1) (M := M) (w := w) S.toHasF hv hu hn hL hp h
  have e127b := fun M => m127b (wf := wf) (k := k + 1) (M := M) S.toHasF hc fc hv hu hn hL hp h
  have e142 := fun M w => m142 (wf := wf) (k := k + 1) (M := M) (w := w) S.toHasF hv hu hn hL hp h
  have e142b := fun M => m142b (wf := wf) (k := k + 1) (M := M) S.toHasF hc fc hv hu hn hL hp h
  have e165 := fun M w => m165 (wf := wf) (k := k + 1) (M := M) (w := w) S.toHasF hv hu hn hL hp h
  have e165b := fun M => m165b (wf := wf) (k := k + 1) (M := M) S.toHasF hc fc hv hu hn hL hp h
  have e105 := fun M w x => m105 (wf := wf) (k := k + 1) (M := M) (w := w) (x := x) S.toHasF hv hu hn hL hp h
  have e143 := fun M w x => m143 (wf := wf) (k := k + 1) (M := M) (w := w) (x := x) S.toHasF hv hu hn hL hp h
  have e143b := fun M w => m143b (wf := wf) (k := k + 1) (M := M) (w := w) S.toHasF hc fc hv hu hn hL hp h
  have e106 := fun M w x y => m106 (wf := wf) (k := k + 1) (M := M) (w := w) (x := x) (y := y) S.toHasF hv hu hn hL hp h
  simp [b251, startD, sizeLine_eq, wFor0, wForC, apI_new, cell_new, view_new, g1, e126, e152, e49, e127, e142, e165, e127b, e142b, e165b, e105, e143, e143b, e106]
theorem s253 (S : Has19 Df) (hv : Fi L n v) (hu : Fi L n' u) (hn : n ≤ 60) (hn' : n' ≤ 60) (hL : L ≤ 100) (hp : progB v = true) (h : famB u = false) : callD Df wf (k + 14) 253 [.d v, .d u] M = .ok (.c M.length, M ++ [.lst (List.replicate 6 (.str "family value"))]) := by
  refine eq_of ?_
  rw [w_callD S.h253 rfl]
  have e144 := fun M => f144 (wf := wf) (k := k) (M := M) S.toHasF hv hu hn hn' hL hp h
  have e153 := fun M => f153 (wf := wf) (k := k) (M := M) S.toHasF hv hu hn hn' hL hp h
  have e185 := fun M => f185 (wf := wf) (k := k) (M := M) S.toHasF hv hu hn hn' hL hp h
  have e176 := fun M => f176 (wf := wf) (k := k) (M := M) S.toHasF hv hv hu hn hn' hL hp hp h
  have e177 := fun M => f177 (wf := wf) (k := k) (M := M) S.toHasF hv hv hu hn hn' hL hp hp h
  have e158 := fun M w x => f158 (wf := wf) (k := k) (M := M) (w := w) (x := x) S.toHasF hv hu hn hn' hL hp h
  simp [b253, startD, sizeLine_eq, wFor0, wForC, apI_new, cell_new, view_new, g2, e144, e153, e185, e176, e177, e158]

/-! ### the end's written values -/
def small1 : D := .tup [.int 1, .tup [.tup [.str "write", .int 0, .str "s"]], .tup []]
def mbig : Mc := ⟨2, 2, 4, 1, "big", true⟩
theorem mbig_ok : McOk mbig := ⟨.inr rfl, .inl rfl, .inl rfl, .inl rfl, .inl rfl⟩
theorem small1_ok : progB small1 = true := by decide +kernel
theorem small1_fit : ([D.tup [.str "write", .int 0, .str "s"]].filter (isIt "write")).all (fitI mbig 1) = false := by decide +kernel
theorem small1_fi : Fi 0 10 small1 := fiB_ok (by decide +kernel)
theorem mbig_fi : Fi 0 10 mbig.d := fiB_ok (by decide +kernel)
theorem small1_pr : PrOk 1 [.tup [.str "write", .int 0, .str "s"]] [] := by
  obtain ⟨long, bs, ls, e, ok⟩ := prog_form small1_ok
  cases e
  exact ok
theorem e92s (S : HasF Df) {a b : D} {rs : List Mc} (hr : ∀ c ∈ rs, McOk c) (ha : itemsOf a = .ok [mbig.d]) (hb' : itemsOf b = .ok (rs.map Mc.d)) : callD Df wf (k + 7) 92 [.d small1, .d a, .d b] M = .exc 14 M := by
  have := s92 (wf := wf) (k := k) (M := M) (L := 0) (n := 10) S small1_pr (fun z hz => by simp at hz; rw [hz]; exact fiB_ok (by decide +kernel)) (fun z hz => by cases hz) (by omega) (by omega) (ws := [mbig]) (rs := rs) (fun c hc => by simp at hc; rw [hc]; exact mbig_ok) hr ha hb'
  have e : ([mbig].all fun c => ([D.tup [.str "write", .int 0, .str "s"]].filter (isIt "write")).all (fitI c 1)) = false := by
    rw [List.all_cons, small1_fit]; rfl
  rw [e] at this
  exact this
theorem z126 (S : HasF Df) : callD Df wf (k + 13) 126 [.d small1, .d mbig.d] M = .exc 14 M := by
  refine eq_of ?_
  rw [w_callD S.h126 rfl]
  have e44 := fun M => s44 (wf := wf) (k := k + 2) (M := M) S.toHasP small1_fi (by omega) (by omega)
  have e31 := fun M => s31 (wf := wf) (k := k + 8) (M := M) S.h1 S.h2 S.h3 S.h4 S.h31 mbig_fi
  rw [small1_ok] at e44
  rw [mc_mach mbig_ok] at e31
  have e92 := fun M => e92s (wf := wf) (k := k + 5) (M := M) (a := .lst [mbig.d]) (b := .lst []) (rs := []) S (by simp) rfl rfl
  simp [b126, startD, e44, e31, e92, sizeLine_eq]
theorem z152 (S : HasF Df) : callD Df wf (k + 13) 152 [.d small1, .d mbig.d] M = .exc 14 M := by
  refine eq_of ?_
  rw [w_callD S.h152 rfl]
  have e44 := fun M => s44 (wf := wf) (k := k + 2) (M := M) S.toHasP small1_fi (by omega) (by omega)
  have e31 := fun M => s31 (wf := wf) (k := k + 8) (M := M) S.h1 S.h2 S.h3 S.h4 S.h31 mbig_fi
  rw [small1_ok] at e44
  rw [mc_mach mbig_ok] at e31
  have e92 := fun M => e92s (wf := wf) (k := k + 5) (M := M) (a := .lst [mbig.d]) (b := .lst []) (rs := []) S (by simp) rfl rfl
  simp [b152, startD, e44, e31, e92, sizeLine_eq]
theorem z144 (S : HasF Df) : callD Df wf (k + 13) 144 [.d small1, .d (.tup [mbig.d])] M = .exc 14 M := by
  refine eq_of ?_
  rw [w_callD S.h144 rfl]
  have e44 := fun M => s44 (wf := wf) (k := k + 2) (M := M) S.toHasP small1_fi (by omega) (by omega)
  have e135 := fun M => s135 (wf := wf) (k := k + 7) (M := M) (L := 0) (n := 11) (v := .tup [mbig.d]) S (.tup (by simp) (fun x hx => by simp at hx; rw [hx]; exact mbig_fi)) (by omega) (by omega)
  have ef : famB (.tup [mbig.d]) = true := by decide +kernel
  rw [small1_ok] at e44
  rw [ef] at e135
  have e92 := fun M => e92s (wf := wf) (k := k + 5) (M := M) (a := .tup [mbig.d]) (b := .tup [mbig.d]) (rs := [mbig]) S (fun c hc => by simp at hc; rw [hc]; exact mbig_ok) rfl rfl
  simp [b144, startD, e44, e135, e92, sizeLine_eq]
/-! ### the law -/
theorem s254 (S : Has19 Df) {ns : List Int} : ∃ M', callD Df wf 60 254 [.d (.scr ns)] [] = .ok (.d (.bl true), M') := by
  suffices q : Wx (callD Df wf 60 254 [.d (.scr ns)] []) (fun p => p.1 = .d (.bl true)) NoE by
    obtain ⟨p, e, h⟩ := wx_iff.mp q
    exact ⟨p.2, by rw [e, ← h]⟩
  have e43 : ∀ {v : D} {n L : Nat} {M : Ms}, Fi L n v → n ≤ 60 → L ≤ 100 → callD Df wf 59 43 [.d v] M = .ok (.d (.bl (progB v)), M) := fun hv hn hL => s43 (wf := wf) (k := 50) S.toHasP hv hn hL
  have e18 : ∀ {v : D} {n L : Nat} {M : Ms}, Fi L n v → n ≤ 60 → callD Df wf 59 18 [.d v] M = .ok (.d (.bl (machB v)), M) := fun hv hn => s18 (wf := wf) (k := 57) S.h17 S.h18 hv hn
  rw [w_callD S.h254 rfl]
  have hm : ∃ z : Int, 0 ≤ z ∧ z < 1000 ∧ z = (if 5 < (if (ns.length : Int) < 12 then (ns.length : Int) else 12) then (if (ns.length : Int) < 12 then (ns.length : Int) else 12) else 5) := ⟨_, by split <;> (try split) <;> omega, by split <;> (try split) <;> omega, rfl⟩
  obtain ⟨z, z0, z1, hz⟩ := hm
  simp [b254, startD, sizeLine_eq, ← hz]
  refine ⟨by omega, ?_⟩
  refine wx_forL (fun r ρ M => (∀ x ∈ r, ∃ z, x = .int z ∧ 0 ≤ z ∧ z < 1000) ∧ ∃ o1 o2 o3 o4 o5 o6 o7 o8 o9 o10 o11, ρ = [some (.d (.scr ns)), o1, o2, o3, o4, o5, o6, o7, o8, o9, o10, o11]) ⟨fun x hx => ?_, none, none, none, none, none, none, none, none, none, none, none, rfl⟩ (fun x r ρ M hI => ?_) (fun ρ M hI => ?_)
  · unfold rgD at hx
    obtain ⟨j, hj, rfl⟩ := List.mem_map.mp hx
    have := List.mem_range.mp hj
    exact ⟨_, rfl, by omega, by omega⟩
  · obtain ⟨hr, o1, o2, o3, o4, o5, o6, o7, o8, o9, o10, o11, rfl⟩ := hI
    obtain ⟨j, rfl, j0, j1⟩ := hr x (by simp)
    obtain ⟨a, b, g, e12⟩ := s12 (Df := Df) (wf := wf) (k := 58) (M := M) (ns := ns) S.h12 j0 j1
    have v0 : Vt M.length (M ++ [vc a b]) := ⟨a, b, g, by simp⟩
    obtain ⟨long, bs, ls, M1, e58, q1, q2, q3, q4, q5, q6, v1, d1⟩ := s58 (wf := wf) (k := 51) S.toHasD v0 (mo := 16) (by omega) (by omega)
    have fp0 : Fi 0 10 (.tup [.int long, .tup bs, .tup ls]) := .tup (by simp) (by
      intro y hy
      simp at hy
      rcases hy with rfl | rfl | rfl
      · exact fi_small (by omega) (by omega)
      · exact .tup (by omega) fun x hx => (q5 x hx).fi
      · exact .tup (by omega) fun x hx => (q6 x hx).fi)
    obtain ⟨mm, M2, e22, hmm, fm, v2, d2⟩ := s22 (Df := Df) (wf := wf) (k := 56) S.h13 S.h14 S.h22 v1
    obtain ⟨c, rfl, hc⟩ := mach_form hmm
    obtain ⟨pr, hpr⟩ : ∃ pr, pr = D.tup [.int long, .tup bs, .tup ls] := ⟨_, rfl⟩
    obtain ⟨pd, hpd⟩ : ∃ pd : List D, pd = if progB pr = true then [.int long, .tup bs, .tup ls] else [.int 1, .tup [], .tup []] := ⟨_, rfl⟩
    have hp : progB (.tup pd) = true := by
      cases h : progB pr with
      | true => rw [h, if_pos rfl] at hpd; rw [hpd, ← hpr]; exact h
      | false => rw [h, if_neg Bool.false_ne_true] at hpd; rw [hpd]; decide +kernel
    have fp : Fi 0 10 (.tup pd) := by
      cases h : progB pr with
      | true => rw [h, if_pos rfl] at hpd; rw [hpd]; exact fp0
      | false => rw [h, if_neg Bool.false_ne_true] at hpd; rw [hpd]; exact fiB_ok (by decide +kernel)
    have pl : pd.length = 3 := by rw [hpd]; split <;> rfl
    have fpm : ∀ x ∈ pd, Fi 0 9 x := by cases fp with | tup _ h => exact h
    have fpr : Fi 0 10 pr := by rw [hpr]; exact fp0
    have e3 : (if progB pr = true then pr else D.tup [.int 1, .tup [], .tup []]) = .tup pd := by rw [hpd, hpr]; split <;> rfl
    have bent : ∀ {n L : Nat} {x : D} {M' : Ms}, n ≤ 50 → L ≤ 90 → Fi L n x → Vt M.length M' → ∃ s M'', callD Df wf 59 28 [.c M.length, .d x] M' = .ok (.d s, M'') ∧ Fi (L + 1) (n + 3) s ∧ Vt M.length M'' := fun {n L x M'} hn hL hx v => by
      obtain ⟨s, N', e, f, v, d⟩ := s28 (Df := Df) (wf := wf) (n := n) (k := 53 - n) (L := L) S.h13 S.h14 S.h27 S.h28 hn hL hx v
      rw [show 53 - n + n + 6 = 59 by omega] at e
      exact ⟨s, N', e, f, v⟩
    obtain ⟨s1, M3, e28, f1, v3⟩ := bent (n := 10) (L := 0) (by omega) (by omega) fp v2
    rw [← hpr] at e58
    have eI : ∀ (ρ : Env) (Q : W × Ms → Prop) (E E' : XE), ρ[3]? = some (some (.d pr)) → Wx (callD Df wf 59 43 [.d pr] M2) (kIfe (callD Df wf 59) (.var 3) (.tup (.cons (.con (.int 1)) (.cons (.tup .nil) (.cons (.tup .nil) .nil)))) ρ Q E) E' = Q (.d (.tup pd), M2) := fun ρ Q E E' h3 => by
      cases h : progB pr with
      | true => rw [h, if_pos rfl] at hpd; rw [show D.tup pd = pr by rw [hpd, hpr]]; simp [e43 fpr (by omega) (by omega), h, h3]
      | false => rw [h, if_neg Bool.false_ne_true] at hpd; simp [e43 fpr (by omega) (by omega), h, hpd, sizeLine_eq]
    have fpu : Fi 1 13 (.tup pd) := (fp.up (by omega)).mono (by omega)
    have fcu : Fi 0 2 c.d := fm
    have hodd : ∀ x ∈ ([.non, .lst pd, .tup (PyD.cutD pd none (some 2)), .tup (pd ++ [.tup []]), .tup [.tup pd]] ++ [s1] : List D), Fi 1 13 x := fun x hx => by
      simp at hx
      rcases hx with rfl | rfl | rfl | rfl | rfl | rfl
      · exact .non
      · exact .lst (by omega) fun x hx => ((fpm x hx).up (by omega)).mono (by omega)
      · refine .tup ?_ fun x hx => ((fpm x ?_).up (by omega)).mono (by omega)
        · have := List.length_take_le (HT.sIx pd.length pd.length (some 2) - HT.sIx pd.length 0 none) (pd.drop (HT.sIx pd.length 0 none))
          have h2 := List.length_take_le' (HT.sIx pd.length pd.length (some 2) - HT.sIx pd.length 0 none) (pd.drop (HT.sIx pd.length 0 none))
          have h3 := List.length_drop (i := HT.sIx pd.length 0 none) (l := pd)
          show ((pd.drop _).take _).length ≤ _
          omega
        · exact List.mem_of_mem_drop (List.mem_of_mem_take hx)
      · refine .tup (by simp; omega) fun x hx => ?_
        rcases List.mem_append.mp hx with hx | hx
        · exact ((fpm x hx).up (by omega)).mono (by omega)
        · simp at hx; rw [hx]; exact .tup (by simp) (by simp)
      · refine .tup (by simp) fun x hx => ?_
        simp at hx; rw [hx]
        exact (fp.up (by omega)).mono (by omega)
      · exact f1
    have hr1 : ∀ x ∈ r, ∃ z, x = D.int z ∧ 0 ≤ z ∧ z < 1000 := fun x hx => hr x (by simp [hx])
    simp [e12, e58, e22, eI, e28, sizeLine_eq]
    refine ⟨by omega, ?_⟩
    obtain ⟨oL, hoL⟩ : ∃ oL, oL = some (W.d (D.lst [D.non, D.lst pd, D.tup (PyD.cutD pd none (some 2)), D.tup (pd ++ [D.tup []]), D.tup [D.tup pd]])) := ⟨_, rfl⟩
    rw [← hoL]
    refine wx_forL (fun r' ρ M' => (∀ x ∈ r', Fi 1 13 x) ∧ Vt M.length M' ∧ ∃ o6 o7 o8 o9, ρ = [some (.d (.scr ns)), some (.d (.int j)), some (.c M.length), some (.d (.tup pd)), some (.d c.d), oL, o6, o7, o8, o9, o10, o11]) ⟨fun x hx => hodd x hx, v3, o6, o7, o8, o9, rfl⟩ (fun x r' ρ M' hI => ?_) (fun ρ M' hI => ?_)
    · obtain ⟨hf, v', o6, o7, o8, o9, rfl⟩ := hI
      have fx := hf x (by simp)
      have hf' : ∀ y ∈ r', Fi 1 13 y := fun y hy => hf y (by simp [hy])
      cases h : progB x with
      | true =>
        simp [e43 fx (by omega) (by omega), h, lc_none, cmp_ne sh_nil sh_nil]
        exact ⟨hf', v'⟩
      | false =>
        have e250 := fun M => s250 (wf := wf) (k := 45) (M := M) S fx (by omega) (by omega) h
        have e176 := fun M => p176b (wf := wf) (k := 46) (M := M) (w := .non) S.toHasF fpu fx (by omega) (by omega) h
        have lc := fun M ρ h => lc_same (cl := callD Df wf 59) (M := M) (ρ := ρ) (a := "program value") (j := 17) h (by omega)
        obtain ⟨rp, hrp⟩ : ∃ rp : List D, rp = List.replicate 17 (.str (PySem.Str.ofString "program value")) := ⟨_, rfl⟩
        rw [← hrp] at e250 lc
        simp [e43 fx (by omega) (by omega), h, e250, frz_new, lc, cmp_ne sh_nil sh_nil, e176, g4]
        exact ⟨hf', v'.app⟩
    · obtain ⟨hf, v', o6, o7, o8, o9, rfl⟩ := hI
      obtain ⟨s2, M4, e28b, f2, v4⟩ := bent (n := 2) (L := 0) (by omega) (by omega) fcu v'
      obtain ⟨cds, hcd⟩ : ∃ cds, c.d = .tup cds := ⟨_, rfl⟩
      have fcm : ∀ x ∈ cds, Fi 0 1 x := by
        rw [hcd] at fcu
        cases fcu with | tup _ h => exact h
      have cl4 : cds.length = 4 := by
        have := hcd
        unfold Mc.d at this
        cases this
        rfl
      rw [hcd] at e28b
      have hodm : ∀ x ∈ ([.non, .lst cds, .tup (PyD.cutD cds none (some 3)), .tup [.tup cds]] ++ [s2] : List D), Fi 1 5 x := fun x hx => by
        simp at hx
        rcases hx with rfl | rfl | rfl | rfl | rfl
        · exact .non
        · exact .lst (by omega) fun x hx => ((fcm x hx).up (by omega)).mono (by omega)
        · refine .tup ?_ fun x hx => ((fcm x ?_).up (by omega)).mono (by omega)
          · have h2 := List.length_take_le' (HT.sIx cds.length cds.length (some 3) - HT.sIx cds.length 0 none) (cds.drop (HT.sIx cds.length 0 none))
            have h3 := List.length_drop (i := HT.sIx cds.length 0 none) (l := cds)
            show ((cds.drop _).take _).length ≤ _
            omega
          · exact List.mem_of_mem_drop (List.mem_of_mem_take hx)
        · refine .tup (by simp) fun x hx => ?_
          simp at hx; rw [hx, ← hcd]
          exact (fcu.up (by omega)).mono (by omega)
        · exact f2
      simp [hcd, e28b, sizeLine_eq]
      obtain ⟨oL2, hoL2⟩ : ∃ oL, oL = some (W.d (D.lst [D.non, D.lst cds, D.tup (PyD.cutD cds none (some 3)), D.tup [D.tup cds]])) := ⟨_, rfl⟩
      rw [← hoL2]
      refine wx_forL (fun r' ρ M' => (∀ x ∈ r', Fi 1 5 x) ∧ Vt M.length M' ∧ ∃ o6 o7 o8, ρ = [some (.d (.scr ns)), some (.d (.int j)), some (.c M.length), some (.d (.tup pd)), some (.d (.tup cds)), oL2, o6, o7, o8, o9, o10, o11]) ⟨fun x hx => hodm x hx, v4, o6, o7, o8, rfl⟩ (fun x r' ρ M' hI => ?_) (fun ρ M' hI => ?_)
      · obtain ⟨hf, v', o6, o7, o8, rfl⟩ := hI
        have fx := hf x (by simp)
        have hf' : ∀ y ∈ r', Fi 1 5 y := fun y hy => hf y (by simp [hy])
        cases h : machB x with
        | true =>
          simp [e18 fx (by omega), h, frz_new, lc_none, cmp_ne sh_nil sh_nil]
          exact ⟨hf', v'.app⟩
        | false =>
          have e251 := fun M => s251 (wf := wf) (k := 44) (M := M) S fpu fx (by omega) (by omega) hp hc (fcu.up (by omega)) h
          rw [hcd] at e251
          have lc := fun M ρ h => lc_same (cl := callD Df wf 59) (M := M) (ρ := ρ) (a := "machine value") (j := 13) h (by omega)
          obtain ⟨rp, hrp⟩ : ∃ rp : List D, rp = List.replicate 13 (.str (PySem.Str.ofString "machine value")) := ⟨_, rfl⟩
          rw [← hrp] at e251 lc
          have fz : ∀ M' : Ms, frz (M' ++ [.lst [], .lst rp]) (.c (M'.length + 1)) = .ok (.lst rp, M' ++ [.lst [], .fro rp]) := fun M' => by
            rw [frz_c (ds := rp) (by simp)]; simp
          simp [e18 fx (by omega), h, e251, fz, lc, cmp_ne sh_nil sh_nil]
          exact ⟨hf', v'.app⟩
      · obtain ⟨hf, v', o6, o7, o8, rfl⟩ := hI
        have hodf : ∀ x ∈ ([.non, .tup [], .tup cds, .lst [.tup cds], .tup (repD [.tup cds] 6)] ++ [.tup [.tup cds, .non]] : List D), Fi 0 3 x ∧ famB x = false := fun x hx => by
          have fc3 : Fi 0 2 (.tup cds) := by rw [← hcd]; exact fcu
          have hms : machB (.tup cds) = true := by rw [← hcd]; exact mc_mach hc
          have hd0 : ∃ a b e r, cds = .tup [a, b, e] :: r := by unfold Mc.d at hcd; cases hcd; exact ⟨_, _, _, _, rfl⟩
          simp at hx
          rcases hx with rfl | rfl | rfl | rfl | rfl | rfl
          · exact ⟨.non, rfl⟩
          · exact ⟨.tup (by simp) (by simp), rfl⟩
          · refine ⟨fc3.mono (by omega), ?_⟩
            obtain ⟨a, b, e, r, rfl⟩ := hd0
            simp [famB, machB_ne]
          · exact ⟨.lst (by simp) (fun x hx => by simp at hx; rw [hx]; exact fc3), rfl⟩
          · refine ⟨.tup (by simp [repD]) (fun x hx => by simp [repD] at hx; rw [hx]; exact fc3), ?_⟩
            simp [famB, repD]
          · refine ⟨.tup (by simp) (fun x hx => by simp at hx; rcases hx with rfl | rfl; exact fc3; exact .non), ?_⟩
            simp [famB, show machB .non = false from rfl]
        have hrep : ∃ q, q = repD [.tup cds] 6 := ⟨_, rfl⟩
        obtain ⟨q, hq⟩ := hrep
        rw [← hq] at hodf
        simp [sizeLine_eq, dop2, ← hq]
        obtain ⟨oL3, hoL3⟩ : ∃ oL, oL = some (W.d (D.lst [D.non, D.tup [], D.tup cds, D.lst [D.tup cds], D.tup q])) := ⟨_, rfl⟩
        rw [← hoL3]
        refine wx_forL (fun r' ρ M' => (∀ x ∈ r', Fi 0 3 x ∧ famB x = false) ∧ ∃ o6 o7 o8, ρ = [some (.d (.scr ns)), some (.d (.int j)), some (.c M.length), some (.d (.tup pd)), some (.d (.tup cds)), oL3, o6, o7, o8, o9, o10, o11]) ⟨fun x hx => hodf x hx, o6, o7, o8, rfl⟩ (fun x r' ρ M' hI => ?_) (fun ρ M' hI => ?_)
        · obtain ⟨hf, o6, o7, o8, rfl⟩ := hI
          obtain ⟨fx, h⟩ := hf x (by simp)
          have hf' : ∀ y ∈ r', Fi 0 3 y ∧ famB y = false := fun y hy => hf y (by simp [hy])
          have e253 := fun M => s253 (wf := wf) (k := 45) (M := M) S fp fx (by omega) (by omega) (by omega) hp h
          have lc := fun M ρ h => lc_same (cl := callD Df wf 59) (M := M) (ρ := ρ) (a := "family value") (j := 6) h (by omega)
          obtain ⟨rp, hrp⟩ : ∃ rp : List D, rp = List.replicate 6 (.str (PySem.Str.ofString "family value")) := ⟨_, rfl⟩
          rw [← hrp] at e253 lc
          simp [e253, frz_new, lc, cmp_ne sh_nil sh_nil]
          exact hf'
        · obtain ⟨hf, o6, o7, o8, rfl⟩ := hI
          simp
          exact hr1
  · obtain ⟨hr, o1, o2, o3, o4, o5, o6, o7, o8, o9, o10, o11, rfl⟩ := hI
    have e1 := fun M => s252 (wf := wf) (k := 58) (M := M) S (fun M => z126 (wf := wf) (k := 45) (M := M) S.toHasF) (z := "misfit value") rfl
    have e2 := fun M => s252 (wf := wf) (k := 58) (M := M) S (fun M => z144 (wf := wf) (k := 45) (M := M) S.toHasF) (z := "misfit value") rfl
    have e3 := fun M => s252 (wf := wf) (k := 58) (M := M) S (fun M => z152 (wf := wf) (k := 45) (M := M) S.toHasF) (z := "misfit value") rfl
    have e4 := fun M => s49_role (wf := wf) (k := 48) (M := M) (v := .non) (n := 0) S.toHasP S.toHasM small1_ok mbig_ok small1_fi mbig_fi (by omega) (by omega) .non rfl
    have d1 : D.tup [.int 1, .tup [.tup [.str "write", .int 0, .str "s"]], .tup []] = small1 := rfl
    have d2 : D.tup [.tup [.int 2, .int 2, .int 4], .int 1, .str "big", .bl true] = mbig.d := rfl
    have er : repD [D.str (PySem.Str.ofString "misfit value")] 2 = [D.str (PySem.Str.ofString "misfit value"), D.str (PySem.Str.ofString "misfit value")] := rfl
    have ec : dcmp .eq (D.lst [D.str (PySem.Str.ofString "misfit value"), D.str (PySem.Str.ofString "misfit value"), D.str (PySem.Str.ofString "role value"), D.str (PySem.Str.ofString "misfit value")]) (D.lst [D.str (PySem.Str.ofString "misfit value"), D.str (PySem.Str.ofString "misfit value"), D.str (PySem.Str.ofString "role value"), D.str (PySem.Str.ofString "misfit value")]) = .ok (.bl true) := by with_unfolding_all rfl
    simp [d1, d2, e1, e2, e3, e4, g7, sizeLine_eq, cell_new, apI_new, er, view_new, ec]
end
end PyP

set_option Elab.async false
set_option linter.all false
set_option maxRecDepth 100000
set_option maxHeartbeats 0
namespace TX
open PySem PySem.Spec PyProof.Rows L2 PyD
def T : Tx := ⟨top, dd, cl, cls, cnCon cn, bts.map (namesOf "machine family shape program contents bytes role index number step steps" " text unlike misfit undo many value")⟩
def defs : Nat → Option Def := T.defs 40 20
def pk : Pk := ⟨T, e, cn⟩
theorem tok : TxOk T 40 20 := TxOk.of (by decide +kernel) (by decide +kernel) (by decide +kernel) (by decide +kernel) (by kernel_rfl) (by decide +kernel)
theorem eok : ErOk T e := ⟨by kernel_rfl, by kernel_rfl, rfl, by decide +kernel, by decide +kernel, by decide +kernel, by decide +kernel, by decide +kernel, by decide +kernel, by decide +kernel, bnd1_of (by decide +kernel), bnd1_of (by decide +kernel)⟩
theorem runP (w : World) : HandSHeadRun.RunEq R (PySem.W.view R.prog [157]) pk.hk pk.ob 12000 loose w := run w
end TX
theorem TX.has : PyP.Has19 (TX.T.defs 40 20) := { h0 := by kernel_rfl, h1 := by kernel_rfl, h2 := by kernel_rfl, h3 := by kernel_rfl, h4 := by kernel_rfl, h5 := by kernel_rfl, h6 := by kernel_rfl, h7 := by kernel_rfl, h8 := by kernel_rfl, h9 := by kernel_rfl, h12 := by kernel_rfl, h13 := by kernel_rfl, h14 := by kernel_rfl, h15 := by kernel_rfl, h17 := by kernel_rfl, h18 := by kernel_rfl, h20 := by kernel_rfl, h21 := by kernel_rfl, h22 := by kernel_rfl, h24 := by kernel_rfl, h27 := by kernel_rfl, h28 := by kernel_rfl, h31 := by kernel_rfl, h32 := by kernel_rfl, h33 := by kernel_rfl, h34 := by kernel_rfl, h35 := by kernel_rfl, h36 := by kernel_rfl, h37 := by kernel_rfl, h38 := by kernel_rfl, h39 := by kernel_rfl, h40 := by kernel_rfl, h41 := by kernel_rfl, h42 := by kernel_rfl, h43 := by kernel_rfl, h44 := by kernel_rfl, h45 := by kernel_rfl, h46 := by kernel_rfl, h47 := by kernel_rfl, h48 := by kernel_rfl, h49 := by kernel_rfl, h54 := by kernel_rfl, h55 := by kernel_rfl, h56 := by kernel_rfl, h57 := by kernel_rfl, h58 := by kernel_rfl, h89 := by kernel_rfl, h90 := by kernel_rfl, h91 := by kernel_rfl, h92 := by kernel_rfl, h105 := by kernel_rfl, h106 := by kernel_rfl, h126 := by kernel_rfl, h127 := by kernel_rfl, h135 := by kernel_rfl, h142 := by kernel_rfl, h143 := by kernel_rfl, h144 := by kernel_rfl, h152 := by kernel_rfl, h153 := by kernel_rfl, h158 := by kernel_rfl, h165 := by kernel_rfl, h175 := by kernel_rfl, h176 := by kernel_rfl, h177 := by kernel_rfl, h185 := by kernel_rfl, h210 := by kernel_rfl, h250 := by kernel_rfl, h251 := by kernel_rfl, h252 := by kernel_rfl, h253 := by kernel_rfl, h254 := by kernel_rfl }
theorem TX.law0 : ∀ ns : List Int, ns.length ≤ 63 → (∀ z ∈ ns, PySem.Builtin.Int.intBits z ≤ 1048576) → ∃ M', PyD.callD (TX.T.defs 40 20) 1000 60 254 [.d (.scr ns)] [] = .ok (.d (.bl true), M') := fun ns _ _ => PyP.s254 TX.has
set_option maxRecDepth 100000
set_option maxHeartbeats 0
open PySem PySem.W PySem.Calls PyProof.Rows
theorem PySem.Challenge.cw_bytefates_k19_errors_in_order_holds : PySem.Challenge.rw_bytefates_k19_errors_in_order.Holds := by
  w_on; o_law
  refine HandSHeadRun.head_any (r := OpenLaw.row PySem.Challenge.rw_bytefates_k19_errors_in_order) (q := view (OpenLaw.row PySem.Challenge.rw_bytefates_k19_errors_in_order).prog [157]) (H := TX.pk.hk) (ob := TX.pk.ob) (M := 12000) (loose := TX.loose) (d := HandSHeadRun.topDef (OpenLaw.row PySem.Challenge.rw_bytefates_k19_errors_in_order).prog 157) (kwd := []) TX.pk.ob_eq
    (by kernel_rfl) (fun s => by kernel_rfl) TX.runP (by kernel_rfl) (by kernel_rfl) (by kernel_rfl) (by rfl) (by first | assumption | decide +kernel) (by decide +kernel) ⟨rfl, rfl, rfl, rfl, rfl, by decide +kernel⟩ ?hw ?hc
  case hw => w_witness2
  case hc =>
    refine LamX.walk_ofTsE (l := PySem.Challenge.rw_bytefates_k19_errors_in_order) (n := 63) (k := 3 * 60) (x := "script") (CX := fun w => L2N.CX (PySem.Challenge.rw_bytefates_k19_errors_in_order).prog w) rfl (by decide) (by kernel_rfl) ⟨rfl, by decide, by decide⟩ ?F ?C
    case C =>
      intro w H s u s' h
      obtain ⟨_, _, _, _, _, _, _, _, _, _, _, _, hE⟩ := h
      exact hE
    case F =>
      intro w mg fa h Y G hmg0
      have hmg : mg ("law" : PySem.Str) = some (.ref fa) := by
        have e : (HandSHeadRun.topDef (OpenLaw.row PySem.Challenge.rw_bytefates_k19_errors_in_order).prog 157).name = ("law" : PySem.Str) := by kernel_rfl
        rw [← e]
        exact hmg0
      exact PyD.pk_law (p := TX.pk) (m := 40) (n := 20) (wf := 1000) (kk := 60) (j := 254) (dL := TX.d_law) TX.tok TX.eok rfl Y G (by decide +kernel) (by rfl) rfl hmg TX.law0

