import PyProof.Rows.All
import Wide.All
import OpenK.AllK
import Wide.FinOn
import KE.KStateDown
import Lean
import HandS.HeadHook1
import HandS.Base
import HandS.Call
import HandS.Ends
import HandS.More
import HandS.Words
import HandS.WordsExc
import HandS.Defaults
import HandS.Head0
import HandS.Head1
import HandS.Head2
import HandS.HeadEnd
import HandS.HeadHook2
import HandS.HeadHook3
import HandS.HeadHook4
import HandS.ExcField
import PyProof.ListStr
import HandS.ForMost
import HandS.Codes
import HandS.Conv
import HandS.Exc
import HandS.IsInst
import HandS.Flow
import HandS.Style
import HandS.TupAny
import HandS.TupMul
import HandS.Walk
import HandS.Steps
import KE.KDictList
import HandS.SetFor
import HandS.Replace
import PyProof.Rows.StrLawsPart
import HandS.Zip
import KE.GoesZip
import KE.GoesEnum
import KE.GoesMore
import HandS.SlotsOwn
import HandS.Star
import HandS.Property
import PyProof.InstNe
import HandS.MakeKwOnly
import HandS.TryMany
import HandS.ExcIs
import HandS.ExcInit
import HandS.HotCalls
import KE.KExcIs
import PySem.Challenge.RW_lemmasworth_k39_world_states
set_option Elab.async false
set_option linter.all false
namespace K39
open PySem
def top (i : Nat) : Stmt := PySem.Challenge.pw_lemmasworth_k39_world_states.main.body.getD i (.Pass ⟨0, 0, 0, 0⟩)
end K39
set_option Elab.async false
set_option linter.all false
set_option maxRecDepth 100000
set_option maxHeartbeats 0
namespace K39
open PySem PySem.Spec PyProof.Rows L2
abbrev R : PySem.W.OpenRow := PySem.W.OpenLaw.row PySem.Challenge.rw_lemmasworth_k39_world_states
def loose0 : List PySem.Str := ["_wall", "ROOTS", "STEPS", "__name__", "LemmaError", "BadClaim", "BadSteps", "BadRoots", "BadName", "NameTaken", "NoName", "MixedClaim", "StrangeSign", "BadThing", "BadGrammar", "ListCanBeTrue", "BadWorld", "WorldsDiffer", "TooWide", "NoProof"]
def loose1 : List PySem.Str := ["TooLong", "BadSpelling", "BadText", "BadLine", "NothingToUndo", "NothingToRedo", "TooManyRoots", "MARKS", "MOST_SIGNS", "lists_signs", "check_signs", "lists_marks", "are_states", "check_table", "least_places_of", "World", "_law_whole", "_law_cell", "_law_digits", "_law_same"]
def loose2 : List PySem.Str := ["_law_signs", "_law_marks", "_law_table", "_law_large", "_law_hand", "_law_fields", "_law_told_fields", "_law_at", "_law_places", "_law_reached", "_law_walks", "_law_near", "_law_equalities", "_law_greatest", "_law_wrong_string", "_law_wrong_marked", "_law_wrong_moves", "_law_wrong_starts", "_law_classes", "_law_refusal"]
def loose3 : List PySem.Str := ["_law_refusals"]
def loose : List PySem.Str := loose0 ++ (loose1 ++ (loose2 ++ (loose3)))
def gd (n : Str) (i : Nat) : He.DefD := ⟨(n, none), n, n, defArgs (top i), defBody (top i), defScope (top i), [], []⟩
def md (c n q : Str) (i j : Nat) : He.DefD := ⟨(c, some n), n, q, defArgs (inClass (top i) j), defBody (inClass (top i) j), defScope (inClass (top i) j), [], []⟩
def fn0 : List He.DefD := [gd "lists_signs" 30, gd "lists_marks" 33, gd "are_states" 34, gd "_law_whole" 39, gd "_law_cell" 40, gd "_law_digits" 41, gd "_law_marks" 44, gd "_law_hand" 47, gd "_law_fields" 48, gd "_law_told_fields" 49]
def fn1 : List He.DefD := [gd "_law_at" 50, gd "_law_places" 51, gd "_law_reached" 52, gd "_law_wrong_string" 57, gd "_law_wrong_starts" 60, gd "_law_wrong_moves" 59, gd "least_places_of" 36, gd "_law_same" 42, gd "_law_signs" 43, gd "_law_table" 45]
def fn2 : List He.DefD := [gd "_law_large" 46, gd "_law_wrong_marked" 58, md "BadSteps" "__init__" "BadSteps.__init__" 6 0, md "BadRoots" "__init__" "BadRoots.__init__" 7 0, md "BadWorld" "__init__" "BadWorld.__init__" 16 0, gd "check_signs" 31, gd "check_table" 35, md "World" "__init__" "World.__init__" 37 0, md "World" "__eq__" "World.__eq__" 37 1, md "World" "__call__" "World.__call__" 37 2]
def fn3 : List He.DefD := [md "World" "state_behind" "World.state_behind" 37 3, md "World" "state_of" "World.state_of" 37 4, gd "_law_walks" 53, gd "_law_near" 54, gd "_law_equalities" 55, gd "_law_greatest" 56, gd "_law_classes" 61, gd "_law_refusal" 62, gd "_law_refusals" 63, gd "law" 64]
def fn : List He.DefD := fn0 ++ (fn1 ++ (fn2 ++ (fn3)))
def fa0 : List He.Fa := [.free "bool", .free "int", .free "isinstance", .free "len", .free "list", .free "max", .free "min", .free "range", .free "sorted", .free "str", .free "tuple", .free "zip", .free "ValueError", .free "all", .str "ROOTS" "0123456789", .str "STEPS" "abcdefghijklmnopqrstuvwyz", .str "MARKS" "ABCDEFGHIJKLMNOPQRSTUVWXYZ", .int "MOST_SIGNS" 3, .glo "lists_signs", .glo "lists_marks"]
def fa1 : List He.Fa := [.glo "are_states", .glo "_law_whole", .glo "_law_cell", .glo "_law_digits", .glo "_law_marks", .glo "_law_hand", .glo "_law_fields", .glo "_law_told_fields", .glo "_law_at", .glo "_law_places", .glo "_law_reached", .glo "_law_wrong_string", .glo "_law_wrong_starts", .glo "_law_wrong_moves", .glo "least_places_of", .glo "_law_same", .glo "_law_signs", .glo "_law_table", .glo "_law_large", .glo "_law_wrong_marked"]
def fa2 : List He.Fa := [.glo "check_signs", .glo "check_table", .glo "_law_walks", .glo "_law_near", .glo "_law_equalities", .glo "_law_greatest", .glo "_law_classes", .glo "_law_refusal", .glo "_law_refusals", .glo "law", .glo "BadClaim", .glo "BadSteps", .glo "BadRoots", .glo "BadName", .glo "NameTaken", .glo "NoName", .glo "MixedClaim", .glo "StrangeSign", .glo "BadThing", .glo "BadGrammar"]
def fa3 : List He.Fa := [.glo "ListCanBeTrue", .glo "BadWorld", .glo "WorldsDiffer", .glo "TooWide", .glo "NoProof", .glo "TooLong", .glo "BadSpelling", .glo "BadText", .glo "BadLine", .glo "NothingToUndo", .glo "NothingToRedo", .glo "TooManyRoots", .glo "LemmaError", .glo "World", .cls "World", .noat "World" "steps", .noat "World" "roots", .noat "World" "starts", .noat "World" "moves", .noat "World" "marked"]
def fa4 : List He.Fa := [.noat "World" "_places", .noat "BadSteps" "steps", .noat "BadRoots" "roots", .noat "BadWorld" "part", .meth "World" "state_of", .meth "World" "state_behind", .mkr "World", .exm "BadSteps" "BadSteps" true, .exm "BadRoots" "BadSteps" false, .exm "BadRoots" "BadRoots" true, .exm "BadWorld" "BadSteps" false, .exm "BadWorld" "BadRoots" false, .exm "BadWorld" "BadWorld" true]
def fa : List He.Fa := fa0 ++ (fa1 ++ (fa2 ++ (fa3 ++ (fa4))))
def CLN : List PySem.Str := ["BadClaim", "BadSteps", "BadRoots", "BadName", "NameTaken", "NoName", "MixedClaim", "StrangeSign", "BadThing", "BadGrammar", "ListCanBeTrue", "BadWorld", "WorldsDiffer", "TooWide", "NoProof", "TooLong", "BadSpelling", "BadText", "BadLine", "NothingToUndo", "NothingToRedo", "TooManyRoots"]
/-- the def behind the class's property -/
def gtr (K : PySem.W.Frag) : Addr := match PySem.W.recIn K (He.ma K (He.ga K "World") "reached") "property" with
  | some (.ref g :: _) => g
  | _ => 0
def getW (K : PySem.W.Frag) (g : Addr) : He.FnW := match K.lookup g with
  | some ⟨_, _, .func u, _⟩ => some (u.name, u.qualname, u.params, u.body, u.scope, u.globals, u.closure, u.builtins)
  | _ => none
def getB (K : PySem.W.Frag) (g : Addr) (q : Str) : Bool := PySem.W.keepIn K (.ref g) && (match K.lookup g with
  | some ⟨_, _, .func u, _⟩ => PySem.W.codeIn K u.code q && (He.dflB K u.defaults [] && He.kwdB K u.kwdefaults [])
  | _ => false)
abbrev gtS : Stmt := inClass (top 37) 6
def gtV : He.FnW := some ("reached", "World.reached", defArgs gtS, .stmts (defBody gtS), defScope gtS, mainGlobals, [], builtinsNs)
def allB : List Bool → Bool
  | [] => true
  | b :: r => b && allB r
theorem allB_at : ∀ {l : List Bool} {b : Bool} (i : Nat), allB l = true → l[i]? = some b → b = true
  | [], _, i, _, e => by cases i <;> cases e
  | a :: r, b, 0, h, e => by
    obtain rfl : a = b := Option.some.inj e
    exact (He.ba h).1
  | a :: r, b, i + 1, h, e => allB_at (l := r) i (He.ba h).2 e
/-- the kinds of an exception of the class D, the n-th of CLN -/
def kitB (K : PySem.W.Frag) (D : Addr) (n : Nat) : Bool := ((List.range CLN.length).all fun i => match CLN[i]? with
  | some x => decide (PySem.W.kitOne K (.ref D) (.ref (He.ga K x)) = some (decide (i = n)))
  | none => true) && (decide (PySem.W.kitOne K (.ref D) (.ref (He.ga K "LemmaError")) = some true) && decide (PySem.W.kitOne K (.ref D) (.type "ValueError") = some true))
def oexB (K : PySem.W.Frag) (C : Addr) : Bool := (match K.lookup C with
  | some ⟨.type t, _, .cls u, sl⟩ => decide (t = "type") && (match u.mro, sl.toList with
    | .ref c :: bm, [_, _, _, _, some (.builtin n), _] => decide (c = C) && (decide (n = "ValueError.__new__") && (!u.hasDel && (u.hasDict && PySem.HandSPX.refsVE bm)))
    | _, _ => false)
  | _ => false) && (He.eqO (PySem.W.findIn K (.ref C) "__setattr__") (some (some (.builtin "object.__setattr__"))) && (decide (PySem.W.subIn K (.ref C) (.type "BaseException") = some true) && (decide (PySem.W.typeIn K (.ref C) = some (.type "type")) && PySem.W.keepIn K (.ref C))))
def excB (K : PySem.W.Frag) (D : Addr) : Bool := allB [He.eqO (PySem.W.findIn K (.ref D) "__getattribute__") (some (some (.builtin "BaseException.__getattribute__"))), He.eqO (PySem.W.findIn K (.ref D) "__getattr__") (some none), decide (PySem.W.subIn K (.ref D) (.type "BaseException") = some true),
  PySem.W.hasDictIn K D, He.eqO (PySem.W.findIn K (.ref D) "__class__") (some (some (.builtin "object.__class__"))), decide (PySem.W.mroIn K D (.type "object") = some true)]
def iniB (K : PySem.W.Frag) (C : Addr) : Bool := He.eqO (PySem.W.findIn K (.ref C) "__init__") (some (some (.ref (He.ma K C "__init__")))) && decide (PySem.W.typeIn K (.ref (He.ma K C "__init__")) = some (.type "function"))
def propB (K : PySem.W.Frag) (C : Addr) (x : Str) : Bool := allB [He.eqO (PySem.W.findIn K (.ref C) x) (some (some (.ref (He.ma K C x)))), He.eqO (PySem.W.specialIn K (.ref (He.ma K C x)) "__get__") (some (some (.builtin "property.__get__"))), decide (PySem.W.takesIn K (.ref (He.ma K C x)) = some true),
  (match PySem.W.recIn K (He.ma K C x) "property" with
  | some (.ref _ :: _) => true
  | _ => false)]
def calB (K : PySem.W.Frag) (C : Addr) : Bool := allB [He.eqO (PySem.W.findIn K (.ref C) "__call__") (some (some (.ref (He.ma K C "__call__")))), PySem.W.isFn K (.ref (He.ma K C "__call__")), PySem.W.fnIn K (He.ma K C "__call__")]
def eqcB (K : PySem.W.Frag) (C : Addr) : Bool := allB [He.eqO (PySem.W.findIn K (.ref C) "__eq__") (some (some (.ref (He.ma K C "__eq__")))), He.eqO (PySem.W.findIn K (.ref C) "__ne__") (some (some (.builtin "object.__ne__"))), PySem.W.isFn K (.ref (He.ma K C "__eq__")), decide (PySem.W.subIn K (.ref C) (.type "object") = some true)]
def NOK : List String := ["tuple", "list", "str", "int", "NoneType", "bool"]
def noB (K : PySem.W.Frag) (C : Addr) : Bool := NOK.all fun T => decide (PySem.W.kitOne K (.type T) (.ref C) = some false) && PySem.W.notFirst K C (.type T)
abbrev EXL (K : PySem.W.Frag) : List Bool := [He.eqO (PySem.W.findIn K (.ref (He.ga K "World")) "__class__") (some (some (.builtin "object.__class__"))), He.eqO (PySem.W.specialIn K (.builtin "object.__class__") "__get__") (some (some (.builtin "getset_descriptor.__get__"))),
  decide (PySem.W.takesIn K (.builtin "object.__class__") = some true), decide (PySem.W.mroIn K (He.ga K "World") (.type "object") = some true), noB K (He.ga K "World"),
  kitB K (He.ga K "BadSteps") 1, kitB K (He.ga K "BadRoots") 2, kitB K (He.ga K "BadWorld") 11, oexB K (He.ga K "BadSteps"), oexB K (He.ga K "BadRoots"), oexB K (He.ga K "BadWorld"), xfB K (He.ga K "BadSteps"), xfB K (He.ga K "BadRoots"), xfB K (He.ga K "BadWorld"),
  excB K (He.ga K "BadSteps"), excB K (He.ga K "BadRoots"), excB K (He.ga K "BadWorld"), propB K (He.ga K "World") "reached", calB K (He.ga K "World"), eqcB K (He.ga K "World"), iniB K (He.ga K "BadSteps"), iniB K (He.ga K "BadRoots"), iniB K (He.ga K "BadWorld"), getB K (gtr K) "World.reached"]
def ex (K : PySem.W.Frag) : Bool := allB (EXL K)
theorem ex_at {K : PySem.W.Frag} {b : Bool} (e : ex K = true) (i : Nat) (h : (EXL K)[i]? = some b) : b = true := allB_at i e h
def obG (g : Addr → Option Obj) : He.AlX × He.FnW := (He.obsX 5 fa fn [] [] ex g, getW (He.frT g (He.asD g 5)) (gtr (He.frT g (He.asD g 5))))
def SaysK (w : World) (h : Heap) : Prop := ∃ K : PySem.W.Frag, K.In h ∧ He.SaysX fa fn [] [] ex w h K ∧ getW K (gtr K) = gtV
theorem says_of {w : World} {h : Heap} (e : obG h.get? = (He.valX fn [] w, gtV)) : SaysK w h := by
  unfold obG at e
  obtain ⟨e1, e2⟩ := Prod.mk.inj e
  exact ⟨_, He.frT_in, He.saysX_of e1, e2⟩
theorem says_on {w : World} {h h' : Heap} (y : SaysK w h) (k : ∀ b o, h.get? b = some o → h'.get? b = some o) : SaysK w h' := by
  obtain ⟨K, hK, u, g⟩ := y
  exact ⟨K, PySem.W.Frag.In.keeps hK k, ⟨u.t, u.more, u.hd, u.out, fun p hp => k _ _ (u.empty p hp)⟩, g⟩
/-- the head tells the facts, and the property's getter -/
def hk : PySem.W.Hook where
  α := He.AlX × He.FnW
  obs := fun s => obG s.heap.get?
  val := fun w => (He.valX fn [] w, gtV)
  says := SaysK
  of := fun _ _ e => says_of e
  keeps := fun _ _ _ y k => says_on y k
def ob (s : PySem.W.SharedT) : He.AlX × He.FnW := obG (HandSHeadRun.getT s)
theorem ob_eq (s : PySem.W.SharedT) : ob s = hk.obs s.abs := by
  have e : HandSHeadRun.getT s = s.abs.heap.get? := funext (HandSHeadRun.getT_eq s)
  show obG (HandSHeadRun.getT s) = obG s.abs.heap.get?
  rw [e]
end K39
set_option Elab.async false
set_option linter.all false
set_option maxRecDepth 100000
set_option maxHeartbeats 0
namespace K39
open PySem PySem.Spec PyProof.Rows L2
theorem run (w : World) : HandSHeadRun.RunEq R (PySem.W.view R.prog [64]) hk ob 20000 loose w := by
  intro os
  kernel_rfl
theorem front (call : PySem.W.WalkO (PySem.W.view R.prog [64]) loose (PySem.W.XL (PySem.W.view R.prog [64]) []) hk.says R.toRowW (HandSHeadRun.topDef R.prog 64) [] fun f vs => PySem.call f vs) : R.Holds := by
  refine HandSHeadRun.head_any (q := PySem.W.view R.prog [64]) (H := hk) (ob := ob) (M := 20000) (loose := loose) (d := HandSHeadRun.topDef R.prog 64) (kwd := []) ob_eq
    (by kernel_rfl) (fun s => by kernel_rfl) run (by kernel_rfl) (by kernel_rfl) (by kernel_rfl) (by rfl) (by first | assumption | decide +kernel) (by decide +kernel) ⟨rfl, rfl, rfl, rfl, rfl, by decide +kernel⟩ ?hw call
  case hw => w_witness2
end K39
set_option Elab.async false
set_option linter.all false
set_option maxRecDepth 100000
set_option maxHeartbeats 2000000
/-! Uni: rules that do not ask the kind of a value ahead: one reading an operator, told by the values; and the steps that answer a reading, one a construct. -/
namespace Uni
open PySem L2 PySem.Spec PyProof.Rows
/-! ### heaps -/
def Ex (H H' : Hp) : Prop := ∀ a o, H a = some o → H' a = some o
theorem Ex.refl (H : Hp) : Ex H H := fun _ _ h => h
theorem Ex.trans {H H1 H2 : Hp} (a : Ex H H1) (b : Ex H1 H2) : Ex H H2 := fun x o h => b x o (a x o h)
theorem Ex.new {H : Hp} {p : Addr} {o : HO} (h : H p = none) : Ex H (upd H p o) := fun a u e => by
  rw [upd_ne (ne_of_none e h)]
  exact e
theorem Ex.up {H H' : Hp} {p : Addr} {o : HO} (e : Ex H H') (h : H' p = none) : Ex H (upd H' p o) := e.trans (Ex.new h)
theorem Ex.mut {H H' : Hp} {p : Addr} {o : HO} (e : Ex H H') (h : H p = none) : Ex H (upd H' p o) := fun a u ha => by
  rw [upd_ne (ne_of_none ha h)]
  exact e a u ha
theorem Ex.free {H H' : Hp} {p : Addr} (e : Ex H H') (h : H' p = none) : H p = none := by
  cases h1 : H p with
  | none => rfl
  | some o =>
    rw [e p o h1] at h
    cases h
theorem Ex.rd {H H' : Hp} {a : Addr} {u : HO} (e : Ex H H') (h : Rd H a u) : Rd H' a u := by
  rcases h with h | ⟨o, h⟩
  · exact Or.inl (e a _ h)
  · exact Or.inr ⟨o, e a _ h⟩
theorem Ex.l {K : PySem.W.Frag} {H H' : Hp} {a : Addr} {xs : List V} (e : Ex H H') (h : SqL K H a xs) : SqL K H' a xs := by
  rcases h with h | h
  · exact Or.inl (e.rd h)
  · exact Or.inr h
theorem Ex.t {K : PySem.W.Frag} {H H' : Hp} {a : Addr} {xs : List V} (e : Ex H H') (h : SqT K H a xs) : SqT K H' a xs := by
  rcases h with h | h
  · exact Or.inl (e.rd h)
  · exact Or.inr h
/-- an address that H does not know, H' knows -/
theorem ne_new {H H' : Hp} {p q : Addr} {o : HO} (h : H p = none) (h' : H q = some o) : q ≠ p := ne_of_none h' h
theorem old {H : Hp} {p a : Addr} {o u : HO} (h : H p = none) (e : H a = some u) : upd H p o a = some u := by
  rw [upd_ne (ne_of_none e h)]
  exact e
theorem off {H : Hp} {p a : Addr} {o u : HO} (n : a ≠ p) (e : H a = some u) : upd H p o a = some u := by
  rw [upd_ne n]
  exact e
theorem offT {H : Hp} {p a : Addr} {xs zs ys : List V} (h : H p = some (.lst xs)) (e : H a = some (.tup ys)) : upd H p (.lst zs) a = some (.tup ys) := by
  refine off (ne_of e h (by intro z; cases z)) e
theorem offI {H : Hp} {p a : Addr} {xs zs : List V} {C dx : Addr} {fs} (h : H p = some (.lst xs)) (e : H a = some (.ins C dx fs)) : upd H p (.lst zs) a = some (.ins C dx fs) := by
  refine off (ne_of e h (by intro z; cases z)) e
theorem upd_none {H : Hp} {p a : Addr} {o : HO} (h : upd H a o p = none) : p ≠ a ∧ H p = none := by
  by_cases e : p = a
  · rw [e, upd_same] at h
    cases h
  · rw [upd_ne e] at h
    exact ⟨e, h⟩
theorem none_upd {H : Hp} {p a : Addr} {o : HO} (n : p ≠ a) (h : H p = none) : upd H a o p = none := by
  rw [upd_ne n]
  exact h
theorem sql {K : PySem.W.Frag} {H : Hp} {a : Addr} {xs : List V} (h : H a = some (.lst xs)) : SqL K H a xs := Or.inl (Or.inl h)
theorem sqt {K : PySem.W.Frag} {H : Hp} {a : Addr} {xs : List V} (h : H a = some (.tup xs)) : SqT K H a xs := Or.inl (Or.inl h)
theorem szOf {n : Nat} (h : n ≤ 1000000) : n ≤ sizeLine := Nat.le_trans h (by decide)
theorem szLt {n : Nat} (h : n < 1000000) : n < sizeLine := Nat.lt_of_lt_of_le h (by decide)

/-! ### texts are lists of signs -/
abbrev S (l : List Nat) : Str := ⟨l.toArray⟩
theorem S_len (l : List Nat) : (S l).length = l.length := by simp [S, Str.length]
theorem S_cat (a b : List Nat) : S a ++ S b = S (a ++ b) := SX.S_cat a b
theorem S_inj {a b : List Nat} (h : S a = S b) : a = b := SX.S_inj h
theorem S_cps (a : List Nat) : (S a).cps.toList = a := rfl
theorem S_eq {a b : List Nat} : (S a = S b) = (a = b) := propext ⟨S_inj, fun h => by rw [h]⟩
theorem S_of (z : Str) : z = S z.cps.toList := rfl
abbrev sv (l : List Nat) : V := .str (S l)
theorem sv_inj {a b : List Nat} (h : sv a = sv b) : a = b := S_inj (V.str.inj h)

section
variable {X : Cx} {K : PySem.W.Frag}
/-! ### + -/
def uAdd (K : PySem.W.Frag) : R2 := fun x y H Q => match x, y with
  | .int i, .int j => Q (.int (i + j)) H
  | .int i, .bl k => Q (.int (i + b2i k)) H
  | .str a, .str b => a.length + b.length ≤ sizeLine ∧ Q (.str (a ++ b)) H
  | .ref a, .ref b => rCat (.ref a) (.ref b) H Q ∨ rCatA K (.ref a) (.ref b) H Q
  | _, _ => False
theorem op_uAdd : OpR X (binaryOp .Add) (uAdd X.K) := by
  intro pins s σ H x y v u Q I rx ry h
  cases x with
  | int i =>
    cases y with
    | int j => exact op_add pins s σ H _ _ v u Q I rx ry ⟨i, j, rfl, rfl, h⟩
    | bl k => exact op_add_ib pins s σ H _ _ v u Q I rx ry ⟨i, k, rfl, rfl, h⟩
    | _ => exact False.elim h
  | str a =>
    cases y with
    | str b => exact op_add_str pins s σ H _ _ v u Q I rx ry ⟨a, b, rfl, rfl, h⟩
    | _ => exact False.elim h
  | ref a =>
    cases y with
    | ref b => exact (OpR.or op_cat op_catA) pins s σ H _ _ v u Q I rx ry h
    | _ => exact False.elim h
  | _ => cases y <;> exact False.elim h
/-! ### * -/
def uMul (K : PySem.W.Frag) : R2 := fun x y H Q => match x, y with
  | .int i, .int j => CMul i j ∧ Q (.int (i * j)) H
  | .ref a, .int k => rRep (.ref a) (.int k) H Q ∨ rRepT K (.ref a) (.int k) H Q
  | _, _ => False
theorem op_uMul : OpR X (binaryOp .Mult) (uMul X.K) := by
  intro pins s σ H x y v u Q I rx ry h
  cases x with
  | int i =>
    cases y with
    | int j => exact op_mul pins s σ H _ _ v u Q I rx ry ⟨i, j, rfl, rfl, h⟩
    | _ => exact False.elim h
  | ref a =>
    cases y with
    | int j => exact (OpR.or op_rep op_repT) pins s σ H _ _ v u Q I rx ry h
    | _ => exact False.elim h
  | _ => cases y <;> exact False.elim h
/-! ### comparisons -/
def uEq (K : PySem.W.Frag) : R2 := fun x y H Q => (scal x y = true ∧ Q (.bl (decide (x = y))) H) ∨ rEqD K x y H Q
def uNe (K : PySem.W.Frag) : R2 := fun x y H Q => (scal x y = true ∧ Q (.bl (!decide (x = y))) H) ∨ rNeD K x y H Q
theorem op_uEq (hu : X.A.units + 64 < cLine) : OpR X (compareOp .Eq) (uEq X.K) := OpR.or op_eq (op_eqD hu)
theorem op_uNe (hu : X.A.units + 64 < cLine) : OpR X (compareOp .NotEq) (uNe X.K) := OpR.or op_ne (op_neD hu)
def uLt : R2 := fun x y H Q => match x, y with
  | .int i, .int j => Q (.bl (decide (i < j))) H
  | .str a, .str b => Q (.bl (decide (a.cps.toList < b.cps.toList))) H
  | _, _ => False
theorem op_uLt : OpR X (compareOp .Lt) uLt := by
  intro pins s σ H x y v u Q I rx ry h
  cases x with
  | int i =>
    cases y with
    | int j => exact op_lt pins s σ H _ _ v u Q I rx ry ⟨i, j, rfl, rfl, h⟩
    | _ => exact False.elim h
  | str a =>
    cases y with
    | str b => exact op_lt_str pins s σ H _ _ v u Q I rx ry ⟨a, b, rfl, rfl, h⟩
    | _ => exact False.elim h
  | _ => cases y <;> exact False.elim h
/-- in: one sign in a text; flat things in a list, a tuple -/
def uIn (K : PySem.W.Frag) (neg : Bool) : R2 := fun x y H Q => match x, y with
  | .str a, .str z => ∃ c, a = ⟨#[c]⟩ ∧ Q (.bl (if neg then !decide (c ∈ z.cps.toList) else decide (c ∈ z.cps.toList))) H
  | x, .ref p => rIn K neg x (.ref p) H Q
  | _, _ => False
theorem op_uIn : OpR X (compareOp .In) (uIn X.K false) := by
  intro pins s σ H x y v u Q I rx ry h
  cases y with
  | str z =>
    cases x with
    | str a =>
      obtain ⟨c, rfl, q⟩ := h
      exact op_in_sign pins s σ H _ _ v u Q I rx ry ⟨c, z, rfl, rfl, q⟩
    | _ => exact False.elim h
  | ref p => cases x <;> exact op_in_seq pins s σ H _ _ v u Q I rx ry h
  | _ => cases x <;> exact False.elim h
theorem op_uNotIn : OpR X (compareOp .NotIn) (uIn X.K true) := by
  intro pins s σ H x y v u Q I rx ry h
  cases y with
  | str z =>
    cases x with
    | str a =>
      obtain ⟨c, rfl, q⟩ := h
      exact op_notIn_sign pins s σ H _ _ v u Q I rx ry ⟨c, z, rfl, rfl, q⟩
    | _ => exact False.elim h
  | ref p => cases x <;> exact op_notIn_seq pins s σ H _ _ v u Q I rx ry h
  | _ => cases x <;> exact False.elim h
/-! ### subscripts -/
def uIx (K : PySem.W.Frag) : R2 := fun x y H Q => match x, y with
  | .ref p, .int i => ∃ xs v, (SqL K H p xs ∨ SqT K H p xs) ∧ atI xs i = some v ∧ Q v H
  | .str z, .int i => ∃ c, z.length ≤ sizeLine ∧ atI z.cps.toList i = some c ∧ Q (.str ⟨#[c]⟩) H
  | _, _ => False
theorem ix_u : IxR X (uIx X.K) := by
  intro va sc pins s σ H x y v u Q I rx ry h hs
  cases x with
  | ref p =>
    cases y with
    | int i =>
      obtain ⟨xs, w, hq, ha, q⟩ := h
      rcases hq with hq | hq
      · exact ix_list va sc pins s σ H _ _ v u Q I rx ry ⟨p, xs, i, w, rfl, rfl, hq, ha, q⟩ hs
      · exact ix_tup va sc pins s σ H _ _ v u Q I rx ry ⟨p, xs, i, w, rfl, rfl, hq, ha, q⟩ hs
    | _ => exact False.elim h
  | str z =>
    cases y with
    | int i =>
      obtain ⟨c, hz, ha, q⟩ := h
      exact ix_str va sc pins s σ H _ _ v u Q I rx ry ⟨z, i, c, rfl, rfl, hz, ha, q⟩ hs
    | _ => exact False.elim h
  | _ => cases y <;> exact False.elim h
/-- slices -/
def uSl (K : PySem.W.Frag) : V → Option Int → Option Int → Hp → VK → Prop := fun x lo hi H Q => match x with
  | .ref p => rSlL K (.ref p) lo hi H Q ∨ rSlA K (.ref p) lo hi H Q
  | .str z => z.length ≤ sizeLine ∧ Q (.str (cutS z lo hi)) H
  | _ => False
theorem sl_u : SlR X (uSl X.K) := by
  intro pins s σ H x v vl vu lo hi sl Q I rx hs pl pu h
  cases x with
  | ref p =>
    rcases h with h | h
    · exact sl_list pins s σ H _ v vl vu lo hi sl Q I rx hs pl pu h
    · exact sl_tupA pins s σ H _ v vl vu lo hi sl Q I rx hs pl pu h
  | str z => exact sl_str pins s σ H _ v vl vu lo hi sl Q I rx hs pl pu ⟨z, rfl, h⟩
  | _ => exact False.elim h
end
end Uni
set_option Elab.async false
set_option linter.all false
set_option maxRecDepth 100000
set_option maxHeartbeats 2000000
namespace Uni
open PySem L2 PySem.Spec PyProof.Rows
section
variable {X : Cx} {K : PySem.W.Frag}
/-! ### ints -/
def uSub : R2 := rI0 fun i j => .int (i - j)
theorem op_uSub : OpR X (binaryOp .Sub) uSub := op_sub
def uMod : R2 := rI (fun _ j => 0 < j) fun i j => .int (i % j)
theorem op_uMod : OpR X (binaryOp .Mod) uMod := op_mod
def uFdv : R2 := rI CDiv fun i j => .int (i / j)
theorem op_uFdv : OpR X (binaryOp .FloorDiv) uFdv := op_fdiv
def uPow : R2 := rI CPow fun i j => .int (i ^ j.toNat)
theorem op_uPow : OpR X (binaryOp .Pow) uPow := op_pow
def uLe : R2 := rI0 fun i j => .bl (decide (i ≤ j))
theorem op_uLe : OpR X (compareOp .LtE) uLe := op_le
def uGt : R2 := rI0 fun i j => .bl (decide (j < i))
theorem op_uGt : OpR X (compareOp .Gt) uGt := op_gt
def uGe : R2 := rI0 fun i j => .bl (decide (j ≤ i))
theorem op_uGe : OpR X (compareOp .GtE) uGe := op_ge
def uNeg : V → Hp → VK → Prop := rU fun i => .int (-i)
theorem un_uNeg : UnR X (unaryOp .USub) uNeg := un_neg
/-! ### built-ins by name -/
def uLen (K : PySem.W.Frag) : List V → Hp → VK → Prop := fun xs H Q => ∃ x n, xs = [x] ∧ LenV K x H n ∧ Q (.int (n : Nat)) H
theorem call_uLen : CallR X (.builtin "len") (uLen X.K) := call_len
def uInt : List V → Hp → VK → Prop := fun xs H Q => (∃ i, xs = [.int i] ∧ Q (.int i) H) ∨ ∃ k, xs = [.bl k] ∧ Q (.int (if k then 1 else 0)) H
theorem call_uInt : CallR X (.type "int") uInt := call_int1
def uMax : List V → Hp → VK → Prop := fun xs H Q => ∃ i j, xs = [.int i, .int j] ∧ Q (.int (if j > i then j else i)) H
theorem call_uMax (hc : X.calm = true) : CallR X (.builtin "max") uMax := call_max2 hc
def uMin : List V → Hp → VK → Prop := fun xs H Q => ∃ i j, xs = [.int i, .int j] ∧ Q (.int (if j < i then j else i)) H
theorem call_uMin (hc : X.calm = true) : CallR X (.builtin "min") uMin := call_min2 hc
def uSorted (K : PySem.W.Frag) : List V → Hp → VK → Prop := fun vs H Q => rSorted K vs H Q ∨ rSortedS K vs H Q
theorem CallR.or {f : Value} {r r' : List V → Hp → VK → Prop} (h : CallR X f r) (h' : CallR X f r') : CallR X f (fun xs H Q => r xs H Q ∨ r' xs H Q) := by
  intro pins s σ H xs us Q I r q
  rcases q with q | q
  · exact h pins s σ H xs us Q I r q
  · exact h' pins s σ H xs us Q I r q
theorem call_uSorted : CallR X (.builtin "sorted") (uSorted X.K) := CallR.or cr_sorted cr_sortedS
/-- list(text): its signs -/
def rListS : List V → Hp → VK → Prop := fun xs H Q => ∃ z : Str, xs = [.str z] ∧ z.length ≤ sizeLine ∧ ∀ l, H l = none → Q (.ref l) (upd H l (.lst (z.cps.toList.map fun c => sv [c])))
theorem call_listS (hc : X.calm = true) : CallR X (.type "list") rListS := by
  intro pins s σ H xs us Q I r h
  obtain ⟨z, e, hz, q⟩ := h
  subst e
  obtain ⟨u, eu, rx⟩ := vals1 r
  subst eu
  obtain ⟨t, rfl⟩ : ∃ t, u = Value.str z t := rx
  have hz' : z.cps.size ≤ sizeLine := hz
  refine PySem.call_list_str (I.ok.hd hc) z t (fun h' tk acc' c' hkeep hS hacc => ?_) hz'
  refine ⟨.ref s.heap.objs.size, upd H s.heap.objs.size (.lst (z.cps.toList.map fun c => sv [c])), I.laid hkeep (Nat.le_refl _) (show ObjOk X.prog X.w _ _ _ (.lst (z.cps.toList.map fun c => sv [c])) from ⟨?_, acc'.toList, c', ?_, hS⟩), rfl, q _ (I.hok.fresh (Nat.le_refl _))⟩
  · rw [List.length_map]
    exact hz'
  · have el : acc'.toList.length = acc'.size := by simp
    refine vals_of_at (by rw [List.length_map, el, hacc.1] <;> rfl) fun j x w h1 h2 => ?_
    obtain ⟨c, v, hc1, hv⟩ := hacc.2 j w (by rw [← Array.getElem?_toList]; exact h2)
    rw [List.getElem?_map] at h1
    have e1 : z.cps.toList[j]? = some c := by rw [Array.getElem?_toList]; exact hc1
    rw [e1] at h1
    cases h1
    rw [hv]
    exact ⟨v, rfl⟩
/-- list(x) of a list, a tuple, a text -/
def uList (K : PySem.W.Frag) : List V → Hp → VK → Prop := fun xs H Q => (∃ p ys, xs = [.ref p] ∧ (SqL K H p ys ∨ SqT K H p ys) ∧ ∀ l, H l = none → Q (.ref l) (upd H l (.lst ys))) ∨ rListS xs H Q
theorem call_uList (hc : X.calm = true) : CallR X (.type "list") (uList X.K) := CallR.or call_list_of (call_listS hc)
/-! ### text methods -/
def rJoin (K : PySem.W.Frag) : V → List V → Hp → VK → Prop := fun x xs H Q => ∃ a p, ∃ ys : List Str, x = .str a ∧ xs = [.ref p] ∧ (SqL K H p (ys.map V.str) ∨ SqT K H p (ys.map V.str)) ∧
    (ys.map (·.length)).sum + ys.length * a.length ≤ 16777216 ∧ Q (.str (Txt.join a ys)) H
theorem pe_uJoin {o e : Expr} {to te : TE} {apos pos : Pos} (ho : PE X o to) (he : PE X e te) (hs : starEach [e] X.env = [(false, eval e X.env)] := by rfl) (hbase : attributeBase o "join" X.env (eval o X.env) = eval o X.env := by rfl) (hline : (apos.endLine == pos.line) = true := by rfl) :
    PE X (.Call (.Attribute o "join" apos) [e] [] pos) (tM1 (rJoin X.K) to te) := pe_join ho he hs hbase hline
def rInsert : V → List V → Hp → VK → Prop := fun x vs H Q => ∃ (l : Addr) (xs : List V) (i : Int) (y : V), x = .ref l ∧ vs = [.int i, y] ∧ H l = some (.lst xs) ∧ xs.length < sizeLine ∧ 0 ≤ i ∧ i < 2 ^ 63 ∧
    Q .non (upd H l (.lst (xs.take i.toNat ++ [y] ++ xs.drop i.toNat)))
theorem mt_uInsert : MtR X "list.insert" rInsert := mt_insert
end
end Uni
set_option Elab.async false
set_option linter.all false
set_option maxRecDepth 100000
set_option maxHeartbeats 2000000
namespace Uni
open PySem L2 PySem.Spec PyProof.Rows
/-! ### what a loop walks: a text, a list, a tuple -/
def iUni (K : PySem.W.Frag) (tl : TE) : TI := fun σ H R => tl σ H fun x H1 => match x with
  | .str z => R (Its z) H1
  | .ref a => ((∃ xs, SqL K H1 a xs) ∧ R (Itl K a) H1) ∨ ((∃ xs, SqT K H1 a xs) ∧ R (Itt K a) H1)
  | _ => False
theorem pi_uni {X : Cx} {tg e : Expr} {te : TE} (he : PE X e te) : PI X tg e (iUni X.K te) := by
  refine ⟨fun pins s σ H R I h => ?_⟩
  refine thn (he.run pins s σ H _ I h) fun v s1 ⟨y, H1, I1, r1, q⟩ => ?_
  cases y with
  | str x =>
    have q : R (Its x) H1 := q
    obtain ⟨t, rfl⟩ := r1
    cases ha : x.cps.all (· < 128)
    · exact wpAny_pyIter_wide ha (pi_one (tk := s1.toks) I1 _ (turn_str _ x t "str_iterator" (.inr rfl)) ⟨_, Heap.get?_push_size _ rfl, rfl, rfl⟩ q)
    · exact wpAny_pyIter_ascii ha (pi_one (tk := s1.toks) I1 _ (turn_str _ x t "str_ascii_iterator" (.inl rfl)) ⟨_, Heap.get?_push_size _ rfl, rfl, rfl⟩ q)
  | ref a =>
    cases r1
    have fin : ∀ b, b ∈ [s1.heap.objs.size] → FpOk X pins H1 b := fun b hb => by
      have e : b = s1.heap.objs.size := by simpa using hb
      subst e
      exact I1.fpOk (Nat.le_refl _) (I1.hok.fresh (Nat.le_refl _))
    have q : ((∃ xs, SqL X.K H1 a xs) ∧ R (Itl X.K a) H1) ∨ ((∃ xs, SqT X.K H1 a xs) ∧ R (Itt X.K a) H1) := q
    rcases q with ⟨⟨xs, hq⟩, q⟩ | ⟨⟨xs, hq⟩, q⟩
    · obtain ⟨its, rv, p, hz⟩ := I1.list hq
      refine wpAny_pyIter_list p.isList ?_
      exact ⟨s1.heap.objs.size, [s1.heap.objs.size], _, _, H1, rfl, I1.kept (t' := s1.toks) fun b o e => Heap.get?_push_of_some _ e, turn_list a _, ⟨_, Heap.get?_push_size _ rfl, rfl, rfl⟩, fin, q⟩
    · obtain ⟨its, rv, p, hz⟩ := I1.tuple hq
      refine wpAny_pyIter_tuple (show s1.heap.IsTuple a its.toArray from p) ?_
      exact ⟨s1.heap.objs.size, [s1.heap.objs.size], _, _, H1, rfl, I1.kept (t' := s1.toks) fun b o e => Heap.get?_push_of_some _ e, turn_tuple a _, ⟨_, Heap.get?_push_size _ rfl, rfl, rfl⟩, fin, q⟩
  | _ => exact False.elim q

/-! ### steps: a reading's answer, one construct at a time -/
section
variable {K : PySem.W.Frag} {σ : L2.St} {H : Hp} {Q : VK} {D : Ends} {t u : TS} {te ta tb : TE} {tA tB' : TT} {x y v : V} {i : Nat}
theorem u_seq (h : t { D with nx := u D } σ H) : tSeq t u D σ H := h
theorem u_asg {g : TG} (h : te σ H fun x H1 => g x σ H1 D.nx) : tAsg te g D σ H := h
theorem u_gname {R : L2.St → Hp → Prop} (h : R (σ.set i (some x)) H) : gName i x σ H R := h
theorem u_drop (h : te σ H fun _ H1 => D.nx σ H1) : tDrop te D σ H := h
theorem u_ret (h : te σ H D.rt) : tRet te D σ H := h
theorem u_retN (h : D.rt .non H) : tRetN D σ H := h
theorem u_next (h : D.nx σ H) : tNext D σ H := h
theorem u_break (h : D.bk σ H) : tBreak D σ H := h
theorem u_cont (h : D.ct σ H) : tCont D σ H := h
theorem u_if {c : TT} (h : c σ H fun b H1 => if b = true then t D σ H1 else u D σ H1) : tIfS c t u D σ H := h
theorem u_var (e : σ[i]? = some (some v)) (h : Q v H) : tVar i σ H Q := ⟨v, e, h⟩
theorem u_c (h : Q v H) : tC v σ H Q := h
theorem u_op {r : R2} (h : ta σ H fun x H1 => tb σ H1 fun y H2 => r x y H2 Q) : tOp r ta tb σ H Q := h
theorem u_un {r : V → Hp → VK → Prop} (h : ta σ H fun x H1 => r x H1 Q) : tUn r ta σ H Q := h
variable {QT : Bool → Hp → Prop} {b : Bool}
theorem u_test (h : te σ H fun x H1 => ∃ k, x = .bl k ∧ QT k H1) : tTest te σ H QT := h
theorem u_tb (h : te σ H fun x H1 => ∃ k, x = .bl k ∧ QT k H1) : tB te σ H QT := h
theorem u_bl (h : QT b H) : ∃ k, V.bl b = .bl k ∧ QT k H := ⟨b, rfl, h⟩
theorem u_not (h : tA σ H fun c H1 => QT (!c) H1) : tNot tA σ H QT := h
theorem u_and (h : tA σ H fun c H1 => if c = true then tB' σ H1 QT else QT false H1) : tAnd tA tB' σ H QT := h
theorem u_or (h : tA σ H fun c H1 => if c = true then QT true H1 else tB' σ H1 QT) : tOr tA tB' σ H QT := h
theorem u_tru {k : Bool} (h : ta σ H fun x H1 => ∃ k, TruV K x H1 k ∧ QT k H1) : tTru K ta σ H QT := h
theorem u_chain {r r' : R2} {tc : TE} (h : ta σ H fun x H1 => tb σ H1 fun y H2 => r x y H2 fun z H3 => ∃ k, z = .bl k ∧ (if k = true then tc σ H3 fun w' H4 => r' y w' H4 Q else Q (.bl false) H3)) : tChain r r' ta tb tc σ H Q := h
theorem u_ifE {c : TT} (h : c σ H fun b H1 => if b = true then ta σ H1 Q else tb σ H1 Q) : tIf c ta tb σ H Q := h
theorem u_andV (h : ta σ H fun x H1 => ∃ c, x = .bl c ∧ if c = true then tb σ H1 Q else Q (.bl false) H1) : tAndV ta tb σ H Q := h
theorem u_orV (h : ta σ H fun x H1 => ∃ c, x = .bl c ∧ if c = true then Q (.bl true) H1 else tb σ H1 Q) : tOrV ta tb σ H Q := h
theorem u_notV (h : ta σ H fun x H1 => ∃ c, x = .bl c ∧ Q (.bl (!c)) H1) : tNotV ta σ H Q := h
theorem u_blE {R : Bool → Prop} (h : R b) : ∃ k, V.bl b = .bl k ∧ R k := ⟨b, rfl, h⟩
variable {QA : List V → Hp → Prop} {tr : TA}
theorem u_nil (h : QA [] H) : tNil σ H QA := h
theorem u_cons (h : ta σ H fun x H1 => tr σ H1 fun xs H2 => QA (x :: xs) H2) : tCons ta tr σ H QA := h
theorem u_tup (h : tr σ H fun xs H1 => xs.length ≤ sizeLine ∧ ∀ p, H1 p = none → Q (.ref p) (upd H1 p (.tup xs))) : tTup tr σ H Q := h
theorem u_lst (h : tr σ H fun xs H1 => xs.length ≤ sizeLine ∧ ∀ p, H1 p = none → Q (.ref p) (upd H1 p (.lst xs))) : tLst tr σ H Q := h
theorem u_cb {r : List V → Hp → VK → Prop} (h : tr σ H fun vs H1 => r vs H1 Q) : tCB r tr σ H Q := h
theorem u_call {sp : Sp} {E : XK} (h : tr σ H fun vs H1 => sp (vs ++ []) H1 Q E) : tCall sp [] E tr σ H Q := h
theorem u_bm {T : String} {r : V → List V → Hp → VK → Prop} (h : te σ H fun x H1 => tyV K T x H1 ∧ tr σ H1 fun xs H2 => r x xs H2 Q) : tBM K T r te tr σ H Q := h
theorem u_bm0 {T : String} {r : V → List V → Hp → VK → Prop} (h : te σ H fun x H1 => tyV K T x H1 ∧ r x [] H1 Q) : tBM0 K T r te σ H Q := h
theorem u_m1 {r : V → List V → Hp → VK → Prop} (h : ta σ H fun x H1 => (∃ a, x = .str a) ∧ te σ H1 fun y H2 => r x [y] H2 Q) : tM1 r ta te σ H Q := h
theorem u_sl {r : V → Option Int → Option Int → Hp → VK → Prop} {tl th : TO} (h : te σ H fun x H1 => tl σ H1 fun l H2 => th σ H2 fun u H3 => r x l u H3 Q) : tSl r te tl th σ H Q := h
theorem u_nopart {R : Option Int → Hp → Prop} (h : R none H) : tNoPart σ H R := h
theorem u_part {R : Option Int → Hp → Prop} (h : te σ H fun x H1 => ∃ i, x = .int i ∧ R (some i) H1) : tPart te σ H R := h
theorem u_int {R : Int → Prop} {n : Int} (h : R n) : ∃ i, V.int n = .int i ∧ R i := ⟨n, rfl, h⟩
theorem u_yes (h : QT true H) : tYes σ H QT := h
/-! ops by values -/
theorem u_rI0 {g : Int → Int → V} {m n : Int} (h : Q (g m n) H) : rI0 g (.int m) (.int n) H Q := ⟨m, n, rfl, rfl, h⟩
theorem u_add {m n : Int} (h : Q (.int (m + n)) H) : uAdd K (.int m) (.int n) H Q := h
theorem u_sub {m n : Int} (h : Q (.int (m - n)) H) : uSub (.int m) (.int n) H Q := ⟨m, n, rfl, rfl, h⟩
theorem u_mul {m n : Int} (c : CMul m n) (h : Q (.int (m * n)) H) : uMul K (.int m) (.int n) H Q := ⟨c, h⟩
theorem u_mod {m n : Int} (c : 0 < n) (h : Q (.int (m % n)) H) : uMod (.int m) (.int n) H Q := ⟨m, n, rfl, rfl, c, h⟩
theorem u_fdv {m n : Int} (c : CDiv m n) (h : Q (.int (m / n)) H) : uFdv (.int m) (.int n) H Q := ⟨m, n, rfl, rfl, c, h⟩
theorem u_pow {m n : Int} (c : CPow m n) (h : Q (.int (m ^ n.toNat)) H) : uPow (.int m) (.int n) H Q := ⟨m, n, rfl, rfl, c, h⟩
theorem u_neg {m : Int} (h : Q (.int (-m)) H) : uNeg (.int m) H Q := ⟨m, rfl, h⟩
theorem u_le {m n : Int} (h : Q (.bl (decide (m ≤ n))) H) : uLe (.int m) (.int n) H Q := ⟨m, n, rfl, rfl, h⟩
theorem u_gt {m n : Int} (h : Q (.bl (decide (n < m))) H) : uGt (.int m) (.int n) H Q := ⟨m, n, rfl, rfl, h⟩
theorem u_ge {m n : Int} (h : Q (.bl (decide (n ≤ m))) H) : uGe (.int m) (.int n) H Q := ⟨m, n, rfl, rfl, h⟩
theorem u_lt {m n : Int} (h : Q (.bl (decide (m < n))) H) : uLt (.int m) (.int n) H Q := h
theorem u_ltS {m n : List Nat} (h : Q (.bl (decide (m < n))) H) : uLt (.str (S m)) (.str (S n)) H Q := h
theorem u_eqI {m n : Int} (h : Q (.bl (decide (m = n))) H) : uEq K (.int m) (.int n) H Q := Or.inl ⟨rfl, by simpa using h⟩
theorem u_neI {m n : Int} (h : Q (.bl (!decide (m = n))) H) : uNe K (.int m) (.int n) H Q := Or.inl ⟨rfl, by simpa using h⟩
theorem u_eqS {m n : List Nat} (h : Q (.bl (decide (m = n))) H) : uEq K (.str (S m)) (.str (S n)) H Q := Or.inl ⟨rfl, by
  have e : decide (V.str (S m) = V.str (S n)) = decide (m = n) := decide_eq_decide.mpr ⟨fun e => sv_inj e, fun e => by rw [e]⟩
  rw [e]; exact h⟩
theorem u_neS {m n : List Nat} (h : Q (.bl (!decide (m = n))) H) : uNe K (.str (S m)) (.str (S n)) H Q := Or.inl ⟨rfl, by
  have e : decide (V.str (S m) = V.str (S n)) = decide (m = n) := decide_eq_decide.mpr ⟨fun e => sv_inj e, fun e => by rw [e]⟩
  rw [e]; exact h⟩
theorem u_eqB {m n : Bool} (h : Q (.bl (decide (m = n))) H) : uEq K (.bl m) (.bl n) H Q := Or.inl ⟨rfl, by simpa using h⟩
theorem u_neB {m n : Bool} (h : Q (.bl (!decide (m = n))) H) : uNe K (.bl m) (.bl n) H Q := Or.inl ⟨rfl, by simpa using h⟩
theorem u_addS {m n : List Nat} (c : m.length + n.length ≤ sizeLine) (h : Q (.str (S (m ++ n))) H) : uAdd K (.str (S m)) (.str (S n)) H Q :=
  ⟨by rw [S_len, S_len]; exact c, by rw [S_cat]; exact h⟩
theorem u_addL {a b : Addr} {xs ys : List V} (h1 : H a = some (.lst xs)) (h2 : H b = some (.lst ys)) (c : xs.length + ys.length ≤ sizeLine) (h : ∀ p, H p = none → Q (.ref p) (upd H p (.lst (xs ++ ys)))) : uAdd K (.ref a) (.ref b) H Q :=
  Or.inl ⟨a, b, xs, ys, rfl, rfl, h1, h2, c, h⟩
theorem u_repL {a : Addr} {xs : List V} {n : Int} (h1 : H a = some (.lst xs)) (c1 : -(2 ^ 63) ≤ n) (c2 : n < 2 ^ 63) (c : xs.length * n.toNat ≤ sizeLine) (h : ∀ p, H p = none → Q (.ref p) (upd H p (.lst (List.replicate n.toNat xs).flatten))) : uMul K (.ref a) (.int n) H Q :=
  Or.inl ⟨a, n, xs, rfl, rfl, h1, c1, c2, c, h⟩
theorem u_ixL {a : Addr} {xs : List V} {n : Int} (h1 : SqL K H a xs) (e : atI xs n = some v) (h : Q v H) : uIx K (.ref a) (.int n) H Q := ⟨xs, v, Or.inl h1, e, h⟩
theorem u_ixT {a : Addr} {xs : List V} {n : Int} (h1 : SqT K H a xs) (e : atI xs n = some v) (h : Q v H) : uIx K (.ref a) (.int n) H Q := ⟨xs, v, Or.inr h1, e, h⟩
theorem u_ixS {l : List Nat} {n : Int} {c : Nat} (z : l.length ≤ sizeLine) (e : atI l n = some c) (h : Q (.str (S [c])) H) : uIx K (.str (S l)) (.int n) H Q := ⟨c, by rw [S_len]; exact z, e, h⟩
theorem u_inS {c : Nat} {l : List Nat} (h : Q (.bl (decide (c ∈ l))) H) : uIn K false (.str (S [c])) (.str (S l)) H Q := ⟨c, rfl, h⟩
theorem u_ninS {c : Nat} {l : List Nat} (h : Q (.bl (!decide (c ∈ l))) H) : uIn K true (.str (S [c])) (.str (S l)) H Q := ⟨c, rfl, h⟩
theorem u_lenL {a : Addr} {xs : List V} (h1 : SqL K H a xs) (h : Q (.int xs.length) H) : uLen K [.ref a] H Q := ⟨_, _, rfl, Or.inl ⟨xs, h1, rfl⟩, h⟩
theorem u_lenT {a : Addr} {xs : List V} (h1 : SqT K H a xs) (h : Q (.int xs.length) H) : uLen K [.ref a] H Q := ⟨_, _, rfl, Or.inr ⟨xs, h1, rfl⟩, h⟩
theorem u_lenS {l : List Nat} (z : l.length ≤ sizeLine) (h : Q (.int l.length) H) : uLen K [.str (S l)] H Q := ⟨_, _, rfl, ⟨by rw [S_len]; exact z, rfl⟩, by rw [S_len]; exact h⟩
theorem u_intI {n : Int} (h : Q (.int n) H) : uInt [.int n] H Q := Or.inl ⟨n, rfl, h⟩
theorem u_intB {k : Bool} (h : Q (.int (if k then 1 else 0)) H) : uInt [.bl k] H Q := Or.inr ⟨k, rfl, h⟩
theorem u_listL {a : Addr} {xs : List V} (h1 : SqL K H a xs) (h : ∀ l, H l = none → Q (.ref l) (upd H l (.lst xs))) : uList K [.ref a] H Q := Or.inl ⟨a, xs, rfl, Or.inl h1, h⟩
theorem u_listT {a : Addr} {xs : List V} (h1 : SqT K H a xs) (h : ∀ l, H l = none → Q (.ref l) (upd H l (.lst xs))) : uList K [.ref a] H Q := Or.inl ⟨a, xs, rfl, Or.inr h1, h⟩
theorem u_listS {z : List Nat} (c : z.length ≤ sizeLine) (h : ∀ l, H l = none → Q (.ref l) (upd H l (.lst (z.map fun c => sv [c])))) : uList K [.str (S z)] H Q := Or.inr ⟨S z, rfl, by rw [S_len]; exact c, h⟩
theorem u_append {a : Addr} {xs : List V} (h1 : H a = some (.lst xs)) (c : xs.length < sizeLine) (h : Q .non (upd H a (.lst (xs ++ [x])))) : rAppend (.ref a) [x] H Q := ⟨a, xs, x, rfl, rfl, h1, c, h⟩
theorem u_extend {a b : Addr} {xs zs : List V} (h1 : H a = some (.lst xs)) (h2 : H b = some (.lst zs)) (c : xs.length + zs.length ≤ sizeLine) (h : Q .non (upd H a (.lst (xs ++ zs)))) : rExtend (.ref a) [.ref b] H Q := ⟨a, b, xs, zs, rfl, rfl, h1, h2, c, h⟩
theorem u_pop {a : Addr} {xs : List V} (h1 : H a = some (.lst (xs ++ [x]))) (h : Q x (upd H a (.lst xs))) : rPop (.ref a) [] H Q := ⟨a, xs ++ [x], x, rfl, rfl, h1, by simp, by simpa using h⟩
theorem u_tyL {a : Addr} {xs : List V} {R : Prop} (h1 : SqL K H a xs) (h : R) : tyV K "list" (.ref a) H ∧ R := ⟨Or.inl ⟨rfl, _, h1⟩, h⟩
theorem u_uniS {z : List Nat} {R : It → Hp → Prop} (h : te σ H fun x H1 => match x with
  | .str z => R (Its z) H1
  | .ref a => ((∃ xs, SqL K H1 a xs) ∧ R (Itl K a) H1) ∨ ((∃ xs, SqT K H1 a xs) ∧ R (Itt K a) H1)
  | _ => False) : iUni K te σ H R := h
theorem u_isi {T U : String} {b : Bool} (ht : TyX K H x (.type T)) (e : kitB T U = some b) (h : Q (.bl b) H) : rIsi K [x, .ty U] H Q := ⟨x, .ty U, _, _, b, rfl, .ty U, ht, kit_ty e, h⟩
theorem iteNF {A B : Prop} (h : A) : if (!false) = true then A else B := by simpa using h
theorem iteNT {A B : Prop} (h : B) : if (!true) = true then A else B := by simpa using h
theorem iteD {P A B : Prop} [Decidable P] (h1 : P → A) (h2 : ¬ P → B) : if decide P = true then A else B := by
  by_cases h : P
  · rw [if_pos (decide_eq_true h)]
    exact h1 h
  · rw [if_neg (by simpa using h)]
    exact h2 h
theorem iteND {P A B : Prop} [Decidable P] (h1 : ¬ P → A) (h2 : P → B) : if (!decide P) = true then A else B := by
  by_cases h : P
  · rw [if_neg (by simpa using h)]
    exact h2 h
  · rw [if_pos (by simpa using h)]
    exact h1 h
theorem iteB {b : Bool} {A B : Prop} (h1 : b = true → A) (h2 : b = false → B) : if b = true then A else B := by
  cases b with
  | true => exact iteT (h1 rfl)
  | false => exact iteF (h2 rfl)
theorem iteNB {b : Bool} {A B : Prop} (h1 : b = false → A) (h2 : b = true → B) : if (!b) = true then A else B := by
  cases b with
  | true => exact iteNT (h2 rfl)
  | false => exact iteNF (h1 rfl)
theorem u_rng1 {n : Int} {H : Hp} {R : It → Hp → Prop} (h1 : -(2 ^ 62) ≤ n) (h2 : n < 2 ^ 62) (h : R (Itr 0 n.toNat) H) : ∃ j : Int, [V.int n] = [.int j] ∧ -(2 ^ 62) ≤ j ∧ j < 2 ^ 62 ∧ R (Itr 0 j.toNat) H := ⟨n, rfl, h1, h2, h⟩
theorem u_rng2 {m n : Int} {H : Hp} {R : It → Hp → Prop} (h1 : -(2 ^ 62) ≤ m) (h2 : m < 2 ^ 62) (h3 : -(2 ^ 62) ≤ n) (h4 : n < 2 ^ 62) (h : R (Itr m (n - m).toNat) H) :
    ∃ i j : Int, [V.int m, V.int n] = [.int i, .int j] ∧ (-(2 ^ 62) ≤ i ∧ i < 2 ^ 62 ∧ -(2 ^ 62) ≤ j ∧ j < 2 ^ 62) ∧ R (Itr i (j - i).toNat) H := ⟨m, n, rfl, ⟨h1, h2, h3, h4⟩, h⟩
theorem u_for {wi : TI} {gg : TG} {tb : TS} {D : Ends} {σ : L2.St} {H : Hp} (h : wi σ H fun J H1 => ∃ W : Nat → Nat → L2.St → Hp → Prop, (∃ m, W 0 m σ H1) ∧ ∀ i m σ H, W i m σ H →
  (J.stop i H ∧ D.nx σ H) ∨ (J.go i H ∧ ∃ N : L2.St → Hp → Prop, (∀ σ' H', N σ' H' → ∃ m', m' < m ∧ W (i + 1) m' σ' H') ∧ ∀ x H', J.yld i H x H' → gg x σ H' fun σ2 H2 => tb { D with nx := N, ct := N, bk := D.nx } σ2 H2)) : tFor wi gg tb D σ H := h
theorem u_iR1 {ta : TA} {σ : L2.St} {H : Hp} {R : It → Hp → Prop} (h : ta σ H fun vs H1 => ∃ j : Int, vs = [.int j] ∧ -(2 ^ 62) ≤ j ∧ j < 2 ^ 62 ∧ R (Itr 0 j.toNat) H1) : iRng1 ta σ H R := h
theorem u_iR2 {ta : TA} {σ : L2.St} {H : Hp} {R : It → Hp → Prop} (h : ta σ H fun vs H1 => ∃ i j : Int, vs = [.int i, .int j] ∧ (-(2 ^ 62) ≤ i ∧ i < 2 ^ 62 ∧ -(2 ^ 62) ≤ j ∧ j < 2 ^ 62) ∧ R (Itr i (j - i).toNat) H1) : iRng2 ta σ H R := h
theorem u_uL {te : TE} {a : Addr} {xs : List V} {σ : L2.St} {H : Hp} {R : It → Hp → Prop} (h1 : SqL K H a xs) (h : R (Itl K a) H) : (match V.ref a with
  | .str z => R (Its z) H
  | .ref a => ((∃ xs, SqL K H a xs) ∧ R (Itl K a) H) ∨ ((∃ xs, SqT K H a xs) ∧ R (Itt K a) H)
  | _ => False) := Or.inl ⟨⟨xs, h1⟩, h⟩
theorem u_uT {te : TE} {a : Addr} {xs : List V} {σ : L2.St} {H : Hp} {R : It → Hp → Prop} (h1 : SqT K H a xs) (h : R (Itt K a) H) : (match V.ref a with
  | .str z => R (Its z) H
  | .ref a => ((∃ xs, SqL K H a xs) ∧ R (Itl K a) H) ∨ ((∃ xs, SqT K H a xs) ∧ R (Itt K a) H)
  | _ => False) := Or.inr ⟨⟨xs, h1⟩, h⟩
theorem at_i {α : Type} {xs : List α} {i : Int} {n : Nat} {x : α} (e : i = (n : Int)) (h : xs[n]? = some x) : atI xs i = some x := by
  subst e
  exact atI_nat h
theorem for_r0 {n : Nat} {g : TG} {tb : TS} {D : Ends} {σ : L2.St} {H : Hp} {z : Int} (ez : z.toNat = n) (Pv : Nat → L2.St → Hp → Prop) (h0 : Pv 0 σ H)
    (hs : ∀ (i : Nat) σ H, i < n → Pv i σ H → g (.int (i : Int)) σ H fun σ2 H2 => tb { D with nx := Pv (i + 1), ct := Pv (i + 1), bk := D.nx } σ2 H2) (hd : ∀ σ H, Pv n σ H → D.nx σ H) :
    ∃ W : Nat → Nat → L2.St → Hp → Prop, (∃ m, W 0 m σ H) ∧ ∀ i m σ H, W i m σ H →
      ((Itr 0 z.toNat).stop i H ∧ D.nx σ H) ∨ ((Itr 0 z.toNat).go i H ∧ ∃ N : L2.St → Hp → Prop, (∀ σ' H', N σ' H' → ∃ m', m' < m ∧ W (i + 1) m' σ' H') ∧ ∀ x H', (Itr 0 z.toNat).yld i H x H' → g x σ H' fun σ2 H2 => tb { D with nx := N, ct := N, bk := D.nx } σ2 H2) := by
  rw [ez]
  refine for_range (lo := 0) (n := n) Pv h0 (fun i σ H hi p => ?_) hd
  rw [Int.zero_add]
  exact hs i σ H hi p
/-- a text, walked -/
theorem for_text {z : List Nat} {g : TG} {tb : TS} {D : Ends} {σ : L2.St} {H : Hp} (Pv : Nat → L2.St → Hp → Prop) (h0 : Pv 0 σ H)
    (hs : ∀ i c σ H, z[i]? = some c → Pv i σ H → g (sv [c]) σ H fun σ2 H2 => tb { D with nx := Pv (i + 1), ct := Pv (i + 1), bk := D.nx } σ2 H2) (hd : ∀ σ H, Pv z.length σ H → D.nx σ H) :
    ∃ W : Nat → Nat → L2.St → Hp → Prop, (∃ m, W 0 m σ H) ∧ ∀ i m σ H, W i m σ H →
      ((Its (S z)).stop i H ∧ D.nx σ H) ∨ ((Its (S z)).go i H ∧ ∃ N : L2.St → Hp → Prop, (∀ σ' H', N σ' H' → ∃ m', m' < m ∧ W (i + 1) m' σ' H') ∧ ∀ x H', (Its (S z)).yld i H x H' → g x σ H' fun σ2 H2 => tb { D with nx := N, ct := N, bk := D.nx } σ2 H2) := by
  refine for_it (walk_str (z := S z)) Pv h0 (fun _ _ _ _ _ => trivial) ?_ ?_
  · rintro i x σ H H' hi p ⟨rfl, c, hc, rfl⟩
    have hc' : z[i]? = some c := by
      have e : (S z).cps[i]? = z[i]? := by simp [S]
      rw [← e]; exact hc
    exact hs i c σ _ hc' p
  · intro σ H p
    refine hd σ H ?_
    have e : (S z).cps.size = z.length := by simp [S]
    rw [← e]; exact p
end
end Uni
set_option Elab.async false
set_option linter.all false
set_option maxRecDepth 100000
set_option maxHeartbeats 2000000
namespace Uni
open PySem L2 PySem.Spec PyProof.Rows
/-! ### a list or a tuple -/
def Kd (k : Bool) (K : PySem.W.Frag) (H : Hp) (a : Addr) (xs : List V) : Prop := match k with
  | true => SqT K H a xs
  | false => SqL K H a xs
def kho (k : Bool) (xs : List V) : HO := match k with
  | true => .tup xs
  | false => .lst xs
theorem Kd.of {K : PySem.W.Frag} {k : Bool} {H : Hp} {a : Addr} {xs : List V} (h : H a = some (kho k xs)) : Kd k K H a xs := by
  cases k with
  | true => exact sqt h
  | false => exact sql h
theorem Kd.ex {K : PySem.W.Frag} {k : Bool} {H H' : Hp} {a : Addr} {xs : List V} (e : Ex H H') (h : Kd k K H a xs) : Kd k K H' a xs := by
  cases k with
  | true => exact e.t h
  | false => exact e.l h
section
variable {K : PySem.W.Frag} {σ : L2.St} {H : Hp} {Q : VK} {v : V}
theorem u_ixK {k : Bool} {a : Addr} {xs : List V} {n : Int} (h1 : Kd k K H a xs) (e : atI xs n = some v) (h : Q v H) : uIx K (.ref a) (.int n) H Q := by
  cases k with
  | true => exact u_ixT h1 e h
  | false => exact u_ixL h1 e h
theorem u_lenK {k : Bool} {a : Addr} {xs : List V} (h1 : Kd k K H a xs) (h : Q (.int xs.length) H) : uLen K [.ref a] H Q := by
  cases k with
  | true => exact u_lenT h1 h
  | false => exact u_lenL h1 h
theorem u_listK {k : Bool} {a : Addr} {xs : List V} (h1 : Kd k K H a xs) (h : ∀ l, H l = none → Q (.ref l) (upd H l (.lst xs))) : uList K [.ref a] H Q := by
  cases k with
  | true => exact u_listT h1 h
  | false => exact u_listL h1 h
end
def Jk (K : PySem.W.Frag) (k : Bool) (a : Addr) : It := match k with
  | true => Itt K a
  | false => Itl K a
theorem u_uK {K : PySem.W.Frag} {k : Bool} {a : Addr} {xs : List V} {H : Hp} {R : It → Hp → Prop} (h1 : Kd k K H a xs) (h : R (Jk K k a) H) :
    ((∃ xs, SqL K H a xs) ∧ R (Itl K a) H) ∨ ((∃ xs, SqT K H a xs) ∧ R (Itt K a) H) := by
  cases k with
  | true => exact Or.inr ⟨⟨xs, h1⟩, h⟩
  | false => exact Or.inl ⟨⟨xs, h1⟩, h⟩
theorem walk_k {K : PySem.W.Frag} {k : Bool} {a : Addr} {xs : List V} : Walk (Jk K k a) xs.length (fun H => Kd k K H a xs) (YAt xs) := by
  cases k with
  | true => exact walk_tup
  | false => exact walk_list
/-- W of a for -/
abbrev ForW (J : It) (g : TG) (tb : TS) (D : Ends) (σ : L2.St) (H : Hp) : Prop :=
  ∃ W : Nat → Nat → L2.St → Hp → Prop, (∃ m, W 0 m σ H) ∧ ∀ i m σ H, W i m σ H →
      (J.stop i H ∧ D.nx σ H) ∨ (J.go i H ∧ ∃ N : L2.St → Hp → Prop, (∀ σ' H', N σ' H' → ∃ m', m' < m ∧ W (i + 1) m' σ' H') ∧ ∀ x H', J.yld i H x H' → g x σ H' fun σ2 H2 => tb { D with nx := N, ct := N, bk := D.nx } σ2 H2)
/-- over a list or a tuple that the body leaves as it is -/
theorem for_k {K : PySem.W.Frag} {k : Bool} {a : Addr} {xs : List V} {g : TG} {tb : TS} {D : Ends} {σ : L2.St} {H : Hp} (Pv : Nat → L2.St → Hp → Prop) (h0 : Pv 0 σ H) (hl : ∀ i σ H, i ≤ xs.length → Pv i σ H → Kd k K H a xs)
    (hs : ∀ i x σ H, xs[i]? = some x → Pv i σ H → g x σ H fun σ2 H2 => tb { D with nx := Pv (i + 1), ct := Pv (i + 1), bk := D.nx } σ2 H2) (hd : ∀ σ H, Pv xs.length σ H → D.nx σ H) : ForW (Jk K k a) g tb D σ H := by
  refine for_it walk_k Pv h0 hl ?_ hd
  rintro i x σ H H' hi p ⟨rfl, hx⟩
  exact hs i x σ _ hx p
/-! ### comprehensions -/
abbrev LcW (J : It) (g : TG) (tt : TT) (te : TE) (vs : List Nat) (σ : L2.St) (H1 : Hp) (Q : VK) (D : Addr) : Prop := ∃ W : Nat → Nat → Hp → Prop, (∃ m, W 0 m (upd H1 D (.lst []))) ∧ ∀ i m H, W i m H →
  (J.stop i H ∧ Q (.ref D) H) ∨ (J.go i H ∧ ∃ Nx : Hp → Prop, (∀ H', Nx H' → ∃ m', m' < m ∧ W (i + 1) m' H') ∧ ∀ x H', J.yld i H x H' → g x (wipe σ vs) H' fun σ2 H2 => wipe σ2 vs = wipe σ vs ∧ tt σ2 H2 fun b H3 =>
    if b = true then te σ2 H3 fun y H4 => ∃ acc, H4 D = some (.lst acc) ∧ acc.length < sizeLine ∧ Nx (upd H4 D (.lst (acc ++ [y]))) else Nx H3)
theorem u_lc {wi : TI} {g : TG} {tt : TT} {te : TE} {vs : List Nat} {σ : L2.St} {H : Hp} {Q : VK} (h : wi σ H fun J H1 => ∀ D, H1 D = none → LcW J g tt te vs σ H1 Q D) : tLc wi g tt te vs σ H Q := h
theorem lc_inv {J : It} {n : Nat} {G : Hp → Prop} {X : Nat → V → Prop} (w : Walk J n G (fun i H x H' => H' = H ∧ X i x)) {g : TG} {tt : TT} {te : TE} {vs : List Nat} {σ : L2.St} {H1 : Hp} {Q : VK} (hG : ∀ H, Ex H1 H → G H) (hn : n < sizeLine)
    (R : Addr → Nat → List V → Hp → Prop) (h0 : ∀ D, H1 D = none → R D 0 [] (upd H1 D (.lst [])))
    (hs : ∀ D i x acc H, i < n → X i x → H1 D = none → H D = some (.lst acc) → Ex H1 H → acc.length ≤ i → R D i acc H → ∀ N : Hp → Prop,
      (∀ acc' H', H' D = some (.lst acc') → Ex H1 H' → acc'.length ≤ i + 1 → R D (i + 1) acc' H' → N H') →
      g x (wipe σ vs) H fun σ2 H2 => wipe σ2 vs = wipe σ vs ∧ tt σ2 H2 fun b H3 => if b = true then te σ2 H3 fun y H4 => ∃ acc, H4 D = some (.lst acc) ∧ acc.length < sizeLine ∧ N (upd H4 D (.lst (acc ++ [y]))) else N H3)
    (hd : ∀ D acc H, H1 D = none → H D = some (.lst acc) → Ex H1 H → acc.length ≤ n → R D n acc H → Q (.ref D) H) : ∀ D, H1 D = none → LcW J g tt te vs σ H1 Q D := by
  intro D hD
  refine lc_it w (fun i H => ∃ acc, H D = some (.lst acc) ∧ Ex H1 H ∧ acc.length ≤ i ∧ R D i acc H) ⟨[], upd_same, Ex.new hD, Nat.zero_le _, h0 D hD⟩ (fun i H _ ⟨_, _, e, _⟩ => hG H e) ?_ ?_
  · rintro i x H H' hi ⟨acc, a1, a2, a3, a4⟩ ⟨rfl, hx⟩
    exact hs D i x acc H' hi hx hD a1 a2 a3 a4 _ fun acc' H2 b1 b2 b3 b4 => ⟨acc', b1, b2, b3, b4⟩
  · rintro H ⟨acc, a1, a2, a3, a4⟩
    exact hd D acc H hD a1 a2 a3 a4
theorem walk_kX {K : PySem.W.Frag} {k : Bool} {a : Addr} {xs : List V} : Walk (Jk K k a) xs.length (fun H => Kd k K H a xs) (fun i H x H' => H' = H ∧ xs[i]? = some x) := walk_k
theorem walk_rX {n : Nat} : Walk (Itr 0 n) n (fun _ => True) (fun i H x H' => H' = H ∧ x = .int (i : Int)) :=
  walk_range.mono (fun _ _ => trivial) fun i H x H' _ _ ⟨e, ex⟩ => ⟨e, by rw [ex]; show V.int (0 + (i : Int)) = V.int i; rw [Int.zero_add]⟩
theorem walk_tX {z : List Nat} : Walk (Its (S z)) z.length (fun _ => True) (fun i H x H' => H' = H ∧ ∃ c, z[i]? = some c ∧ x = sv [c]) := by
  have w := walk_str (z := S z)
  have e : (S z).cps.size = z.length := by simp [S]
  rw [e] at w
  refine w.mono (fun _ h => h) fun i H x H' _ _ ⟨e, c, hc, ex⟩ => ⟨e, c, ?_, ex⟩
  have e2 : (S z).cps[i]? = z[i]? := by simp [S]
  rw [← e2]; exact hc
/-- every item gives one: P tells of the j-th new item; D is the new list -/
theorem lc_map {J : It} {n : Nat} {G : Hp → Prop} {X : Nat → V → Prop} (w : Walk J n G (fun i H x H' => H' = H ∧ X i x)) {g : TG} {tt : TT} {te : TE} {vs : List Nat} {σ : L2.St} {H1 : Hp} {Q : VK} (hG : ∀ H, Ex H1 H → G H) (hn : n < sizeLine)
    (P : Addr → Nat → V → Hp → Prop) (mono : ∀ D j y H H', (∀ a o, a ≠ D → H a = some o → H' a = some o) → P D j y H → P D j y H')
    (hs : ∀ D i x H, i < n → X i x → H1 D = none → (∃ acc, H D = some (.lst acc)) → Ex H1 H → ∀ (N : V → Hp → Prop) (N' : Hp → Prop), (∀ y H', Ex H H' → P D i y H' → N y H') →
      g x (wipe σ vs) H fun σ2 H2 => wipe σ2 vs = wipe σ vs ∧ tt σ2 H2 fun b H3 => if b = true then te σ2 H3 N else N' H3)
    (hd : ∀ D ys H, H1 D = none → H D = some (.lst ys) → Ex H1 H → ys.length = n → (∀ j y, ys[j]? = some y → P D j y H) → Q (.ref D) H) : ∀ D, H1 D = none → LcW J g tt te vs σ H1 Q D := by
  refine lc_inv w hG hn (fun D i acc H => acc.length = i ∧ ∀ j y, acc[j]? = some y → P D j y H) (fun D _ => ⟨rfl, fun j y h => by simp at h⟩) ?_ fun D acc H a1 a2 a3 _ a5 => hd D acc H a1 a2 a3 a5.1 a5.2
  rintro D i x acc H hi hx hD a1 a2 a3 ⟨el, hp⟩ N hN
  refine hs D i x H hi hx hD ⟨acc, a1⟩ a2 _ _ ?_
  · intro y H4 e4 p4
    have k1 : ∀ b o, b ≠ D → H4 b = some o → upd H4 D (.lst (acc ++ [y])) b = some o := fun b o hb e => by rw [upd_ne hb]; exact e
    refine ⟨acc, e4 _ _ a1, Nat.lt_of_le_of_lt a3 (Nat.lt_trans hi hn), hN (acc ++ [y]) _ upd_same ((a2.trans e4).mut hD) (by rw [List.length_append, List.length_singleton, el]; exact Nat.le_refl _) ⟨by rw [List.length_append, List.length_singleton, el], fun j z hz => ?_⟩⟩
    by_cases hj : j < acc.length
    · rw [List.getElem?_append_left hj] at hz
      exact mono D j z _ _ k1 (mono D j z H H4 (fun b o _ e => e4 b o e) (hp j z hz))
    · rw [List.getElem?_append_right (by omega)] at hz
      have hj2 : j - acc.length = 0 := by
        have := (List.getElem?_eq_some_iff.mp hz).1
        simp at this; omega
      rw [hj2] at hz
      cases hz
      have ej : j = i := by omega
      subst ej
      exact mono D j y _ _ k1 p4
theorem u_uni {K : PySem.W.Frag} {te : TE} {σ : L2.St} {H : Hp} {R : It → Hp → Prop} (h : te σ H fun x H1 => match x with
  | .str z => R (Its z) H1
  | .ref a => ((∃ xs, SqL K H1 a xs) ∧ R (Itl K a) H1) ∨ ((∃ xs, SqT K H1 a xs) ∧ R (Itt K a) H1)
  | _ => False) : iUni K te σ H R := h
theorem u_uF {K : PySem.W.Frag} {k : Bool} {a : Addr} {xs : List V} {H : Hp} {g : TG} {tb : TS} {D : Ends} {σ : L2.St} (h1 : Kd k K H a xs) (h : ForW (Jk K k a) g tb D σ H) :
    ((∃ xs, SqL K H a xs) ∧ ForW (Itl K a) g tb D σ H) ∨ ((∃ xs, SqT K H a xs) ∧ ForW (Itt K a) g tb D σ H) := by
  cases k with
  | true => exact Or.inr ⟨⟨xs, h1⟩, h⟩
  | false => exact Or.inl ⟨⟨xs, h1⟩, h⟩
theorem u_uC {K : PySem.W.Frag} {k : Bool} {a : Addr} {xs : List V} {H : Hp} {g : TG} {tt : TT} {te : TE} {vs : List Nat} {σ : L2.St} {Q : VK} (h1 : Kd k K H a xs) (h : ∀ D, H D = none → LcW (Jk K k a) g tt te vs σ H Q D) :
    ((∃ xs, SqL K H a xs) ∧ ∀ D, H D = none → LcW (Itl K a) g tt te vs σ H Q D) ∨ ((∃ xs, SqT K H a xs) ∧ ∀ D, H D = none → LcW (Itt K a) g tt te vs σ H Q D) := by
  cases k with
  | true => exact Or.inr ⟨⟨xs, h1⟩, h⟩
  | false => exact Or.inl ⟨⟨xs, h1⟩, h⟩
end Uni
set_option Elab.async false
set_option linter.all false
set_option maxRecDepth 100000
set_option maxHeartbeats 2000000
/-! tuple(dict) in the library's words -/
namespace PySem
open PySem.Spec PySem.Calls
section
variable {prog : Program} {w : World} {K : Type} [DecidableEq K] {A : Around} {E : Value → Shared → Prop} {s : Shared} {T : String} {r d : Addr} {n : Nat} {P : Nat → Value → Prop} {OK : Heap → Prop}
theorem uni_collect {Q : List Value → Shared → Prop} (K : PySem.W.KdlSrc prog w T r d n P OK) (hh : A.handled = none) (hok : OK s.heap) (hn : n ≤ sizeLine)
    (hQ : ∀ (h' : Heap) (tk : Nat) (acc : Array Value), (∀ b o, s.heap.get? b = some o → h'.get? b = some o) → ItemsOf P acc n → Q acc.toList { s with heap := h', toks := tk }) :
    wpAny (model prog w) A (collect (.ref r)) Q E s := by
  unfold collect
  refine wpAny_bind (wpAny_runValue (codeAny_builtin F.entry_proto_collect ?_))
  rw [Around.under_plainId F.plain_proto_collect _]
  show wpAny _ A.in1 (newList [] >>= fun l => again (.builtin "list.__iadd__" ⟨[l, .ref r], []⟩)) _ _ s
  refine wpAny_bind (wpAny_newObj_type ?_)
  refine wpAny_pure ⟨plainId_quiet F.plain_list_iadd _, codeAny_builtin F.entry_list_iadd ?_⟩
  rw [Around.under_plainId F.plain_list_iadd _]
  show wpAny _ A.in1 (Builtin.List.listExtendWith (.ref s.heap.objs.size) (.ref r) (.ref s.heap.objs.size)) _ _ _
  have hS : (s.heap.push { cls := .type "list", data := .seq ([] : List Value).toArray }).get? s.heap.objs.size = some { cls := .type "list", data := .seq #[] 0 } := Heap.get?_push_size _ rfl
  have hlt := K.there _ hok
  refine wpAny_mono (PySem.W.kdl_extend (A := A) (R := fun rr s' => rr = .ok (.ret (.ref s.heap.objs.size)) ∧ ∃ (h' : Heap) (tk : Nat) (acc : Array Value) (c' : Nat), s' = { s with heap := h', toks := tk } ∧
      (∀ b o, s.heap.get? b = some o → h'.get? b = some o) ∧ h'.get? s.heap.objs.size = some { cls := .type "list", dict := none, data := .seq acc c', slots := #[] } ∧ ItemsOf P acc n)
    (s := { s with heap := s.heap.push { cls := .type "list", data := .seq ([] : List Value).toArray } }) K hh (K.keep _ _ hok fun b _ o e => Heap.get?_push_of_some _ e) _ (Nat.ne_of_gt hlt.1) (Nat.ne_of_gt hlt.2) _ 0 hS
    (fun h' tk acc c' hk e hi => ⟨rfl, h', tk, acc, c', rfl, fun b o q => hk b o (Nat.ne_of_lt (Heap.lt_size q)) (Heap.get?_push_of_some _ q), e, hi⟩) hn) (fun fin s' h => ?_) (fun e s' h => ?_)
  · cases fin with
    | done f =>
      obtain ⟨e, h', tk, acc, c', rfl, hk, hS', hi⟩ := h
      cases e
      show wpAny _ A (load s.heap.objs.size >>= _) _ _ _
      exact wpAny_bind (wpAny_load hS' (wpAny_pure (hQ h' tk acc hk hi)))
    | again c' =>
      refine ⟨h.1, codeAny_mono h.2 fun rr s'' hr' => ?_⟩
      obtain ⟨rfl, h', tk, acc, c', rfl, hk, hS', hi⟩ := hr'
      show wpAny _ A (load s.heap.objs.size >>= _) _ _ _
      exact wpAny_bind (wpAny_load hS' (wpAny_pure (hQ h' tk acc hk hi)))
  · exact absurd h.1 (by simp)
theorem uni_tuple_new {Q₁ : Value → Shared → Prop} (K : PySem.W.KdlSrc prog w T r d n P OK) (hh : A.handled = none) (hok : OK s.heap) (hn : n ≤ sizeLine)
    (h : ∀ (h' : Heap) (tk : Nat) (acc : Array Value), (∀ b o, s.heap.get? b = some o → h'.get? b = some o) → ItemsOf P acc n →
      Q₁ (.ref h'.objs.size) { s with heap := h'.push { cls := .type "tuple", data := .seq acc }, toks := tk }) :
    codeAny (model prog w) A (.call (.builtin "tuple.__new__") ⟨[.type "tuple", .ref r], []⟩) (wants Q₁ E) s := by
  refine codeAny_of_tree ?_
  show wpAny _ A.in1 (do checkBuiltinCall "tuple.__new__" ⟨[.type "tuple", .ref r], []⟩; again (.builtin "tuple.__new__" ⟨[.type "tuple", .ref r], []⟩)) _ _ s
  refine wpAny_bind (wpAny_of_eq (F.newCall_tuple_1 _) (wpAny_pure ⟨plainId_quiet F.plain_tuple_new _, codeAny_builtin F.entry_tuple_new ?_⟩))
  rw [Around.under_plainId F.plain_tuple_new _]
  have hsub := sub_tuple_self
  have hinit := init_tuple_lookup
  have hmh := madeHere_tuple
  have hTI : s.TypeIs (.ref r) T := K.type s hok
  have hh1 : A.in1.handled = none := hh
  have hnl := K.notList
  have hnt := K.notTuple
  have hc : ∀ {Q : List Value → Shared → Prop} {E : Value → Shared → Prop}, (∀ (h' : Heap) (tk : Nat) (acc : Array Value), (∀ b o, s.heap.get? b = some o → h'.get? b = some o) → ItemsOf P acc n → Q acc.toList { s with heap := h', toks := tk }) →
      wpAny (model prog w) A.in1 (collect (.ref r)) Q E s := fun q => uni_collect (A := A.in1) K hh1 hok hn q
  wp_walk using wpAny_typeOf hTI, hc
  intro h' tk acc hk hacc
  show wpAny _ _ (Builtin.Tuple.tupleExact acc.toList.toArray >>= fun v => ret v) _ _ _
  unfold Builtin.Tuple.tupleExact
  refine wpAny_bind (wpAny_newObj_type ?_ (by show acc.toList.toArray.size ≤ sizeLine; simp only [Array.toArray_toList]; rw [hacc.1]; exact hn))
  refine wpAny_pure ?_
  have e : acc.toList.toArray = acc := by simp
  rw [e]
  exact h h' tk acc hk hacc
theorem uni_call_tuple {Q : Value → Shared → Prop} (K : PySem.W.KdlSrc prog w T r d n P OK) (hh : A.handled = none) (hok : OK s.heap) (hn : n ≤ sizeLine)
    (hQ : ∀ (h' : Heap) (tk : Nat) (acc : Array Value), (∀ b o, s.heap.get? b = some o → h'.get? b = some o) → ItemsOf P acc n →
      Q (.ref h'.objs.size) { s with heap := h'.push { cls := .type "tuple", data := .seq acc }, toks := tk }) :
    wpAny (model prog w) A (call (.type "tuple") [.ref r]) Q E s := by
  refine callType_codes (Q₁ := fun obj s₁ => s₁.TypeIs obj "tuple" ∧ Q obj s₁) F.called_tuple (F.typeCall_tuple_1 _) F.entry_object_init
    (uni_tuple_new (A := A.in1) K hh hok hn fun h' tk acc hk hacc => ⟨⟨_, Heap.get?_push_size _ rfl, rfl⟩, hQ h' tk acc hk hacc⟩) fun obj s₁ h₁ => ?_
  exact ⟨h₁.1, F.args_object_init_2 obj _, object_init_meets F.called_tuple.init.lookup F.called_tuple.made (by decide) prog w A.in1 _ s₁ ⟨h₁.1, rfl, h₁.2⟩⟩
end
end PySem
namespace Uni
open PySem L2 PySem.Spec PyProof.Rows
section
variable {X : Cx}
/-! ### str.index of one sign -/
/-- the first place of a sign in a text -/
def ixs (l : List Nat) (c : Nat) : Nat := (Builtin.Str.occurrences (S l) (S [c]) 0 (S l).length 1).headD 0
theorem ixs_ok {l : List Nat} {c : Nat} (h : c ∈ l) : ∃ rest, Builtin.Str.occurrences (S l) (S [c]) 0 (S l).length 1 = ixs l c :: rest ∧ ixs l c < l.length := by
  have e := empty_one (S l) c
  have sp := StrLaws.occ_spec (S l) (S [c]) 0 (S l).length 1
  unfold ixs
  cases q : Builtin.Str.occurrences (S l) (S [c]) 0 (S l).length 1 with
  | nil =>
    have e2 : (Builtin.Str.occurrences (S l) (S [c]) 0 (S l).length 1).isEmpty = !decide (c ∈ l) := e
    rw [q, decide_eq_true h] at e2
    exact absurd e2 (by decide)
  | cons i rest =>
    refine ⟨rest, rfl, ?_⟩
    have z := (sp i (by rw [q]; exact List.mem_cons_self)).1
    rw [S_len, S_len] at z
    have z2 : i + 1 ≤ l.length := z
    show i < l.length
    omega
def rSIndex : V → List V → Hp → VK → Prop := fun x xs H Q => ∃ (l : List Nat) (c : Nat), x = sv l ∧ xs = [sv [c]] ∧ c ∈ l ∧ Q (.int (ixs l c)) H
theorem mt_uSIndex : MtR X "str.index" rSIndex := by
  intro pins s σ H x xs v us Q I rx rs h
  obtain ⟨l, c, e1, e2, hc, q⟩ := h
  obtain ⟨rest, ho, _⟩ := ixs_ok hc
  exact mt_sindex pins s σ H x xs v us Q I rx rs ⟨S l, S [c], ixs l c, rest, e1, e2, ho, q⟩
/-! ### list.count of a bool among bools -/
def eqb (k : Bool) (v : Value) : Bool := match v with
  | .bool n => n == k
  | _ => false
theorem eqb_vals : ∀ {bs : List Bool} {us : List Value}, Vals (bs.map V.bl) us → us = bs.map Value.bool
  | [], _, .nil => rfl
  | b :: bs, _, .cons r t => by rw [eqb_vals t]; cases r; rfl
theorem eqb_count (k : Bool) : ∀ bs : List Bool, (bs.map Value.bool).countP (eqb k) = bs.count k
  | [] => rfl
  | b :: bs => by
    have ih := eqb_count k bs
    rw [List.map_cons, List.countP_cons, List.count_cons, ih] <;> rfl
def rCountB (K : PySem.W.Frag) : V → List V → Hp → VK → Prop := fun x xs H Q => ∃ (p : Addr) (bs : List Bool) (k : Bool), x = .ref p ∧ xs = [.bl k] ∧ SqL K H p (bs.map V.bl) ∧ Q (.int (bs.count k : Nat)) H
theorem mt_uCount : MtR X "list.count" (rCountB X.K) := by
  intro pins s σ H x xs v us Q I rx rxs h
  obtain ⟨p, ns, k, rfl, rfl, hs, q⟩ := h
  cases rx
  obtain ⟨u, rfl, ru⟩ := rxs.one
  cases ru
  obtain ⟨its, rv, ⟨⟨cls, dd, data, sl⟩, n, ho, hc, hdn, hd⟩, hlen⟩ := I.list hs
  simp only at hc hd
  subst hc hd
  have ei := eqb_vals rv
  refine call_meets PySem.F.slot_list_count ⟨_, ho, rfl⟩ PySem.F.entry_list_count (PySem.F.args_list_count_2 _ _)
    (SeqAt.list_countAt p its.toArray n dd sl (.bool k) (eqb k)) ⟨ho, fun y hy => ?_, ?_⟩
  · have hy2 : y ∈ its := by simpa using hy
    rw [ei] at hy2
    obtain ⟨b, _, rfl⟩ := List.mem_map.mp hy2
    exact SeqAt.EqAt.bool_bool b k
  · have ec : its.toArray.toList.countP (eqb k) = ns.count k := by
      rw [List.toList_toArray, ei]
      exact eqb_count k ns
    refine ⟨.int (ns.count k : Nat), H, I.tok _, ⟨s.toks, ?_⟩, q⟩
    show Value.int ((its.toArray.toList.countP (eqb k) : Nat) : Int) s.toks = Value.int ((ns.count k : Nat) : Int) s.toks
    rw [ec]
/-! ### tuple(x) of a list, a tuple, a dict -/
def rTupD : List V → Hp → VK → Prop := fun xs H Q => ∃ p kvs, xs = [.ref p] ∧ H p = some (.dK kvs) ∧ ∀ q, H q = none → Q (.ref q) (upd H q (.tup (kvs.map fun kv => kV kv.1)))
theorem call_tupD (hc : X.calm = true) : CallR X (.type "tuple") rTupD := by
  intro pins s σ H xs us Q I r h
  obtain ⟨p, kvs, e, hk, q⟩ := h
  subst e
  obtain ⟨u, eu, rx⟩ := vals1 r
  subst eu
  obtain rfl : u = Value.ref p := rx
  obtain ⟨z, lo, vs, rk, hd⟩ := (show ObjOk X.prog X.w H s.heap p (.dK kvs) from I.hok p _ hk)
  obtain ⟨ep, hat⟩ := hd.dictAt
  have hl : kvs.length = vs.length := Paired.length rk
  refine PySem.uni_call_tuple (PySem.W.kdl_dict (knd := mixKind X.prog X.w) (kvs := vs) (ep := ep) lo) (I.ok.hd hc) hat (by rw [← hl]; exact z) fun h' tk acc hkeep hacc => ?_
  have new : ObjOk X.prog X.w (upd H h'.objs.size (.tup (kvs.map fun kv => kV kv.1))) (h'.push { cls := .type "tuple", data := .seq acc }) h'.objs.size (.tup (kvs.map fun kv => kV kv.1)) := by
    refine ⟨by rw [List.length_map]; exact z, acc.toList, ?_, ?_⟩
    · have el : acc.toList.length = acc.size := by simp
      refine vals_of_at (by rw [List.length_map, el, hacc.1, hl]) fun j x w h1 h2 => ?_
      obtain ⟨k, y, hky, hi⟩ := hacc.2 j w (by rw [← Array.getElem?_toList]; exact h2)
      have e1 : (kvs.map (·.1))[j]? = some k := by
        rw [KV.keys rk, List.getElem?_map, hky] <;> rfl
      have e2 : (kvs.map fun kv => kV kv.1)[j]? = some (kV k) := by
        have e3 : (kvs.map fun kv => kV kv.1) = (kvs.map (·.1)).map kV := by rw [List.map_map] <;> rfl
        rw [e3, List.getElem?_map, e1] <;> rfl
      rw [e2] at h1
      cases h1
      rcases keyIs_shape (show keyIs k w = true from hi) with ⟨i, t, rfl, rfl⟩ | ⟨x, t, rfl, rfl⟩
      · exact ⟨t, rfl⟩
      · exact ⟨t, rfl⟩
    · rw [Array.toArray_toList]
      exact IsTup.new h' acc
  have I1 : Inv X pins σ H { s with heap := h', toks := tk } := I.kept hkeep
  exact ⟨.ref h'.objs.size, _, I1.laid (t' := tk) (fun b o e => Heap.get?_push_of_some _ e) (Nat.le_refl _) new, rfl, q _ (I1.hok.fresh (Nat.le_refl _))⟩
/-- tuple(x) -/
def uTuple (K : PySem.W.Frag) : List V → Hp → VK → Prop := fun xs H Q => (∃ p ys, xs = [.ref p] ∧ ((SqL K H p ys ∧ ∀ l, H l = none → Q (.ref l) (upd H l (.tup ys))) ∨ (SqT K H p ys ∧ Q (.ref p) H))) ∨ rTupD xs H Q
theorem call_uTuple (hc : X.calm = true) : CallR X (.type "tuple") (uTuple X.K) := CallR.or call_tuple_of (call_tupD hc)
end
section
variable {K : PySem.W.Frag} {σ : L2.St} {H : Hp} {Q : VK}
theorem u_tupL {a : Addr} {xs : List V} (h1 : SqL K H a xs) (h : ∀ l, H l = none → Q (.ref l) (upd H l (.tup xs))) : uTuple K [.ref a] H Q := Or.inl ⟨a, xs, rfl, Or.inl ⟨h1, h⟩⟩
theorem u_tupT {a : Addr} {xs : List V} (h1 : SqT K H a xs) (h : Q (.ref a) H) : uTuple K [.ref a] H Q := Or.inl ⟨a, xs, rfl, Or.inr ⟨h1, h⟩⟩
theorem u_tupK {k : Bool} {a : Addr} {xs : List V} (h1 : H a = some (kho k xs)) (h : ∀ p H', Ex H H' → H' p = some (.tup xs) → Q (.ref p) H') : uTuple K [.ref a] H Q := by
  cases k with
  | true => exact u_tupT (sqt h1) (h a H (Ex.refl H) h1)
  | false => exact u_tupL (sql h1) fun l hl => h l _ (Ex.new hl) upd_same
theorem u_tupD {a : Addr} {kvs : List (Key × V)} (h1 : H a = some (.dK kvs)) (h : ∀ l, H l = none → Q (.ref l) (upd H l (.tup (kvs.map fun kv => kV kv.1)))) : uTuple K [.ref a] H Q := Or.inr ⟨a, kvs, rfl, h1, h⟩
theorem u_sindex {l : List Nat} {c : Nat} (hc : c ∈ l) (h : Q (.int (ixs l c)) H) : rSIndex (sv l) [sv [c]] H Q := ⟨l, c, rfl, rfl, hc, h⟩
theorem u_countB {p : Addr} {bs : List Bool} {k : Bool} (h1 : SqL K H p (bs.map V.bl)) (h : Q (.int (bs.count k : Nat)) H) : rCountB K (.ref p) [.bl k] H Q := ⟨p, bs, k, rfl, rfl, h1, h⟩
end
end Uni
set_option Elab.async false
set_option linter.all false
set_option maxRecDepth 100000
set_option maxHeartbeats 2000000
namespace Uni
open PySem L2 PySem.Spec PyProof.Rows
theorem pe_strE {X : Cx} {x y : Str} {j pos} (e : x = y) : PE X (.Constant (.str x) j pos) (tC (.str y)) := e ▸ pe_str
/-! ### zip of a tuple and a text -/
def ItzS (K : PySem.W.Frag) (a : Addr) (zs : List Nat) : It :=
  ⟨fun i H => ∃ (xs : List V), SqT K H a xs ∧ i < min xs.length zs.length,
    fun i H v H' => ∃ T x c, v = .ref T ∧ H T = none ∧ H' = upd H T (.tup [x, sv [c]]) ∧ (∀ xs, SqT K H a xs → xs[i]? = some x) ∧ zs[i]? = some c,
    fun i H => ∃ xs : List V, SqT K H a xs ∧ i = min xs.length zs.length⟩
theorem turn_zipS {P : Program} {w : World} {K : PySem.W.Frag} {elts : List Expr} {kk : Nat} {tpos : Pos} {a z TI TO i1 i2 : Addr} {zs : List Nat} {t : Tok} (D : ZipSep2 z TI TO i1 i2 [i1, a] [i2]) (e5 : ∀ b ∈ [z, TI, TO, i1, i2], b ≠ a) :
    Turn P w K (.Tuple elts kk tpos) (ItzS K a zs) [z, TI, TO, i1, i2] z (fun i h => IsZip h z TI TO .none ∧ IsTupOf2 h TI (.ref i1) (.ref i2) ∧ (∃ x y, IsTupOf2 h TO x y) ∧ h.IsTupleIter i1 a i ∧ h.IsStrIter i2 (strIterType (S zs)) (S zs) t i) where
  mem := by simp
  obj := fun i h st c hc => by
    obtain ⟨hz, hTI, ⟨x, y, hTO⟩, ⟨o1, e1, _, d1⟩, ⟨o2, e2, _, d2⟩⟩ := st
    have e' : c = z ∨ c = TI ∨ c = TO ∨ c = i1 ∨ c = i2 := by simpa using hc
    rcases e' with q | q | q | q | q
    · rw [q]; exact ⟨_, hz, fun v q => nomatch q⟩
    · rw [q]; exact ⟨_, hTI, fun v q => nomatch q⟩
    · rw [q]; exact ⟨_, hTO, fun v q => nomatch q⟩
    · rw [q]; exact ⟨o1, e1, fun v q => by rw [d1] at q; cases q⟩
    · rw [q]; exact ⟨o2, e2, fun v q => by rw [d2] at q; cases q⟩
  keep := fun i h h' st k => by
    obtain ⟨hz, hTI, ⟨x, y, hTO⟩, h1, h2⟩ := st
    exact ⟨k z (by simp) _ hz, k TI (by simp) _ hTI, ⟨x, y, k TO (by simp) _ hTO⟩, h1.at fun o q => k i1 (by simp) o q, let ⟨o, q, r⟩ := h2; ⟨o, k i2 (by simp) o q, r⟩⟩
  item := by
    intro X hP hw hK hc i pins s σ H E I hf st hg
    subst hP hw hK
    obtain ⟨xs, hq, hi⟩ := hg
    obtain ⟨its, rv, p, hz⟩ := I.tuple hq
    have hl := rv.length
    have D1 : Draws X.prog X.w X.A.in1 i1 [i1, a] its.toArray.size (fun i v => its.toArray[i]? = some v) (fun i h => h.IsTupleIter i1 a i ∧ h.IsTuple a its.toArray) := Draws.tuple (A := X.A.in1) (show X.A.in1.handled = none from I.ok.hd hc) i1 a (Ne.symm (e5 i1 (by simp))) its.toArray
    have D2 : Draws X.prog X.w X.A.in1 i2 [i2] (S zs).cps.size (fun i v => ∃ c u, (S zs).cps[i]? = some c ∧ v = .str ⟨#[c]⟩ u) (fun i h => h.IsStrIter i2 (strIterType (S zs)) (S zs) t i) := Draws.text (A := X.A.in1) (show X.A.in1.handled = none from I.ok.hd hc) i2 (S zs) t
    have W := WalksT.zipD2 (A := X.A) D D1 D2
    obtain ⟨s1, s2, s3, s4, s5⟩ := st
    have hi2 : i < min its.toArray.size (S zs).cps.size := by
      have : (S zs).cps.size = zs.length := by simp [S]
      rw [this, List.size_toArray, ← hl]; exact hi
    refine W.item i s _ _ hi2 ⟨s1, s2, s3, ⟨s4, p⟩, s5⟩ fun T vals h' tk hP hle hT mid hk => ⟨.ref T, rfl, W.go elts kk tpos i T { s with heap := h', toks := tk } _ _ mid fun h'' st'' hk2 => ?_⟩
    obtain ⟨u1, u2, hu1, ⟨c, tc, hc2, hu2⟩, ev⟩ := hP
    have hu1' : its[i]? = some u1 := by simpa using hu1
    have hil : i < xs.length := Nat.lt_of_lt_of_le hi (Nat.min_le_left _ _)
    obtain ⟨u1', hu', ru⟩ := rv.get (List.getElem?_eq_getElem hil)
    rw [hu1'] at hu'
    cases hu'
    have hcz : zs[i]? = some c := by
      have e2 : (S zs).cps[i]? = zs[i]? := by simp [S]
      rw [← e2]; exact hc2
    have nT : T ∉ [z, TO, i1, i2] := W.apart i T h' mid
    obtain ⟨oT, hoT, hcT, nn, hdT⟩ := hT
    have hT2 : h''.get? T = some oT := hk2 T oT nT hoT
    subst ev
    subst hu2
    have new : ObjOk X.prog X.w (upd H T (.tup [xs[i], sv [c]])) h'' T (.tup [xs[i], sv [c]]) :=
      ⟨by show 2 ≤ sizeLine; decide, [u1, .str ⟨#[c]⟩ tc], .cons ru (.cons ⟨tc, rfl⟩ .nil), ⟨oT, hT2, hcT, nn, hdT⟩⟩
    have I1 : L2.Inv X pins σ (upd H T (.tup [xs[i], sv [c]])) { s with heap := h'', toks := tk } :=
      I.turnedNew (ch := [z, TO, i1, i2]) (fun b o hb e => hk2 b o hb (hk b o hb e)) (fun b hb => hf b (by
        have e' : b = z ∨ b = TO ∨ b = i1 ∨ b = i2 := by simpa using hb
        rcases e' with q | q | q | q <;> simp [q])) hle new
    refine ⟨.ref T, _, I1, rfl, ⟨T, xs[i], c, rfl, I.hok.fresh hle, rfl, fun ys hy => by rw [I.tuple_inj hy hq]; exact List.getElem?_eq_getElem hil, hcz⟩, ?_, fun b hb => ?_⟩
    · obtain ⟨q1, q2, q3, ⟨q4, _⟩, q5⟩ := st''
      exact ⟨q1, q2, q3, q4, q5⟩
    · have hlt : b < s.heap.objs.size := by
        obtain ⟨x0, y0, s3⟩ := s3
        obtain ⟨o1, e1, _⟩ := s4
        obtain ⟨o2, e2, _⟩ := s5
        have e' : b = z ∨ b = TI ∨ b = TO ∨ b = i1 ∨ b = i2 := by simpa using hb
        rcases e' with q | q | q | q | q
        · rw [q]; exact Heap.lt_size s1
        · rw [q]; exact Heap.lt_size s2
        · rw [q]; exact Heap.lt_size s3
        · rw [q]; exact Heap.lt_size e1
        · rw [q]; exact Heap.lt_size e2
      rw [upd_ne (Nat.ne_of_lt (Nat.lt_of_lt_of_le hlt hle))]
      exact (hf b hb).1
  done := by
    intro X hP hw hK hc i pins s σ H E I hf st hg
    subst hP hw hK
    obtain ⟨xs, hq, hi⟩ := hg
    obtain ⟨its, rv, p, hz⟩ := I.tuple hq
    have hl := rv.length
    have D1 : Draws X.prog X.w X.A.in1 i1 [i1, a] its.toArray.size (fun i v => its.toArray[i]? = some v) (fun i h => h.IsTupleIter i1 a i ∧ h.IsTuple a its.toArray) := Draws.tuple (A := X.A.in1) (show X.A.in1.handled = none from I.ok.hd hc) i1 a (Ne.symm (e5 i1 (by simp))) its.toArray
    have D2 : Draws X.prog X.w X.A.in1 i2 [i2] (S zs).cps.size (fun i v => ∃ c u, (S zs).cps[i]? = some c ∧ v = .str ⟨#[c]⟩ u) (fun i h => h.IsStrIter i2 (strIterType (S zs)) (S zs) t i) := Draws.text (A := X.A.in1) (show X.A.in1.handled = none from I.ok.hd hc) i2 (S zs) t
    have W := WalksT.zipD2 (A := X.A) D D1 D2
    obtain ⟨s1, s2, s3, s4, s5⟩ := st
    have hi2 : i = min its.toArray.size (S zs).cps.size := by
      have : (S zs).cps.size = zs.length := by simp [S]
      rw [this, List.size_toArray, ← hl]; exact hi
    subst hi2
    refine W.done s _ _ ⟨s1, s2, s3, ⟨s4, p⟩, s5⟩ fun h' tk hk => ⟨rfl, I.turnedL (ch := [z, TO, i1, i2]) (fun b o hb e => hk b o hb e) (fun b hb => hf b (by
        have e' : b = z ∨ b = TO ∨ b = i1 ∨ b = i2 := by simpa using hb
        rcases e' with q | q | q | q <;> simp [q]))⟩
  self := fun A i s Q E st h => wpAny_pyIter_zip st.1 h
def iZipS (K : PySem.W.Frag) (ta : TA) : TI := fun σ H R => ta σ H fun vs H1 => ∃ a zs xs, vs = [.ref a, sv zs] ∧ SqT K H1 a xs ∧ R (ItzS K a zs) H1
theorem pi_zipS {X : Cx} {e e2 : Expr} {ta : TA} {p pos tpos : Pos} {elts : List Expr} {kk : Nat} (hg : Gl X "zip") (hm : X.mg "zip" = none) (ha : PA X [e, e2] ta)
    (hs : starEach [e, e2] X.env = (false, eval e X.env) :: starEach [e2] X.env := by rfl) (hpl : (backTo pos (starEach [e2] X.env)).any (·.1) = false := by rfl) :
    PI X (.Tuple elts kk tpos) (.Call (.Name "zip" p) [e, e2] [] pos) (iZipS X.K ta) := by
  refine ⟨fun pins s σ H R I h => ?_⟩
  refine Call_ (ld_blt I hg hm PyProof.Rows.boot_zip (PyProof.Rows.callWith_type1 (thn (ha.run pos pins s σ H _ I h) fun us s1 ⟨vs, H1, I1, r1, q1⟩ => ?_) hs hpl))
  obtain ⟨a, zs, xs, ex, hq, q⟩ := q1
  subst ex
  cases r1 with
  | cons r rr =>
    cases rr with
    | cons r' rr =>
      cases rr
      cases r
      obtain ⟨t, rfl⟩ := r'
      obtain ⟨its, rv, pt, hz⟩ := I1.tuple hq
      have hlt : a < s1.heap.objs.size := by
        obtain ⟨o, ho, _⟩ := pt
        exact Heap.lt_size ho
      refine zip_begins2 (begins_tuple a its.toArray) (begins_text (S zs) t) pt trivial fun h' hzz hTI hTO h1 h2 hsz hk => wpAny_pyIter_zip hzz ?_
      have I2 : L2.Inv X pins σ H1 { s1 with heap := h' } := I1.kept (t' := s1.toks) hk
      refine ⟨s1.heap.objs.size + 4, [s1.heap.objs.size + 4, s1.heap.objs.size + 2, s1.heap.objs.size + 3, s1.heap.objs.size, s1.heap.objs.size + 1], _, _, H1, rfl, I2, turn_zipS (zip_sep2 (fp1 := [a]) (fp2 := []) (fun b hb => by rw [List.mem_singleton.mp hb]; exact hlt) (fun b hb => by cases hb)) (fun b hb => ?_), ⟨hzz, hTI, ⟨_, _, hTO⟩, ⟨_, h1, rfl, rfl⟩, ⟨_, h2, rfl, rfl⟩⟩, fun b hb => ?_, q⟩
      · have e' : b = s1.heap.objs.size + 4 ∨ b = s1.heap.objs.size + 2 ∨ b = s1.heap.objs.size + 3 ∨ b = s1.heap.objs.size ∨ b = s1.heap.objs.size + 1 := by simpa using hb
        have hle : s1.heap.objs.size ≤ b := by
          rcases e' with z | z | z | z | z
          · rw [z]; exact Nat.le_add_right _ _
          · rw [z]; exact Nat.le_add_right _ _
          · rw [z]; exact Nat.le_add_right _ _
          · rw [z]; exact Nat.le_refl _
          · rw [z]; exact Nat.le_add_right _ _
        exact Nat.ne_of_gt (Nat.lt_of_lt_of_le hlt hle)
      · have e' : b = s1.heap.objs.size + 4 ∨ b = s1.heap.objs.size + 2 ∨ b = s1.heap.objs.size + 3 ∨ b = s1.heap.objs.size ∨ b = s1.heap.objs.size + 1 := by simpa using hb
        have hle : s1.heap.objs.size ≤ b := by
          rcases e' with z | z | z | z | z
          · rw [z]; exact Nat.le_add_right _ _
          · rw [z]; exact Nat.le_add_right _ _
          · rw [z]; exact Nat.le_add_right _ _
          · rw [z]; exact Nat.le_refl _
          · rw [z]; exact Nat.le_add_right _ _
        exact I1.fpOk hle (I1.hok.fresh hle)
theorem walk_zS {K : PySem.W.Frag} {a : Addr} {xs : List V} {zs : List Nat} {n : Nat} (hn : n = min xs.length zs.length) : Walk (ItzS K a zs) n (fun H => SqT K H a xs) (fun i H v H' => ∃ T x c, v = .ref T ∧ H T = none ∧ H' = upd H T (.tup [x, sv [c]]) ∧ xs[i]? = some x ∧ zs[i]? = some c) := by
  subst hn
  exact ⟨fun i H hi h => ⟨xs, h, hi⟩, fun H h => ⟨xs, h, rfl⟩, fun i H v H' hi h ⟨T, x, c, e1, e2, e3, e4, e5⟩ => ⟨T, x, c, e1, e2, e3, e4 xs h, e5⟩⟩
end Uni
set_option Elab.async false
set_option linter.all false
set_option maxRecDepth 100000
set_option maxHeartbeats 2000000
namespace Uni
open PySem L2 PySem.Spec PyProof.Rows
section
variable {K : PySem.W.Frag} {σ : L2.St} {H : Hp} {Q : VK}
theorem joinL_nil : ∀ ts : List (List Nat), TL.joinL [] ts = ts.flatten
  | [] => rfl
  | [x] => by simp [TL.joinL]
  | x :: y :: r => by
    have ih := joinL_nil (y :: r)
    simp only [TL.joinL, List.nil_append, List.flatten_cons] at ih ⊢
    rw [ih]
theorem sum_len (ts : List (List Nat)) : ((ts.map S).map (·.length)).sum = ts.flatten.length := by
  induction ts with
  | nil => rfl
  | cons x r ih => rw [List.map_cons, List.map_cons, List.sum_cons, ih, List.flatten_cons, List.length_append, S_len]
/-- "".join(texts) -/
theorem u_join {p : Addr} {ts : List (List Nat)} {k : Bool} (h : Kd k K H p (ts.map sv)) (z : ts.flatten.length ≤ 1000000) (q : Q (.str (S ts.flatten)) H) : rJoin K (.str ("" : Str)) [.ref p] H Q := by
  refine ⟨S [], p, ts.map S, by rw [show ("" : Str) = S [] from by decide +kernel], rfl, ?_, ?_, ?_⟩
  · have e : (ts.map S).map V.str = ts.map sv := by rw [List.map_map] <;> rfl
    rw [e]
    cases k with
    | true => exact Or.inr h
    | false => exact Or.inl h
  · rw [sum_len, S_len]
    show _ + _ * 0 ≤ _
    omega
  · have e : Txt.join (S []) (ts.map S) = S (TL.joinL [] ts) := SX.join_S [] ts
    rw [e, joinL_nil]
    exact q
theorem flat1 (t : List Nat) : (t.map fun c => [c]).flatten = t := by
  induction t with
  | nil => rfl
  | cons a r ih => rw [List.map_cons, List.flatten_cons, ih] <;> rfl
/-- .. of single signs -/
theorem u_join1 {p : Addr} {t : List Nat} {k : Bool} (h : Kd k K H p (t.map fun c => sv [c])) (z : t.length ≤ 1000000) (q : Q (.str (S t)) H) : rJoin K (.str ("" : Str)) [.ref p] H Q := by
  have e : (t.map fun c => [c]).map sv = t.map fun c => sv [c] := by rw [List.map_map] <;> rfl
  refine u_join (ts := t.map fun c => [c]) (k := k) (by rw [e]; exact h) (by rw [flat1]; exact z) (by rw [flat1]; exact q)
/-- xs.pop(i), i a number below the length -/
theorem u_popAt {l : Addr} {xs : List V} {i : Int} {n : Nat} {y : V} (e : i = (n : Int)) (h : H l = some (.lst xs)) (hy : xs[n]? = some y) (z : n ≤ 1000000) (q : Q y (upd H l (.lst (xs.eraseIdx n)))) : rPopAt (.ref l) [.int i] H Q := by
  subst e
  have hn := (List.getElem?_eq_some_iff.mp hy).1
  exact ⟨l, xs, (n : Int), n, y, rfl, rfl, h, by omega, by omega, by rw [seqIndex_of (by omega) (by omega)]; simp, hy, q⟩
theorem ltCps1 {a b : Nat} : ltCps [a] [b] = decide (a < b) := by
  unfold ltCps
  by_cases h : a < b
  · simp [h]
  · simp [h, ltCps]
/-- single signs, sorted -/
theorem sorted1 : ∀ {t : List Nat}, sortedS (t.map fun c => S [c]) = true → t.Pairwise (· ≤ ·)
  | [], _ => List.Pairwise.nil
  | [a], _ => List.pairwise_singleton _ _
  | a :: b :: r, h => by
    have h2 : (!ltCps [b] [a] && sortedS ((b :: r).map fun c => S [c])) = true := h
    rw [Bool.and_eq_true, Bool.not_eq_true', ltCps1, decide_eq_false_iff_not] at h2
    have ih := sorted1 h2.2
    refine List.Pairwise.cons (fun c hc => ?_) ih
    rcases List.mem_cons.mp hc with e | hc
    · rw [e]; omega
    · have := List.rel_of_pairwise_cons ih hc
      omega
theorem perm_map_inv {α β : Type} {f : α → β} (g : β → α) (hg : ∀ a, g (f a) = a) {t : List α} {ys : List β} (h : ys.Perm (t.map f)) : ∃ t' : List α, t'.Perm t ∧ ys = t'.map f := by
  refine ⟨ys.map g, ?_, ?_⟩
  · have e : (t.map f).map g = t := by
      rw [List.map_map]
      have : g ∘ f = id := funext hg
      rw [this, List.map_id]
    have := h.map g
    rwa [e] at this
  · rw [List.map_map]
    symm
    refine (List.map_congr_left fun y hy => ?_).trans (List.map_id ys)
    obtain ⟨c, _, rfl⟩ := List.mem_map.mp (h.mem_iff.mp hy)
    show f (g (f c)) = f c
    rw [hg]
/-- sorted(a list of single signs) -/
theorem u_sorted1 {a : Addr} {t : List Nat} {k : Bool} (h : SqL K H a (t.map fun c => sv [c])) (z : t.length < 64) (q : ∀ (t' : List Nat) (p : Addr), t'.Perm t → t'.Pairwise (· ≤ ·) → H p = none → Q (.ref p) (upd H p (.lst (t'.map fun c => sv [c])))) : uSorted K [.ref a] H Q := by
  refine Or.inr ⟨a, t.map fun c => S [c], rfl, ?_, by rw [List.length_map]; exact z, fun ys p hp hs hn => ?_⟩
  · have e : (t.map fun c => S [c]).map V.str = t.map fun c => sv [c] := by rw [List.map_map] <;> rfl
    rw [e]; exact h
  · obtain ⟨t', e1, e2⟩ := perm_map_inv (f := fun c => S [c]) (fun z => z.cps.toList.headD 0) (fun c => rfl) hp
    subst e2
    have e : (t'.map fun c => S [c]).map V.str = t'.map fun c => sv [c] := by rw [List.map_map] <;> rfl
    rw [e]
    exact q t' p e1 (sorted1 hs) hn
theorem lt_of_le_nodup {t : List Nat} (h : t.Pairwise (· ≤ ·)) (n : t.Nodup) : t.Pairwise (· < ·) := by
  refine (h.and n).imp ?_
  rintro a b ⟨h1, h2⟩
  omega
/-! ### new objects, the heap behind them by what is known of it -/
/-- behind a new object -/
def New (H H' : Hp) (p : Addr) (o : HO) : Prop := H p = none ∧ Ex H H' ∧ H' p = some o ∧ ∀ a, a ≠ p → H' a = H a
theorem New.mk {H : Hp} {p : Addr} {o : HO} (h : H p = none) : New H (upd H p o) p o := ⟨h, Ex.new h, upd_same, fun _ n => upd_ne n⟩
variable {tr : TA} {te : TE}
theorem n_tup (h : tr σ H fun xs H1 => xs.length ≤ sizeLine ∧ ∀ p H', New H1 H' p (.tup xs) → Q (.ref p) H') (mono : ∀ R R' : List V → Hp → Prop, (∀ xs H, R xs H → R' xs H) → tr σ H R → tr σ H R') : tTup tr σ H Q :=
  mono _ _ (fun xs H1 ⟨z, q⟩ => ⟨z, fun p hp => q p _ (.mk hp)⟩) h
end
section
variable {K : PySem.W.Frag} {σ : L2.St} {H : Hp} {Q : VK}
theorem n_listK {k : Bool} {a : Addr} {xs : List V} (h1 : Kd k K H a xs) (h : ∀ l H', New H H' l (.lst xs) → Q (.ref l) H') : uList K [.ref a] H Q := u_listK h1 fun l hl => h l _ (.mk hl)
theorem n_listS {z : List Nat} (c : z.length ≤ sizeLine) (h : ∀ l H', New H H' l (.lst (z.map fun c => sv [c])) → Q (.ref l) H') : uList K [.str (S z)] H Q := u_listS c fun l hl => h l _ (.mk hl)
theorem n_tupL {a : Addr} {xs : List V} (h1 : SqL K H a xs) (h : ∀ l H', New H H' l (.tup xs) → Q (.ref l) H') : uTuple K [.ref a] H Q := u_tupL h1 fun l hl => h l _ (.mk hl)
theorem n_addL {a b : Addr} {xs ys : List V} (h1 : H a = some (.lst xs)) (h2 : H b = some (.lst ys)) (c : xs.length + ys.length ≤ sizeLine) (h : ∀ p H', New H H' p (.lst (xs ++ ys)) → Q (.ref p) H') : uAdd K (.ref a) (.ref b) H Q :=
  u_addL h1 h2 c fun p hp => h p _ (.mk hp)
theorem u_cut {t u : TS} {D : Ends} (W : L2.St → Hp → Prop) (h1 : t { D with nx := W } σ H) (h2 : ∀ σ' H', W σ' H' → u D σ' H') : C8.tCut t u D σ H := ⟨W, h1, h2⟩
end
end Uni
set_option Elab.async false
set_option linter.all false
set_option maxRecDepth 100000
set_option maxHeartbeats 2000000
namespace Uni
open PySem L2 PySem.Spec PyProof.Rows
section
variable {K : PySem.W.Frag} {σ : L2.St} {H : Hp} {Q : VK}
/-! ### slices -/
def cutL {α : Type} (l : List α) (lo hi : Option Int) : List α := (l.drop (HT.sIx l.length 0 lo)).take (HT.sIx l.length l.length hi - HT.sIx l.length 0 lo)
theorem cutL_from {α : Type} (l : List α) {i : Int} {n : Nat} (e : i = (n : Int)) : cutL l (some i) none = l.drop n := by
  subst e
  unfold cutL
  rw [HT.sIx_nat, HT.sIx_none]
  by_cases h : n ≤ l.length
  · rw [Nat.min_eq_left h, List.take_of_length_le (by rw [List.length_drop]; exact Nat.le_refl _)]
  · rw [Nat.min_eq_right (by omega), List.drop_eq_nil_of_le (by omega), List.drop_eq_nil_of_le (by omega)]
    exact List.take_nil
theorem cutL_to {α : Type} (l : List α) {i : Int} {n : Nat} (e : i = (n : Int)) : cutL l none (some i) = l.take n := by
  subst e
  unfold cutL
  rw [HT.sIx_nat, HT.sIx_none, List.drop_zero, Nat.sub_zero]
  by_cases h : n ≤ l.length
  · rw [Nat.min_eq_left h]
  · rw [Nat.min_eq_right (by omega), List.take_of_length_le (Nat.le_refl _), List.take_of_length_le (by omega)]
theorem u_slS {l r : List Nat} {lo hi : Option Int} (e : cutL l lo hi = r) (z : l.length ≤ 1000000) (q : Q (sv r) H) : uSl K (sv l) lo hi H Q := by
  subst e
  refine ⟨by rw [S_len]; exact szOf z, ?_⟩
  have e : cutS (S l) lo hi = S (cutL l lo hi) := by
    unfold cutS cutL
    rw [S_len]
  rw [e]
  exact q
theorem n_slL {a : Addr} {xs r : List V} {lo hi : Option Int} (h : SqL K H a xs) (e : cutL xs lo hi = r) (q : ∀ p H', New H H' p (.lst r) → Q (.ref p) H') : uSl K (.ref a) lo hi H Q := by
  subst e
  exact Or.inl ⟨a, xs, rfl, h, fun p hp => q p _ (.mk hp)⟩
theorem n_slT {a : Addr} {xs r : List V} {lo hi : Option Int} (h : H a = some (.tup xs)) (e : cutL xs lo hi = r) (q : ∀ p H', Ex H H' → H' p = some (.tup r) → Q (.ref p) H') : uSl K (.ref a) lo hi H Q := by
  subst e
  refine Or.inr ⟨a, xs, rfl, sqt h, ?_, ?_⟩
  · rintro ⟨e1, e2⟩
    refine q a H (Ex.refl H) ?_
    unfold cutL
    rw [e1, e2, List.drop_zero, Nat.sub_zero, List.take_of_length_le (Nat.le_refl _)]
    exact h
  · intro _ p hp
    exact q p _ (Ex.new hp) upd_same
/-! ### dicts of ints -/
theorem u_dnin {ty td : TE} (h : ty σ H fun y H1 => td σ H1 fun x H2 => ∃ a o, x = .ref a ∧ DGet H2 a y o ∧ Q (.bl (!o.isSome)) H2) : tDNotIn ty td σ H Q := h
theorem u_dput {td ty tv : TE} {D : Ends} (h : tv σ H fun v H1 => td σ H1 fun x H2 => ty σ H2 fun y H3 => ∃ a H4, x = .ref a ∧ DPut H3 a y v H4 ∧ D.nx σ H4) : sDPut td ty tv D σ H := h
theorem u_dnew (h : ∀ p, H p = none → Q (.ref p) (upd H p (.dK []))) : tDNewK σ H Q := h
theorem val_key {kvs : List (Key × V)} {R : List Int} (h : kvs.map (·.1) = R.map Sum.inl) (n : Int) : (valV kvs (Sum.inl n : Key)).isSome = decide (n ∈ R) := by
  rw [← valV_any]
  have e : (kvs.any fun kv => decide (kv.1 = (Sum.inl n : Key))) = ((kvs.map (·.1)).any fun k => decide (k = (Sum.inl n : Key))) := by
    rw [List.any_map] <;> rfl
  rw [e, h, List.any_map]
  rw [Bool.eq_iff_iff, List.any_eq_true, decide_eq_true_iff]
  constructor
  · rintro ⟨x, hx, e⟩
    have e : Sum.inl x = (Sum.inl n : Key) := of_decide_eq_true e
    cases e
    exact hx
  · intro hn
    exact ⟨n, hn, decide_eq_true rfl⟩
theorem put_new {kvs : List (Key × V)} {R : List Int} (h : kvs.map (·.1) = R.map Sum.inl) {n : Int} (hn : n ∉ R) (v : V) : putK kvs (Sum.inl n : Key) v = kvs ++ [(Sum.inl n, v)] := by
  refine putK_new v ?_
  have := val_key h n
  rw [decide_eq_false hn] at this
  cases hv : valV kvs (Sum.inl n : Key) with
  | none => rfl
  | some o => rw [hv] at this; cases this
theorem keys_snoc {kvs : List (Key × V)} {R : List Int} (h : kvs.map (·.1) = R.map Sum.inl) (n : Int) (v : V) : (kvs ++ [((Sum.inl n : Key), v)]).map (·.1) = (R ++ [n]).map Sum.inl := by
  rw [List.map_append, List.map_append, h] <;> rfl
/-- not more than a list that has them all -/
theorem nodup_le : ∀ {l m : List Int}, l.Nodup → (∀ n ∈ l, n ∈ m) → l.length ≤ m.length
  | [], m, _, _ => Nat.zero_le _
  | a :: r, m, h, hm => by
    have ha : a ∈ m := hm a List.mem_cons_self
    have hnd := List.nodup_cons.mp h
    have ih := nodup_le (l := r) (m := m.erase a) hnd.2 fun n hn => (List.mem_erase_of_ne (fun e => hnd.1 (by rw [← e]; exact hn))).mpr (hm n (List.mem_cons_of_mem _ hn))
    rw [List.length_erase_of_mem ha] at ih
    have := List.length_pos_of_mem ha
    rw [List.length_cons]
    omega
theorem few_of {l : List Int} {m : Nat} (h : l.Nodup) (hm : ∀ n ∈ l, 0 ≤ n ∧ n < (m : Int)) : l.length ≤ m := by
  have := nodup_le (m := (List.range m).map Int.ofNat) h fun n hn => by
    obtain ⟨h0, h1⟩ := hm n hn
    exact List.mem_map.mpr ⟨n.toNat, List.mem_range.mpr (by omega), Int.toNat_of_nonneg h0⟩
  simpa using this
/-! ### zip in a comprehension -/
def Items (H : Hp) (xs : List V) (its : List (Int × List Nat)) : Prop := xs.length = its.length ∧ ∀ (i : Nat) x it, xs[i]? = some x → its[i]? = some it → ∃ T, x = .ref T ∧ H T = some (.tup [.int it.1, sv it.2])
/-- H' keeps the tuples of H -/
def TK (H H' : Hp) : Prop := ∀ a xs, H a = some (.tup xs) → H' a = some (.tup xs)
theorem TK.refl (H : Hp) : TK H H := fun _ _ h => h
theorem TK.of {H H' : Hp} (e : Ex H H') : TK H H' := fun a xs h => e a _ h
theorem TK.trans {H H1 H2 : Hp} (a : TK H H1) (b : TK H1 H2) : TK H H2 := fun x o h => b x o (a x o h)
theorem TK.lst {H : Hp} {a : Addr} {xs : List V} {o : HO} (h : H a = some (.lst xs)) : TK H (upd H a o) := fun b ys e => off (ne_of e h (by intro z; cases z)) e
theorem TK.dk {H : Hp} {a : Addr} {kvs : List (Key × V)} {o : HO} (h : H a = some (.dK kvs)) : TK H (upd H a o) := fun b ys e => off (ne_of e h (by intro z; cases z)) e
theorem TK.new {H : Hp} {a : Addr} {o : HO} (h : H a = none) : TK H (upd H a o) := TK.of (Ex.new h)
theorem Items.tk {H H' : Hp} {xs : List V} {its : List (Int × List Nat)} (e : TK H H') (h : Items H xs its) : Items H' xs its := ⟨h.1, fun i x it a b => let ⟨T, c, d⟩ := h.2 i x it a b; ⟨T, c, e _ _ d⟩⟩
theorem Items.nil {H : Hp} : Items H [] [] := ⟨rfl, fun i x it h _ => by simp at h⟩
theorem Items.snoc {H : Hp} {xs : List V} {its : List (Int × List Nat)} (h : Items H xs its) {T : Addr} {n : Int} {p : List Nat} (hT : H T = some (.tup [.int n, sv p])) : Items H (xs ++ [.ref T]) (its ++ [(n, p)]) := by
  refine ⟨by rw [List.length_append, List.length_append, h.1] <;> rfl, fun i x it a b => ?_⟩
  by_cases hi : i < xs.length
  · rw [List.getElem?_append_left hi] at a
    rw [List.getElem?_append_left (by rw [← h.1]; exact hi)] at b
    exact h.2 i x it a b
  · rw [List.getElem?_append_right (by omega)] at a
    rw [List.getElem?_append_right (by rw [← h.1]; omega), ← h.1] at b
    have : i - xs.length = 0 := by
      have := (List.getElem?_eq_some_iff.mp a).1
      simp at this; omega
    rw [this] at a b
    cases a
    cases b
    exact ⟨T, rfl, hT⟩
theorem Items.app {H : Hp} {xs ys : List V} {its jts : List (Int × List Nat)} (h : Items H xs its) (h' : Items H ys jts) : Items H (xs ++ ys) (its ++ jts) := by
  refine ⟨by rw [List.length_append, List.length_append, h.1, h'.1], fun i x it a b => ?_⟩
  by_cases hi : i < xs.length
  · rw [List.getElem?_append_left hi] at a
    rw [List.getElem?_append_left (by rw [← h.1]; exact hi)] at b
    exact h.2 i x it a b
  · rw [List.getElem?_append_right (by omega)] at a
    rw [List.getElem?_append_right (by rw [← h.1]; omega), ← h.1] at b
    exact h'.2 _ x it a b
/-- [(a, f(b)) for a, b in zip(ints, text)] -/
theorem zip_pairs {K : PySem.W.Frag} {σ : L2.St} {H1 : Hp} {Q : VK} {a : Addr} {ns : List Int} {zs : List Nat} {j1 j2 : Nat} {te : TE} {f : Nat → List Nat} (ha : H1 a = some (.tup (ns.map V.int)))
    (hw : ∀ x y : V, wipe (((wipe σ [j1, j2]).set j1 (some x)).set j2 (some y)) [j1, j2] = wipe σ [j1, j2])
    (hte : ∀ (n : Int) (c : Nat) (H : Hp) (R : VK), c ∈ zs → (∀ p H', New H H' p (.tup [.int n, sv (f c)]) → R (.ref p) H') → te (((wipe σ [j1, j2]).set j1 (some (.int n))).set j2 (some (sv [c]))) H R)
    (hz : zs.length < 1000)
    (hq : ∀ (D : Addr) (xs : List V) (H' : Hp), H1 D = none → Ex H1 H' → H' D = some (.lst xs) → Items H' xs ((ns.zip zs).map fun q => (q.1, f q.2)) → Q (.ref D) H') :
    ∀ D, H1 D = none → LcW (ItzS K a zs) (gTup K 2 (gCons (gName j1) (gCons (gName j2) gNil))) tYes te [j1, j2] σ H1 Q D := by
  intro D hD
  refine lc_it (walk_zS (n := min ns.length zs.length) (xs := ns.map V.int) (by rw [List.length_map])) (fun i H' => ∃ xs, H' D = some (.lst xs) ∧ Ex H1 H' ∧ Items H' xs (((ns.zip zs).map fun q => (q.1, f q.2)).take i)) ⟨[], upd_same, Ex.new hD, by rw [List.take_zero]; exact Items.nil⟩ (fun i H' _ ⟨_, _, e, _⟩ => sqt (e _ _ ha)) ?_ ?_
  · rintro i x H H' hi ⟨xs, hDx, e, it⟩ ⟨T, y, c, rfl, hT, rfl, hy, hc⟩
    rw [List.getElem?_map] at hy
    obtain ⟨n, hn, rfl⟩ := Option.map_eq_some_iff.mp hy
    refine ⟨T, [.int n, sv [c]], rfl, sqt upd_same, rfl, .int n, [sv [c]], rfl, ?_⟩
    refine ⟨sv [c], [], rfl, rfl, hw _ _, ?_⟩
    refine u_yes (iteT ?_)
    have e1 := e.up (o := .tup [.int n, sv [c]]) hT
    refine hte n c _ _ (List.mem_of_getElem? hc) fun p H2 nw => ⟨xs, nw.2.1 _ _ (old hT hDx), ?_, xs ++ [.ref p], upd_same, (e1.trans nw.2.1).mut hD, ?_⟩
    · have := it.1
      rw [List.length_take, List.length_map, List.length_zip] at this
      exact szLt (by omega)
    · have ez : ((ns.zip zs).map fun q => (q.1, f q.2))[i]? = some (n, f c) := by
        rw [List.getElem?_map, (List.getElem?_zip_eq_some (z := (n, c))).mpr ⟨hn, hc⟩] <;> rfl
      have et : ((ns.zip zs).map fun q => (q.1, f q.2)).take (i + 1) = ((ns.zip zs).map fun q => (q.1, f q.2)).take i ++ [(n, f c)] := by
        rw [List.take_add_one, ez] <;> rfl
      rw [et]
      have hD2 : H2 D = some (.lst xs) := nw.2.1 _ _ (old hT hDx)
      refine ((it.tk (((TK.new hT).trans (TK.of nw.2.1)).trans (TK.lst hD2))).snoc ?_)
      exact TK.lst hD2 _ _ nw.2.2.1
  · rintro H ⟨xs, hDx, e, it⟩
    refine hq D xs H hD e hDx ?_
    rw [List.take_of_length_le (by rw [List.length_map, List.length_zip]; exact Nat.le_refl _)] at it
    exact it
end
end Uni
set_option Elab.async false
set_option linter.all false
set_option maxRecDepth 100000
/-! mathematics of the law, in plain Lean -/
namespace K39
open PySem L2 Uni
def okSigns (t al : List Nat) : Bool := decide (1 ≤ t.length ∧ t.length ≤ 3 ∧ (∀ c ∈ t, c ∈ al) ∧ t.Pairwise (· < ·))
theorem pw_of_adj : ∀ {t : List Nat}, (∀ (i a b : Nat), t[i]? = some a → t[i + 1]? = some b → a < b) → t.Pairwise (· < ·)
  | [], _ => List.Pairwise.nil
  | [a], _ => List.pairwise_singleton _ _
  | a :: b :: r, h => by
    have ih : (b :: r).Pairwise (· < ·) := pw_of_adj fun i x y h1 h2 => h (i + 1) x y (by simpa using h1) (by simpa using h2)
    have hab : a < b := h 0 a b rfl rfl
    refine List.Pairwise.cons (fun c hc => ?_) ih
    rcases List.mem_cons.mp hc with e | hc
    · rw [e]; exact hab
    · exact Nat.lt_trans hab (List.rel_of_pairwise_cons ih hc)
theorem adj_of_pw {t : List Nat} (h : t.Pairwise (· < ·)) {i a b : Nat} (h1 : t[i]? = some a) (h2 : t[i + 1]? = some b) : a < b := by
  obtain ⟨l1, e1⟩ := List.getElem?_eq_some_iff.mp h1
  obtain ⟨l2, e2⟩ := List.getElem?_eq_some_iff.mp h2
  rw [← e1, ← e2]
  exact List.pairwise_iff_getElem.mp h i (i + 1) l1 l2 (Nat.lt_succ_self i)
theorem lt1 {a b : Nat} : ([a] < [b]) ↔ a < b := by
  constructor
  · intro h
    cases h with
    | rel h => exact h
    | cons h => cases h
  · intro h
    exact List.Lex.rel h
/-- the walk over the signs has come to i -/
def Up (t al : List Nat) (i : Nat) : Prop := ∀ (j c : Nat), j < i → t[j]? = some c → c ∈ al ∧ ∀ b, t[j - 1]? = some b → 0 < j → b < c
theorem up_end {t al : List Nat} (h : Up t al t.length) : (∀ c ∈ t, c ∈ al) ∧ t.Pairwise (· < ·) := by
  refine ⟨fun c hc => ?_, pw_of_adj fun i a b h1 h2 => ?_⟩
  · obtain ⟨j, hj, e⟩ := List.mem_iff_getElem.mp hc
    exact (h j c hj (by rw [List.getElem?_eq_getElem hj, e])).1
  · have l2 := (List.getElem?_eq_some_iff.mp h2).1
    exact (h (i + 1) b l2 h2).2 a (by simpa using h1) (Nat.succ_pos _)
abbrev MARKSL : List Nat := [65, 66, 67, 68, 69, 70, 71, 72, 73, 74, 75, 76, 77, 78, 79, 80, 81, 82, 83, 84, 85, 86, 87, 88, 89, 90]
abbrev STEPSL : List Nat := [97, 98, 99, 100, 101, 102, 103, 104, 105, 106, 107, 108, 109, 110, 111, 112, 113, 114, 115, 116, 117, 118, 119, 121, 122]
abbrev ROOTSL : List Nat := [48, 49, 50, 51, 52, 53, 54, 55, 56, 57]
theorem lit_marks : ("ABCDEFGHIJKLMNOPQRSTUVWXYZ" : Str) = S MARKSL := by decide +kernel
theorem lit_steps : ("abcdefghijklmnopqrstuvwyz" : Str) = S STEPSL := by decide +kernel
theorem lit_roots : ("0123456789" : Str) = S ROOTSL := by decide +kernel
theorem lit_empty : ("" : Str) = S [] := by decide +kernel
def okMarks (t : List Nat) : Bool := decide ((∀ c ∈ t, c ∈ MARKSL) ∧ t.Pairwise (· < ·))
def okStates (ns : List Int) (count many : Nat) : Bool := decide (ns.length = count ∧ ∀ n ∈ ns, 0 ≤ n ∧ n < (many : Int))
structure Tb where
  begins : List Int
  lines : List (List Int)
  texts : List (List Nat)
def badMarked (tb : Tb) : Prop := tb.texts = [] ∨ ∃ t ∈ tb.texts, okMarks t = false
def badMoves (ns : Nat) (tb : Tb) : Prop := tb.lines.length ≠ tb.texts.length ∨ ∃ l ∈ tb.lines, okStates l ns tb.texts.length = false
def badStarts (nr : Nat) (tb : Tb) : Prop := okStates tb.begins nr tb.texts.length = false
/-- a table that a world takes -/
structure GoodTb (ns nr : Nat) (tb : Tb) : Prop where
  marked : ¬ badMarked tb
  moves : ¬ badMoves ns tb
  starts : ¬ badStarts nr tb
  few : tb.texts.length ≤ 400
  short : ∀ t ∈ tb.texts, t.length ≤ 26
/-- .. and strings that it takes -/
structure GoodSg (s r : List Nat) : Prop where
  s : okSigns s STEPSL = true
  r : okSigns r ROOTSL = true
/-! walking -/
def stp (s : List Nat) (lines : List (List Int)) (n : Int) (c : Nat) : Int := ((lines.getD n.toNat []).getD (ixs s c) 0)
def wlk (s : List Nat) (lines : List (List Int)) (n : Int) (row : List Nat) : Int := row.foldl (stp s lines) n
def stAt (s r : List Nat) (tb : Tb) (spot : List Nat) : Int := match spot with
  | c :: row => wlk s tb.lines (tb.begins.getD (ixs r c) 0) row
  | [] => 0
/-- a place of the world -/
def Spot (s r : List Nat) (spot : List Nat) : Prop := ∃ c row, spot = c :: row ∧ c ∈ r ∧ ∀ d ∈ row, d ∈ s
/-! the reached states: a queue -/
def targets (lines : List (List Int)) (n : Int) : List Int := lines.getD n.toNat []
inductive Qu (lines : List (List Int)) : List Int → List Int → List Int → Prop where
  | done (F : List Int) : Qu lines F [] F
  | skip {F P R : List Int} {n : Int} (h : n ∈ F) (q : Qu lines F P R) : Qu lines F (n :: P) R
  | new {F P R : List Int} {n : Int} (h : n ∉ F) (q : Qu lines (F ++ [n]) (P ++ targets lines n) R) : Qu lines F (n :: P) R
theorem Qu.det {lines : List (List Int)} {F P R R' : List Int} (a : Qu lines F P R) (b : Qu lines F P R') : R = R' := by
  induction a with
  | done F => cases b; rfl
  | skip h q ih => cases b with
    | skip h' q' => exact ih q'
    | new h' q' => exact absurd h h'
  | new h q ih => cases b with
    | skip h' q' => exact absurd h' h
    | new h' q' => exact ih q'
end K39
set_option Elab.async false
set_option linter.all false
set_option maxRecDepth 100000
set_option maxHeartbeats 2000000
namespace K39
open PySem L2 Uni
/-! ### what stands in the heap -/
def SeqI (k : Bool) (H : Hp) (v : V) (ns : List Int) : Prop := ∃ a, v = .ref a ∧ H a = some (kho k (ns.map V.int))
def SeqS (k : Bool) (H : Hp) (v : V) (ts : List (List Nat)) : Prop := ∃ a, v = .ref a ∧ H a = some (kho k (ts.map sv))
def SeqII (k j : Bool) (H : Hp) (v : V) (rows : List (List Int)) : Prop := ∃ a xs, v = .ref a ∧ H a = some (kho k xs) ∧ xs.length = rows.length ∧ ∀ (i : Nat) x row, xs[i]? = some x → rows[i]? = some row → SeqI j H x row
theorem SeqI.ex {k : Bool} {H H' : Hp} {v : V} {ns : List Int} (e : Ex H H') (h : SeqI k H v ns) : SeqI k H' v ns := let ⟨a, e1, e2⟩ := h; ⟨a, e1, e _ _ e2⟩
theorem SeqS.ex {k : Bool} {H H' : Hp} {v : V} {ns : List (List Nat)} (e : Ex H H') (h : SeqS k H v ns) : SeqS k H' v ns := let ⟨a, e1, e2⟩ := h; ⟨a, e1, e _ _ e2⟩
theorem SeqII.ex {k j : Bool} {H H' : Hp} {v : V} {ns : List (List Int)} (e : Ex H H') (h : SeqII k j H v ns) : SeqII k j H' v ns :=
  let ⟨a, xs, e1, e2, e3, e4⟩ := h; ⟨a, xs, e1, e _ _ e2, e3, fun i x row h1 h2 => (e4 i x row h1 h2).ex e⟩
/-- H' keeps the tuples, the instances, the dicts of H: lists may have changed -/
def KT (H H' : Hp) : Prop := ∀ a o, H a = some o → (∀ xs, o ≠ .lst xs) → H' a = some o
theorem KT.tup {H H' : Hp} {a : Addr} {xs : List V} (e : KT H H') (h : H a = some (.tup xs)) : H' a = some (.tup xs) := e a _ h fun _ z => nomatch z
theorem KT.of {H H' : Hp} (e : Ex H H') : KT H H' := fun a o h _ => e a o h
theorem KT.trans {H H1 H2 : Hp} (a : KT H H1) (b : KT H1 H2) : KT H H2 := fun x o h n => b x o (a x o h n) n
theorem KT.upd {H : Hp} {a : Addr} {xs ys : List V} (h : H a = some (.lst xs)) : KT H (upd H a (.lst ys)) := fun b o e n => by
  rw [upd_ne]
  · exact e
  · intro z
    subst z
    rw [h] at e
    exact n xs (Option.some.inj e).symm
theorem SeqI.kt {H H' : Hp} {v : V} {ns : List Int} (e : KT H H') (h : SeqI true H v ns) : SeqI true H' v ns := let ⟨a, e1, e2⟩ := h; ⟨a, e1, e.tup e2⟩
theorem SeqS.kt {H H' : Hp} {v : V} {ns : List (List Nat)} (e : KT H H') (h : SeqS true H v ns) : SeqS true H' v ns := let ⟨a, e1, e2⟩ := h; ⟨a, e1, e.tup e2⟩
theorem SeqII.kt {H H' : Hp} {v : V} {ns : List (List Int)} (e : KT H H') (h : SeqII true true H v ns) : SeqII true true H' v ns :=
  let ⟨a, xs, e1, e2, e3, e4⟩ := h; ⟨a, xs, e1, e.tup e2, e3, fun i x row h1 h2 => (e4 i x row h1 h2).kt e⟩
def TableAt (H : Hp) (v : V) (tb : Tb) : Prop := ∃ q b l t, v = .ref q ∧ H q = some (.lst [b, l, t]) ∧ SeqI false H b tb.begins ∧ SeqII false false H l tb.lines ∧ SeqS false H t tb.texts
theorem TableAt.ex {H H' : Hp} {v : V} {tb : Tb} (e : Ex H H') (h : TableAt H v tb) : TableAt H' v tb := let ⟨q, b, l, t, e1, e2, e3, e4, e5⟩ := h; ⟨q, b, l, t, e1, e _ _ e2, e3.ex e, e4.ex e, e5.ex e⟩
def FieldsAt (H : Hp) (v : V) (s r : List Nat) (tb : Tb) : Prop := ∃ a b l t, v = .ref a ∧ H a = some (.tup [sv s, sv r, b, l, t]) ∧ SeqI true H b tb.begins ∧ SeqII true true H l tb.lines ∧ SeqS true H t tb.texts
theorem FieldsAt.ex {H H' : Hp} {v : V} {s r : List Nat} {tb : Tb} (e : Ex H H') (h : FieldsAt H v s r tb) : FieldsAt H' v s r tb := let ⟨q, b, l, t, e1, e2, e3, e4, e5⟩ := h; ⟨q, b, l, t, e1, e _ _ e2, e3.ex e, e4.ex e, e5.ex e⟩
theorem FieldsAt.kt {H H' : Hp} {v : V} {s r : List Nat} {tb : Tb} (e : KT H H') (h : FieldsAt H v s r tb) : FieldsAt H' v s r tb := let ⟨q, b, l, t, e1, e2, e3, e4, e5⟩ := h; ⟨q, b, l, t, e1, e.tup e2, e3.kt e, e4.kt e, e5.kt e⟩
def wfs (s r : List Nat) (b l t d : V) : List (Str × V) := [("steps", sv s), ("roots", sv r), ("starts", b), ("moves", l), ("marked", t), ("_places", d)]
/-- a world -/
def WorldAt (C : Addr) (H : Hp) (v : V) (s r : List Nat) (tb : Tb) : Prop := ∃ a dx b l t d kvs R, v = .ref a ∧ H a = some (.ins C dx (wfs s r b l t (.ref d))) ∧ SeqI true H b tb.begins ∧ SeqII true true H l tb.lines ∧ SeqS true H t tb.texts ∧
  H d = some (.dK kvs) ∧ kvs.map (·.1) = R.map Sum.inl ∧ Qu tb.lines [] tb.begins R ∧ R.length ≤ 400
theorem WorldAt.ex {C : Addr} {H H' : Hp} {v : V} {s r : List Nat} {tb : Tb} (e : Ex H H') (h : WorldAt C H v s r tb) : WorldAt C H' v s r tb :=
  let ⟨a, dx, b, l, t, d, kvs, R, e1, e2, e3, e4, e5, e6, e7⟩ := h; ⟨a, dx, b, l, t, d, kvs, R, e1, e _ _ e2, e3.ex e, e4.ex e, e5.ex e, e _ _ e6, e7⟩
theorem WorldAt.kt {C : Addr} {H H' : Hp} {v : V} {s r : List Nat} {tb : Tb} (e : KT H H') (h : WorldAt C H v s r tb) : WorldAt C H' v s r tb :=
  let ⟨a, dx, b, l, t, d, kvs, R, e1, e2, e3, e4, e5, e6, e7⟩ := h; ⟨a, dx, b, l, t, d, kvs, R, e1, e _ _ e2 (fun _ z => nomatch z), e3.kt e, e4.kt e, e5.kt e, e _ _ e6 (fun _ z => nomatch z), e7⟩
/-! ### what each def promises -/
def sp_lists_signs (K : PySem.W.Frag) : Sp := fun vs H Q _ => ∃ t al : List Nat, vs = [sv t, sv al] ∧ t.length ≤ 1000 ∧ Q (.bl (okSigns t al)) H
def sp_lists_marks (K : PySem.W.Frag) : Sp := fun vs H Q _ => ∃ t : List Nat, vs = [sv t] ∧ t.length ≤ 1000 ∧ Q (.bl (okMarks t)) H
def sp_are_states (K : PySem.W.Frag) : Sp := fun vs H Q _ => ∃ (k : Bool) (v : V) (ns : List Int) (c m : Nat), vs = [v, .int c, .int m] ∧ SeqI k H v ns ∧ Q (.bl (okStates ns c m)) H
def sp_law_whole (K : PySem.W.Frag) : Sp := fun vs H Q _ => ∃ n : Int, vs = [.int n] ∧ Q (.bl true) H
def sp_law_cell (K : PySem.W.Frag) : Sp := fun vs H Q _ => ∃ (a : Addr) (ns : List Int) (k : Nat), vs = [.ref a, .int k] ∧ SqL K H a (ns.map V.int) ∧ ns.length ≤ 1000 ∧ k ≤ 1000 ∧ ∀ n : Int, Q (.int n) H
def sp_law_digits (K : PySem.W.Frag) : Sp := fun vs H Q _ => ∃ (n : Int) (p : Addr) (zs : List Int), vs = [.int n, .ref p] ∧ H p = some (.lst (zs.map V.int)) ∧ zs.length ≤ 1000 ∧ (∀ z ∈ zs, 0 < z ∧ z < 1073741824) ∧
  ∀ (ds : List Int) (q : Addr) (H' : Hp), Ex H H' → H q = none → H' q = some (.lst (ds.map V.int)) → ds.length = zs.length → (∀ (i : Nat) d z, ds[i]? = some d → zs[i]? = some z → 0 ≤ d ∧ d < z) → Q (.ref q) H'
/-- alike: no list in them; how many things -/
inductive Same (H : Hp) : V → V → Nat → Prop where
  | bl (b : Bool) : Same H (.bl b) (.bl b) 1
  | int (i : Int) : Same H (.int i) (.int i) 1
  | str (x : List Nat) : Same H (sv x) (sv x) 1
  | tup {a b : Addr} {xs ys : List V} (ns : List Nat) (ha : H a = some (.tup xs)) (hb : H b = some (.tup ys)) (hx : xs.length = ns.length) (hy : ys.length = ns.length) (all : ∀ (i : Nat) x y n, xs[i]? = some x → ys[i]? = some y → ns[i]? = some n → Same H x y n) : Same H (.ref a) (.ref b) (1 + ns.sum)
theorem Same.tk {H H' : Hp} (e : TK H H') {x y : V} {n : Nat} (h : Same H x y n) : Same H' x y n := by
  induction h with
  | bl b => exact .bl b
  | int i => exact .int i
  | str x => exact .str x
  | tup ns ha hb hx hy all ih => exact .tup ns (e _ _ ha) (e _ _ hb) hx hy fun i x y n h1 h2 h3 => ih i x y n h1 h2 h3
theorem Same.pos {H : Hp} {x y : V} {n : Nat} (h : Same H x y n) : 1 ≤ n := by
  cases h <;> omega
def sp_law_same (K : PySem.W.Frag) : Sp := fun vs H Q _ => ∃ (v u : V) (n : Nat), vs = [v, u] ∧ Same H v u n ∧ n ≤ 900000 ∧ ∀ H', Ex H H' → Q (.bl true) H'
def Marks4 (m : List Nat) : Prop := m.length = 4 ∧ (∀ c ∈ m, c ∈ MARKSL) ∧ m.Pairwise (· < ·)
def sp_law_signs (K : PySem.W.Frag) : Sp := fun vs H Q _ => ∃ n : Int, vs = [.int n] ∧ ∀ (q : Addr) (s r m : List Nat) (H' : Hp), Ex H H' → H q = none → H' q = some (.lst [sv s, sv r, sv m]) → GoodSg s r → Marks4 m → Q (.ref q) H'
def sp_law_marks (K : PySem.W.Frag) : Sp := fun vs H Q _ => ∃ (m : List Nat) (b : Int), vs = [sv m, .int b] ∧ m.length = 4 ∧ ∀ (t : List Nat) (H' : Hp), Ex H H' → t.Sublist m → Q (sv t) H'
def Small (tb : Tb) : Prop := ∀ t ∈ tb.texts, t.length ≤ 4
def sp_law_table (K : PySem.W.Frag) : Sp := fun vs H Q _ => ∃ (p : Addr) (c o : Int) (s r m : List Nat), vs = [.ref p, .int c, .int o] ∧ H p = some (.lst [sv s, sv r, sv m]) ∧ GoodSg s r ∧ Marks4 m ∧
  ∀ (v : V) (tb : Tb) (H' : Hp), Ex H H' → TableAt H' v tb → GoodTb s.length r.length tb → Small tb → Q v H'
def sp_law_large (K : PySem.W.Frag) : Sp := fun vs H Q _ => ∃ (p : Addr) (c : Int) (s r m : List Nat), vs = [.ref p, .int c] ∧ H p = some (.lst [sv s, sv r, sv m]) ∧ GoodSg s r ∧ Marks4 m ∧
  ∀ (v : V) (tb : Tb) (H' : Hp), Ex H H' → TableAt H' v tb → GoodTb s.length r.length tb → Small tb → Q v H'
/-- the bits of a way -/
def wayB (w : Nat) (j : Nat) : Bool := decide (w / 2 ^ j % 2 = 1)
def sp_law_hand (K : PySem.W.Frag) : Sp := fun vs H Q _ => ∃ (v : V) (w : Nat) (tb : Tb), vs = [v, .int w] ∧ TableAt H v tb ∧ tb.lines.length ≤ 1000 ∧
  ∀ (q b l t : Addr) (xs : List V) (H' : Hp), Ex H H' → H q = none → H b = none → H l = none → H t = none → (∀ x ∈ xs, ∃ a, x = .ref a ∧ H a = none ∧ a ≠ b) → H' q = some (.lst [.ref b, .ref l, .ref t]) →
    H' b = some (kho (wayB w 0) (tb.begins.map V.int)) → H' l = some (kho (wayB w 2) xs) → SeqII (wayB w 2) (wayB w 1) H' (.ref l) tb.lines → H' t = some (kho (wayB w 3) (tb.texts.map sv)) → Q (.ref q) H'
def sp_law_fields (K : PySem.W.Frag) : Sp := fun vs H Q _ => ∃ (p : Addr) (v : V) (s r m : List Nat) (tb : Tb), vs = [.ref p, v] ∧ H p = some (.lst [sv s, sv r, sv m]) ∧ TableAt H v tb ∧ tb.lines.length ≤ 1000 ∧
  ∀ (u : V) (H' : Hp), Ex H H' → FieldsAt H' u s r tb → Q u H'
def sp_law_told_fields (K : PySem.W.Frag) : Sp := fun vs H Q _ => ∃ (C : Addr) (v : V) (s r : List Nat) (tb : Tb), vs = [v] ∧ C = He.ga K "World" ∧ WorldAt C H v s r tb ∧ ∀ (u : V) (H' : Hp), Ex H H' → FieldsAt H' u s r tb → Q u H'
def sp_law_at (K : PySem.W.Frag) : Sp := fun vs H Q _ => ∃ (v : V) (s r : List Nat) (tb : Tb) (spot : List Nat), vs = [v, sv spot] ∧ FieldsAt H v s r tb ∧ GoodSg s r ∧ GoodTb s.length r.length tb ∧ Spot s r spot ∧ spot.length ≤ 1000 ∧ Q (.int (stAt s r tb spot)) H
def sp_law_places (K : PySem.W.Frag) : Sp := fun vs H Q _ => ∃ (v : V) (s r : List Nat) (tb : Tb) (n : Nat), vs = [v, .int n] ∧ FieldsAt H v s r tb ∧ GoodSg s r ∧ n ≤ 3 ∧
  ∀ (q : Addr) (spots : List (List Nat)) (H' : Hp), Ex H H' → H q = none → H' q = some (.lst (spots.map sv)) → (∀ p ∈ spots, Spot s r p ∧ p.length ≤ 4) → spots.length ≤ 1000 → Q (.ref q) H'
def sp_law_reached (K : PySem.W.Frag) : Sp := fun vs H Q _ => ∃ (v : V) (s r : List Nat) (tb : Tb), vs = [v] ∧ FieldsAt H v s r tb ∧ GoodTb s.length r.length tb ∧
  ∀ (q : Addr) (R : List Int) (H' : Hp), Ex H H' → H' q = some (.tup (R.map V.int)) → Qu tb.lines [] tb.begins R → R.length ≤ 400 → Q (.ref q) H'
def sp_least_places_of (K : PySem.W.Frag) : Sp := fun vs H Q _ => ∃ (b l : V) (s r : List Nat) (tb : Tb), vs = [sv s, sv r, b, l] ∧ SeqI true H b tb.begins ∧ SeqII true true H l tb.lines ∧ GoodSg s r ∧ GoodTb s.length r.length tb ∧
  ∀ (q : Addr) (kvs : List (Key × V)) (R : List Int) (H' : Hp), Ex H H' → H q = none → H' q = some (.dK kvs) → kvs.map (·.1) = R.map Sum.inl → Qu tb.lines [] tb.begins R → R.length ≤ 400 → Q (.ref q) H'
def BadW (sg : List Nat) (kind : Int) (w : List Nat) : Prop := w.length ≤ 30 ∧ ((kind = 0 ∧ w = []) ∨ (kind = 1 ∧ w.length = 4) ∨ (kind ≠ 0 ∧ kind ≠ 1 ∧ (¬ w.Pairwise (· < ·) ∨ ∃ c ∈ w, c ∉ sg)))
def sp_law_wrong_string (K : PySem.W.Frag) : Sp := fun vs H Q _ => ∃ (t sg st : List Nat) (kind turn : Int), vs = [sv t, sv sg, sv st, .int kind, .int turn] ∧ t ≠ [] ∧ t.length ≤ 4 ∧ t.Pairwise (· < ·) ∧ (∀ c ∈ t, c ∈ sg) ∧ sg.Pairwise (· < ·) ∧ 9 ≤ sg.length ∧ sg.length ≤ 30 ∧
  st ≠ [] ∧ st.length ≤ 30 ∧ (∀ c ∈ st, c ∉ sg) ∧ 0 ≤ turn ∧ turn < 1000 ∧ ∀ (w : List Nat) (H' : Hp), Ex H H' → BadW sg kind w → Q (sv w) H'
def sp_law_wrong_marked (K : PySem.W.Frag) : Sp := fun vs H Q _ => ∃ (v : V) (tb : Tb) (kind at_ turn : Int), vs = [v, .int kind, .int at_, .int turn] ∧ SeqS true H v tb.texts ∧ ¬ badMarked tb ∧ Small tb ∧ tb.texts.length ≤ 400 ∧ 0 ≤ kind ∧ kind < 4 ∧ 0 ≤ at_ ∧ 0 ≤ turn ∧ turn < 1000 ∧
  ∀ (u : V) (ws : List (List Nat)) (H' : Hp), Ex H H' → SeqS true H' u ws → (ws = [] ∨ ∃ w ∈ ws, okMarks w = false) → ws.length ≤ 1000 → (∀ w ∈ ws, w.length ≤ 1000) → Q u H'
def sp_law_wrong_moves (K : PySem.W.Frag) : Sp := fun vs H Q _ => ∃ (v : V) (ns nr : Nat) (tb : Tb) (kind at_ turn : Int), vs = [v, .int kind, .int at_, .int turn] ∧ SeqII true true H v tb.lines ∧ 1 ≤ ns ∧ ns ≤ 3 ∧ GoodTb ns nr tb ∧ 0 ≤ kind ∧ kind < 9 ∧ 0 ≤ at_ ∧ 0 ≤ turn ∧ turn < 1000 ∧
  ∀ (u : V) (rows : List (List Int)) (H' : Hp), Ex H H' → SeqII false false H' u rows → (rows.length ≠ tb.texts.length ∨ ∃ l ∈ rows, okStates l ns tb.texts.length = false) → rows.length ≤ 1000 → Q u H'
def sp_law_wrong_starts (K : PySem.W.Frag) : Sp := fun vs H Q _ => ∃ (v : V) (ns nr : Nat) (tb : Tb) (kind turn : Int), vs = [v, .int tb.texts.length, .int kind, .int turn] ∧ SeqI true H v tb.begins ∧ 1 ≤ nr ∧ GoodTb ns nr tb ∧ nr ≤ 3 ∧ 0 ≤ kind ∧ kind < 6 ∧ 0 ≤ turn ∧
  ∀ (u : V) (row : List Int) (H' : Hp), Ex H H' → SeqI false H' u row → okStates row nr tb.texts.length = false → Q u H'
/-- what the class has, for its fields to be read -/
structure WCls (K : PySem.W.Frag) : Prop where
  cls : Cls K (He.ga K "World")
  steps : NoAttr K (He.ga K "World") "steps"
  roots : NoAttr K (He.ga K "World") "roots"
  starts : NoAttr K (He.ga K "World") "starts"
  moves : NoAttr K (He.ga K "World") "moves"
  marked : NoAttr K (He.ga K "World") "marked"
  places : NoAttr K (He.ga K "World") "_places"
end K39
set_option Elab.async false
set_option linter.all false
set_option maxRecDepth 100000
set_option maxHeartbeats 4000000
namespace K39
open PySem L2 PySem.Spec PyProof.Rows Uni
/-- lists_signs -/
def t_lists_signs (K : PySem.W.Frag) : TS :=
  (tSeq (tIfS (tNot (tTest (tChain uLe uLe (tC (.int 1)) (tCB (uLen K) (tCons (tVar 0) tNil)) (tC (.int 3))))) (tRet (tC (.bl false))) tNext) (tSeq (tFor (iRng1 (tCons (tCB (uLen K) (tCons (tVar 0) tNil)) tNil)) (gName 2) (tIfS (tOr (tTest (tOp (uIn K true) (tOp (uIx K) (tVar 0) (tVar 2)) (tVar 1))) (tAnd (tTest (tOp uGt (tVar 2) (tC (.int 0)))) (tNot (tTest (tOp uLt (tOp (uIx K) (tVar 0) (tOp uSub (tVar 2) (tC (.int 1)))) (tOp (uIx K) (tVar 0) (tVar 2))))))) (tRet (tC (.bl false))) tNext)) (tRet (tC (.bl true)))))
def N_lists_signs : List PySem.Str := ["text", "allowed", "at"]
/-- lists_marks -/
def t_lists_marks (K : PySem.W.Frag) : TS :=
  (tSeq (tFor (iRng1 (tCons (tCB (uLen K) (tCons (tVar 0) tNil)) tNil)) (gName 1) (tIfS (tOr (tTest (tOp (uIn K true) (tOp (uIx K) (tVar 0) (tVar 1)) (tC (.str "ABCDEFGHIJKLMNOPQRSTUVWXYZ")))) (tAnd (tTest (tOp uGt (tVar 1) (tC (.int 0)))) (tNot (tTest (tOp uLt (tOp (uIx K) (tVar 0) (tOp uSub (tVar 1) (tC (.int 1)))) (tOp (uIx K) (tVar 0) (tVar 1))))))) (tRet (tC (.bl false))) tNext)) (tRet (tC (.bl true))))
def N_lists_marks : List PySem.Str := ["text", "at"]
/-- are_states -/
def t_are_states (K : PySem.W.Frag) : TS :=
  (tSeq (tIfS (tTest (tOp (uNe K) (tCB (uLen K) (tCons (tVar 0) tNil)) (tVar 1))) (tRet (tC (.bl false))) tNext) (tSeq (tFor (iUni K (tVar 0)) (gName 3) (tIfS (tNot (tTest (tChain uLe uLt (tC (.int 0)) (tVar 3) (tVar 2)))) (tRet (tC (.bl false))) tNext)) (tRet (tC (.bl true)))))
def N_are_states : List PySem.Str := ["numbers", "count", "many", "number"]
/-- _law_whole -/
def t_law_whole (K : PySem.W.Frag) : TS :=
  (tRet (tAndV (tCB (rIsi K) (tCons (tVar 0) (tCons (tC (.ty "int")) tNil))) (tNotV (tCB (rIsi K) (tCons (tVar 0) (tCons (tC (.ty "bool")) tNil))))))
def N_law_whole : List PySem.Str := ["value"]
/-- _law_cell -/
def t_law_cell (K : PySem.W.Frag) : TS :=
  (tSeq (tIfS (tTest (tOp uLt (tVar 1) (tCB (uLen K) (tCons (tVar 0) tNil)))) (tRet (tOp (uIx K) (tVar 0) (tVar 1))) tNext) (tSeq (tAsg (tC (.int 17)) (gName 2)) (tSeq (tFor (iUni K (tVar 0)) (gName 3) (tAsg (tOp uMod (tCB (uInt) (tCons (tOp (uAdd K) (tOp (uMul K) (tVar 2) (tC (.int 31))) (tOp uMod (tCB (uInt) (tCons (tVar 3) tNil)) (tC (.int 1000003)))) tNil)) (tC (.int 1000003))) (gName 2))) (tRet (tOp uMod (tCB (uInt) (tCons (tOp (uMul K) (tOp (uMul K) (tOp (uAdd K) (tVar 2) (tC (.int 7))) (tOp (uAdd K) (tVar 1) (tC (.int 3)))) (tC (.int 69621))) tNil)) (tC (.int 2147483647)))))))
def N_law_cell : List PySem.Str := ["script", "k", "seed", "cell"]
/-- _law_digits -/
def t_law_digits (K : PySem.W.Frag) : TS :=
  (tSeq (tAsg (tLst tNil) (gName 2)) (tSeq (tAsg (tCB (uInt) (tCons (tVar 0) tNil)) (gName 3)) (tSeq (tIfS (tTest (tOp uGe (tVar 3) (tOp uPow (tC (.int 10)) (tC (.int 18))))) (tSeq (tAsg (tOp uSub (tVar 3) (tOp uPow (tC (.int 10)) (tC (.int 18)))) (gName 3)) (tSeq (tFor (iUni K (tVar 1)) (gName 6) (tSeq (tDrop (tBM K "list" rAppend (tVar 2) (tCons (tOp uMod (tCB (uInt) (tCons (tVar 3) tNil)) (tVar 6)) tNil))) (tAsg (tOp uFdv (tCB (uInt) (tCons (tVar 3) tNil)) (tVar 6)) (gName 3)))) (tRet (tVar 2)))) tNext) (tSeq (tAsg (tOp uMod (tCB (uInt) (tCons (tVar 3) tNil)) (tC (.int 2147483629))) (gName 4)) (tSeq (tFor (iRng1 (tCons (tCB (uLen K) (tCons (tVar 1) tNil)) tNil)) (gName 5) (tSeq (tAsg (tOp uMod (tCB (uInt) (tCons (tOp (uAdd K) (tOp (uAdd K) (tOp (uMul K) (tVar 4) (tC (.int 48271))) (tOp (uMul K) (tC (.int 974711)) (tVar 5))) (tC (.int 12345))) tNil)) (tC (.int 2147483647))) (gName 4)) (tSeq (tAsg (tOp uMod (tCB (uInt) (tCons (tOp (uMul K) (tVar 4) (tOp (uAdd K) (tOp uFdv (tVar 4) (tC (.int 65537))) (tC (.int 3)))) tNil)) (tC (.int 2147483629))) (gName 7)) (tDrop (tBM K "list" rAppend (tVar 2) (tCons (tOp uMod (tOp uFdv (tVar 7) (tC (.int 19))) (tOp (uIx K) (tVar 1) (tVar 5))) tNil)))))) (tRet (tVar 2)))))))
def N_law_digits : List PySem.Str := ["cell", "sizes", "row", "rest", "seed", "k", "size", "twice"]
/-- _law_same -/
def t_law_same (K : PySem.W.Frag) : TS :=
  (tSeq (tAsg (tLst (tCons (tTup (tCons (tVar 0) (tCons (tVar 1) tNil))) tNil)) (gName 2)) (tSeq (tFor (iRng1 (tCons (tC (.int 1000000)) tNil)) (gName 3) (tSeq (tIfS (tTest (tOp (uEq K) (tCB (uLen K) (tCons (tVar 2) tNil)) (tC (.int 0)))) (tRet (tC (.bl true))) tNext) (tSeq (tAsg (tBM0 K "list" rPop (tVar 2)) (gName 4)) (tIfS (tB (tCB (rIsi K) (tCons (tOp (uIx K) (tVar 4) (tC (.int 1))) (tCons (tC (.ty "tuple")) tNil)))) (tSeq (tIfS (tOr (tNot (tB (tCB (rIsi K) (tCons (tOp (uIx K) (tVar 4) (tC (.int 0))) (tCons (tC (.ty "tuple")) tNil))))) (tTest (tOp (uNe K) (tCB (uLen K) (tCons (tOp (uIx K) (tVar 4) (tC (.int 0))) tNil)) (tCB (uLen K) (tCons (tOp (uIx K) (tVar 4) (tC (.int 1))) tNil))))) (tRet (tC (.bl false))) tNext) (tFor (iRng1 (tCons (tCB (uLen K) (tCons (tOp (uIx K) (tVar 4) (tC (.int 1))) tNil)) tNil)) (gName 5) (tDrop (tBM K "list" rAppend (tVar 2) (tCons (tTup (tCons (tOp (uIx K) (tOp (uIx K) (tVar 4) (tC (.int 0))) (tVar 5)) (tCons (tOp (uIx K) (tOp (uIx K) (tVar 4) (tC (.int 1))) (tVar 5)) tNil))) tNil))))) (tIfS (tB (tCB (rIsi K) (tCons (tOp (uIx K) (tVar 4) (tC (.int 1))) (tCons (tC (.ty "str")) tNil)))) (tIfS (tOr (tNot (tB (tCB (rIsi K) (tCons (tOp (uIx K) (tVar 4) (tC (.int 0))) (tCons (tC (.ty "str")) tNil))))) (tTest (tOp (uNe K) (tOp (uIx K) (tVar 4) (tC (.int 0))) (tOp (uIx K) (tVar 4) (tC (.int 1)))))) (tRet (tC (.bl false))) tNext) (tIfS (tB (tCB (rIsi K) (tCons (tOp (uIx K) (tVar 4) (tC (.int 1))) (tCons (tC (.ty "bool")) tNil)))) (tIfS (tOr (tNot (tB (tCB (rIsi K) (tCons (tOp (uIx K) (tVar 4) (tC (.int 0))) (tCons (tC (.ty "bool")) tNil))))) (tTest (tOp (uNe K) (tOp (uIx K) (tVar 4) (tC (.int 0))) (tOp (uIx K) (tVar 4) (tC (.int 1)))))) (tRet (tC (.bl false))) tNext) (tIfS (tTest (tOp rIsN (tOp (uIx K) (tVar 4) (tC (.int 1))) (tC .non))) (tIfS (tTest (tOp rNotN (tOp (uIx K) (tVar 4) (tC (.int 0))) (tC .non))) (tRet (tC (.bl false))) tNext) (tIfS (tOr (tNot (tB (tCall (sp_law_whole K) [] E0 (tCons (tOp (uIx K) (tVar 4) (tC (.int 0))) tNil)))) (tTest (tOp (uNe K) (tOp (uIx K) (tVar 4) (tC (.int 0))) (tOp (uIx K) (tVar 4) (tC (.int 1)))))) (tRet (tC (.bl false))) tNext)))))))) (tRet (tC (.bl false)))))
def N_law_same : List PySem.Str := ["told", "due", "pairs", "turn", "pair", "k"]
/-- _law_signs -/
def t_law_signs (K : PySem.W.Frag) : TS :=
  (tSeq (tAsg (tCall (sp_law_digits K) [] E0 (tCons (tVar 0) (tCons (tLst (tCons (tC (.int 3)) (tCons (tC (.int 25)) (tCons (tC (.int 24)) (tCons (tC (.int 23)) (tCons (tC (.int 3)) (tCons (tC (.int 10)) (tCons (tC (.int 9)) (tCons (tC (.int 8)) (tCons (tC (.int 26)) (tCons (tC (.int 25)) (tCons (tC (.int 24)) (tCons (tC (.int 23)) tNil))))))))))))) tNil))) (gName 1)) (tSeq (tAsg (tCB (uList K) (tCons (tC (.str "abcdefghijklmnopqrstuvwyz")) tNil)) (gName 2)) (tSeq (tAsg (tCB (uList K) (tCons (tC (.str "0123456789")) tNil)) (gName 3)) (tSeq (tAsg (tCB (uList K) (tCons (tC (.str "ABCDEFGHIJKLMNOPQRSTUVWXYZ")) tNil)) (gName 4)) (tSeq (tAsg (tLc (iRng1 (tCons (tOp (uAdd K) (tC (.int 1)) (tOp (uIx K) (tVar 1) (tC (.int 0)))) tNil)) (gName 8) tYes (tBM K "list" rPopAt (tVar 2) (tCons (tOp (uIx K) (tVar 1) (tOp (uAdd K) (tC (.int 1)) (tVar 8))) tNil)) [8]) (gName 5)) (tSeq (tAsg (tLc (iRng1 (tCons (tOp (uAdd K) (tC (.int 1)) (tOp (uIx K) (tVar 1) (tC (.int 4)))) tNil)) (gName 8) tYes (tBM K "list" rPopAt (tVar 3) (tCons (tOp (uIx K) (tVar 1) (tOp (uAdd K) (tC (.int 5)) (tVar 8))) tNil)) [8]) (gName 6)) (tSeq (tAsg (tLc (iRng1 (tCons (tC (.int 4)) tNil)) (gName 8) tYes (tBM K "list" rPopAt (tVar 4) (tCons (tOp (uIx K) (tVar 1) (tOp (uAdd K) (tC (.int 8)) (tVar 8))) tNil)) [8]) (gName 7)) (tRet (tLst (tCons (tM1 (rJoin K) (tC (.str "")) (tCB (uSorted K) (tCons (tVar 5) tNil))) (tCons (tM1 (rJoin K) (tC (.str "")) (tCB (uSorted K) (tCons (tVar 6) tNil))) (tCons (tM1 (rJoin K) (tC (.str "")) (tCB (uSorted K) (tCons (tVar 7) tNil))) tNil))))))))))))
def N_law_signs : List PySem.Str := ["cell", "row", "letters", "digits", "capitals", "ways", "figures", "marks", "k"]
/-- _law_marks -/
def t_law_marks (K : PySem.W.Frag) : TS :=
  (tRet (tM1 (rJoin K) (tC (.str "")) (tLc (iRng1 (tCons (tC (.int 4)) tNil)) (gName 2) (tTest (tOp (uEq K) (tOp uMod (tOp uFdv (tVar 1) (tOp (uIx K) (tLst (tCons (tC (.int 1)) (tCons (tC (.int 2)) (tCons (tC (.int 4)) (tCons (tC (.int 8)) tNil))))) (tVar 2))) (tC (.int 2))) (tC (.int 1)))) (tOp (uIx K) (tVar 0) (tVar 2)) [2])))
def N_law_marks : List PySem.Str := ["marks", "bits", "k"]
/-- _law_table -/
def t_law_table (K : PySem.W.Frag) : TS :=
  (tSeq (tAsg (tCB (uLen K) (tCons (tOp (uIx K) (tVar 0) (tC (.int 0))) tNil)) (gName 3)) (tSeq (tAsg (tCall (sp_law_digits K) [] E0 (tCons (tVar 1) (tCons (tOp (uAdd K) (tOp (uAdd K) (tLst (tCons (tC (.int 8)) (tCons (tC (.int 7)) (tCons (tC (.int 3)) (tCons (tC (.int 7)) (tCons (tC (.int 7)) (tCons (tC (.int 7)) tNil))))))) (tOp (uMul K) (tLst (tCons (tC (.int 7)) tNil)) (tC (.int 21)))) (tOp (uMul K) (tLst (tCons (tC (.int 16)) tNil)) (tC (.int 7)))) tNil))) (gName 4)) (tSeq (tAsg (tCall (sp_law_digits K) [] E0 (tCons (tVar 2) (tCons (tOp (uAdd K) (tOp (uAdd K) (tLst (tCons (tC (.int 1)) (tCons (tC (.int 2)) (tCons (tC (.int 3)) (tCons (tC (.int 4)) (tCons (tC (.int 5)) (tCons (tC (.int 6)) (tCons (tC (.int 7)) tNil)))))))) (tOp (uMul K) (tLst (tCons (tC (.int 21)) tNil)) (tC (.int 6)))) (tLst (tCons (tC (.int 2)) (tCons (tC (.int 7)) (tCons (tC (.int 3)) (tCons (tC (.int 7)) (tCons (tC (.int 3)) tNil))))))) tNil))) (gName 5)) (tSeq (tAsg (tOp (uAdd K) (tC (.int 1)) (tOp (uIx K) (tVar 4) (tC (.int 1)))) (gName 6)) (C8.tCut (tIfS (tAnd (tTest (tOp (uEq K) (tVar 6) (tC (.int 1)))) (tTest (tOp uGt (tOp (uIx K) (tVar 4) (tC (.int 2))) (tC (.int 0))))) (tAsg (tC (.int 5)) (gName 6)) tNext) (tSeq (tAsg (tLc (iRng1 (tCons (tCB (uLen K) (tCons (tOp (uIx K) (tVar 0) (tC (.int 1))) tNil)) tNil)) (gName 15) tYes (tOp uMod (tOp (uIx K) (tVar 4) (tOp (uAdd K) (tC (.int 3)) (tVar 15))) (tVar 6)) [15]) (gName 7)) (tSeq (tAsg (tLc (iRng1 (tCons (tVar 6) tNil)) (gName 12) tYes (tLc (iRng1 (tCons (tVar 3) tNil)) (gName 15) tYes (tOp uMod (tOp (uIx K) (tVar 4) (tOp (uAdd K) (tOp (uAdd K) (tC (.int 6)) (tOp (uMul K) (tC (.int 3)) (tVar 12))) (tVar 15))) (tVar 6)) [15]) [12]) (gName 8)) (C8.tCut (tIfS (tTest (tOp uGe (tOp (uIx K) (tVar 4) (tC (.int 0))) (tC (.int 5)))) (tSeq (tAsg (tOp uSub (tVar 6) (tC (.int 1))) (gName 13)) (tSeq (tAsg (tLc (iUni K (tOp (uIx K) (tVar 0) (tC (.int 1)))) (gName 19) tYes (tVar 13) [19]) (gName 7)) (tSeq (tAsg (tLc (iRng1 (tCons (tVar 6) tNil)) (gName 12) tYes (tLc (iUni K (tOp (uIx K) (tVar 0) (tC (.int 0)))) (gName 19) tYes (tVar 13) [19]) [12]) (gName 8)) (tSeq (tAsg (tLc (iRng1 (tCons (tCB (uLen K) (tCons (tOp (uIx K) (tVar 0) (tC (.int 1))) tNil)) tNil)) (gName 15) tYes (tTup (tCons (tVar 13) (tCons (tVar 15) tNil))) [15]) (gName 14)) (tSeq (tFor (iRng1 (tCons (tVar 13) tNil)) (gName 12) (tSeq (tAsg (tBM K "list" rPopAt (tVar 14) (tCons (tOp uMod (tOp (uIx K) (tVar 5) (tOp (uAdd K) (tC (.int 7)) (tVar 12))) (tCB (uLen K) (tCons (tVar 14) tNil))) tNil)) (gName 16)) (C8.tCut (tIfS (tTest (tOp (uEq K) (tOp (uIx K) (tVar 16) (tC (.int 0))) (tVar 13))) (tAsg (tVar 12) (gSub (tVar 7) (tOp (uIx K) (tVar 16) (tC (.int 1))) rSetL)) (tSeq (tAsg (tOp (uIx K) (tVar 8) (tOp (uIx K) (tVar 16) (tC (.int 0)))) (gName 17)) (tAsg (tVar 12) (gSub (tVar 17) (tOp (uIx K) (tVar 16) (tC (.int 1))) rSetL)))) (tAsg (tOp (uAdd K) (tVar 14) (tLc (iRng1 (tCons (tVar 3) tNil)) (gName 15) tYes (tTup (tCons (tVar 12) (tCons (tVar 15) tNil))) [15])) (gName 14))))) (tIfS (tTest (tOp (uEq K) (tOp (uIx K) (tVar 5) (tC (.int 13))) (tC (.int 1)))) (tSeq (tAsg (tOp (uIx K) (tVar 8) (tOp uMod (tOp (uIx K) (tVar 5) (tC (.int 14))) (tVar 6))) (gName 17)) (tAsg (tOp uMod (tOp (uIx K) (tVar 5) (tC (.int 16))) (tVar 6)) (gSub (tVar 17) (tOp uMod (tOp (uIx K) (tVar 5) (tC (.int 15))) (tVar 3)) rSetL))) tNext)))))) tNext) (tSeq (tAsg (tOp (uIx K) (tLst (tCons (tC (.int 16)) (tCons (tC (.int 4)) (tCons (tC (.int 2)) tNil)))) (tOp (uIx K) (tVar 4) (tC (.int 2)))) (gName 9)) (tSeq (tAsg (tLc (iRng1 (tCons (tVar 6) tNil)) (gName 12) tYes (tCall (sp_law_marks K) [] E0 (tCons (tOp (uIx K) (tVar 0) (tC (.int 2))) (tCons (tOp uMod (tOp (uIx K) (tVar 4) (tOp (uAdd K) (tC (.int 27)) (tVar 12))) (tVar 9)) tNil))) [12]) (gName 10)) (tSeq (tAsg (tLst tNil) (gName 11)) (tSeq (tFor (iRng1 (tCons (tVar 6) tNil)) (gName 12) (tDrop (tBM K "list" rInsert (tVar 11) (tCons (tOp (uIx K) (tVar 5) (tVar 12)) (tCons (tVar 12) tNil))))) (tSeq (tAsg (tLc (iUni K (tVar 7)) (gName 12) tYes (tBM K "list" (rIndex K) (tVar 11) (tCons (tVar 12) tNil)) [12]) (gName 7)) (tSeq (tAsg (tLc (iUni K (tVar 11)) (gName 18) tYes (tLc (iUni K (tOp (uIx K) (tVar 8) (tVar 18))) (gName 12) tYes (tBM K "list" (rIndex K) (tVar 11) (tCons (tVar 12) tNil)) [12]) [18]) (gName 8)) (tRet (tLst (tCons (tVar 7) (tCons (tVar 8) (tCons (tLc (iUni K (tVar 11)) (gName 18) tYes (tOp (uIx K) (tVar 10) (tVar 18)) [18]) tNil)))))))))))))))))))
def N_law_table : List PySem.Str := ["signs", "cell", "other", "wide", "row", "more", "many", "begins", "lines", "tone", "texts", "order", "state", "last", "slots", "k", "slot", "line", "old", "sign"]
/-- _law_large -/
def t_law_large (K : PySem.W.Frag) : TS :=
  (tSeq (tAsg (tCall (sp_law_digits K) [] E0 (tCons (tVar 1) (tCons (tLst (tCons (tC (.int 361)) (tCons (tC (.int 400)) (tCons (tC (.int 400)) (tCons (tC (.int 400)) (tCons (tC (.int 16)) (tCons (tC (.int 400)) (tCons (tC (.int 400)) tNil)))))))) tNil))) (gName 2)) (tSeq (tAsg (tOp (uAdd K) (tC (.int 40)) (tOp (uIx K) (tVar 2) (tC (.int 0)))) (gName 3)) (tSeq (tAsg (tLc (iRng1 (tCons (tCB (uLen K) (tCons (tOp (uIx K) (tVar 0) (tC (.int 1))) tNil)) tNil)) (gName 9) tYes (tOp uMod (tOp (uIx K) (tVar 2) (tOp (uAdd K) (tC (.int 1)) (tVar 9))) (tVar 3)) [9]) (gName 4)) (tSeq (tAsg (tLst tNil) (gName 5)) (tSeq (tFor (iRng1 (tCons (tVar 3) tNil)) (gName 6) (tSeq (tAsg (tLst (tCons (tOp uMod (tOp (uAdd K) (tVar 6) (tC (.int 1))) (tVar 3)) (tCons (tOp uMod (tOp (uAdd K) (tOp (uMul K) (tC (.int 2)) (tVar 6)) (tOp (uIx K) (tVar 2) (tC (.int 5)))) (tVar 3)) (tCons (tOp uMod (tOp (uAdd K) (tOp (uMul K) (tVar 6) (tVar 6)) (tOp (uIx K) (tVar 2) (tC (.int 6)))) (tVar 3)) tNil)))) (gName 8)) (tDrop (tBM K "list" rAppend (tVar 5) (tCons (tSl (uSl K) (tVar 8) tNoPart (tPart (tCB (uLen K) (tCons (tOp (uIx K) (tVar 0) (tC (.int 0))) tNil)))) tNil))))) (tSeq (tAsg (tLc (iRng1 (tCons (tVar 3) tNil)) (gName 6) tYes (tCall (sp_law_marks K) [] E0 (tCons (tOp (uIx K) (tVar 0) (tC (.int 2))) (tCons (tOp uMod (tOp (uAdd K) (tOp (uAdd K) (tOp (uMul K) (tVar 6) (tVar 6)) (tOp (uMul K) (tOp (uIx K) (tVar 2) (tC (.int 4))) (tVar 6))) (tOp uFdv (tVar 6) (tC (.int 3)))) (tC (.int 16))) tNil))) [6]) (gName 7)) (tRet (tLst (tCons (tVar 4) (tCons (tVar 5) (tCons (tVar 7) tNil)))))))))))
def N_law_large : List PySem.Str := ["signs", "cell", "row", "many", "begins", "lines", "state", "texts", "line", "k"]
/-- _law_hand -/
def t_law_hand (K : PySem.W.Frag) : TS :=
  (tSeq (tAsg (tCB (uList K) (tCons (tOp (uIx K) (tVar 0) (tC (.int 0))) tNil)) (gName 2)) (tSeq (tAsg (tLc (iUni K (tOp (uIx K) (tVar 0) (tC (.int 1)))) (gName 5) tYes (tCB (uList K) (tCons (tVar 5) tNil)) [5]) (gName 3)) (tSeq (tAsg (tCB (uList K) (tCons (tOp (uIx K) (tVar 0) (tC (.int 2))) tNil)) (gName 4)) (C8.tCut (tIfS (tTest (tOp (uEq K) (tOp uMod (tOp uFdv (tVar 1) (tC (.int 2))) (tC (.int 2))) (tC (.int 1)))) (tAsg (tLc (iUni K (tVar 3)) (gName 5) tYes (tCB (uTuple K) (tCons (tVar 5) tNil)) [5]) (gName 3)) tNext) (C8.tCut (tIfS (tTest (tOp (uEq K) (tOp uMod (tOp uFdv (tVar 1) (tC (.int 4))) (tC (.int 2))) (tC (.int 1)))) (tAsg (tCB (uTuple K) (tCons (tVar 3) tNil)) (gName 3)) tNext) (C8.tCut (tIfS (tTest (tOp (uEq K) (tOp uMod (tVar 1) (tC (.int 2))) (tC (.int 1)))) (tAsg (tCB (uTuple K) (tCons (tVar 2) tNil)) (gName 2)) tNext) (C8.tCut (tIfS (tTest (tOp (uEq K) (tOp uMod (tOp uFdv (tVar 1) (tC (.int 8))) (tC (.int 2))) (tC (.int 1)))) (tAsg (tCB (uTuple K) (tCons (tVar 4) tNil)) (gName 4)) tNext) (tRet (tLst (tCons (tVar 2) (tCons (tVar 3) (tCons (tVar 4) tNil))))))))))))
def N_law_hand : List PySem.Str := ["table", "way", "begins", "lines", "texts", "line"]
/-- _law_fields -/
def t_law_fields (K : PySem.W.Frag) : TS :=
  (tRet (tTup (tCons (tOp (uIx K) (tVar 0) (tC (.int 0))) (tCons (tOp (uIx K) (tVar 0) (tC (.int 1))) (tCons (tCB (uTuple K) (tCons (tOp (uIx K) (tVar 1) (tC (.int 0))) tNil)) (tCons (tCB (uTuple K) (tCons (tLc (iUni K (tOp (uIx K) (tVar 1) (tC (.int 1)))) (gName 2) tYes (tCB (uTuple K) (tCons (tVar 2) tNil)) [2]) tNil)) (tCons (tCB (uTuple K) (tCons (tOp (uIx K) (tVar 1) (tC (.int 2))) tNil)) tNil)))))))
def N_law_fields : List PySem.Str := ["signs", "table", "line"]
/-- _law_told_fields -/
def t_law_told_fields (K : PySem.W.Frag) : TS :=
  (tRet (tTup (tCons (tFld K (tVar 0) "steps") (tCons (tFld K (tVar 0) "roots") (tCons (tFld K (tVar 0) "starts") (tCons (tFld K (tVar 0) "moves") (tCons (tFld K (tVar 0) "marked") tNil)))))))
def N_law_told_fields : List PySem.Str := ["world"]
/-- _law_at -/
def t_law_at (K : PySem.W.Frag) : TS :=
  (tSeq (tAsg (tOp (uIx K) (tOp (uIx K) (tVar 0) (tC (.int 2))) (tBM K "str" rSIndex (tOp (uIx K) (tVar 0) (tC (.int 1))) (tCons (tOp (uIx K) (tVar 1) (tC (.int 0))) tNil))) (gName 2)) (tSeq (tFor (iUni K (tSl (uSl K) (tVar 1) (tPart (tC (.int 1))) tNoPart)) (gName 3) (tAsg (tOp (uIx K) (tOp (uIx K) (tOp (uIx K) (tVar 0) (tC (.int 3))) (tVar 2)) (tBM K "str" rSIndex (tOp (uIx K) (tVar 0) (tC (.int 0))) (tCons (tVar 3) tNil))) (gName 2))) (tRet (tVar 2))))
def N_law_at : List PySem.Str := ["due", "spot", "state", "step"]
/-- _law_places -/
def t_law_places (K : PySem.W.Frag) : TS :=
  (tSeq (tAsg (tCB (uList K) (tCons (tOp (uIx K) (tVar 0) (tC (.int 1))) tNil)) (gName 2)) (tSeq (tAsg (tCB (uList K) (tCons (tOp (uIx K) (tVar 0) (tC (.int 1))) tNil)) (gName 3)) (tSeq (tFor (iRng1 (tCons (tVar 1) tNil)) (gName 4) (tSeq (tAsg (tLst tNil) (gName 5)) (tSeq (tFor (iUni K (tVar 3)) (gName 6) (tAsg (tOp (uAdd K) (tVar 5) (tLc (iUni K (tOp (uIx K) (tVar 0) (tC (.int 0)))) (gName 7) tYes (tOp (uAdd K) (tVar 6) (tVar 7)) [7])) (gName 5))) (tSeq (tAsg (tOp (uAdd K) (tVar 2) (tVar 5)) (gName 2)) (tAsg (tVar 5) (gName 3)))))) (tRet (tVar 2)))))
def N_law_places : List PySem.Str := ["due", "length", "found", "last", "turn", "grown", "spot", "step"]
/-- _law_reached -/
def t_law_reached (K : PySem.W.Frag) : TS :=
  (tSeq (tAsg tDNewK (gName 1)) (tSeq (tAsg (tLst tNil) (gName 2)) (tSeq (tFor (iUni K (tOp (uIx K) (tVar 0) (tC (.int 2)))) (gName 3) (tIfS (tB (tDNotIn (tVar 3) (tVar 1))) (tSeq (sDPut (tVar 1) (tVar 3) (tC (.bl true))) (tDrop (tBM K "list" rAppend (tVar 2) (tCons (tVar 3) tNil)))) tNext)) (tSeq (tFor (iRng1 (tCons (tC (.int 1000)) tNil)) (gName 4) (tSeq (tIfS (tTest (tOp uGe (tVar 4) (tCB (uLen K) (tCons (tVar 2) tNil)))) tBreak tNext) (tFor (iUni K (tOp (uIx K) (tOp (uIx K) (tVar 0) (tC (.int 3))) (tOp (uIx K) (tVar 2) (tVar 4)))) (gName 3) (tIfS (tB (tDNotIn (tVar 3) (tVar 1))) (tSeq (sDPut (tVar 1) (tVar 3) (tC (.bl true))) (tDrop (tBM K "list" rAppend (tVar 2) (tCons (tVar 3) tNil)))) tNext)))) (tRet (tCB (uTuple K) (tCons (tVar 2) tNil)))))))
def N_law_reached : List PySem.Str := ["due", "known", "order", "state", "at"]
/-- _law_wrong_string -/
def t_law_wrong_string (K : PySem.W.Frag) : TS :=
  (tSeq (tAsg (tLc (iUni K (tVar 1)) (gName 9) (tTest (tOp (uIn K true) (tVar 9) (tVar 0))) (tVar 9) [9]) (gName 5)) (tSeq (tAsg (tOp uMod (tVar 4) (tCB (uLen K) (tCons (tVar 5) tNil))) (gName 6)) (tSeq (tAsg (tOp (uAdd K) (tSl (uSl K) (tVar 5) (tPart (tVar 6)) tNoPart) (tSl (uSl K) (tVar 5) tNoPart (tPart (tVar 6)))) (gName 5)) (tSeq (tIfS (tTest (tOp (uEq K) (tVar 3) (tC (.int 0)))) (tRet (tC (.str ""))) tNext) (tSeq (tIfS (tTest (tOp (uEq K) (tVar 3) (tC (.int 1)))) (tRet (tM1 (rJoin K) (tC (.str "")) (tCB (uSorted K) (tCons (tSl (uSl K) (tOp (uAdd K) (tCB (uList K) (tCons (tVar 0) tNil)) (tVar 5)) tNoPart (tPart (tC (.int 4)))) tNil)))) tNext) (tSeq (tIfS (tTest (tOp (uEq K) (tVar 3) (tC (.int 2)))) (tSeq (tAsg (tCB (uSorted K) (tCons (tSl (uSl K) (tOp (uAdd K) (tCB (uList K) (tCons (tVar 0) tNil)) (tVar 5)) tNoPart (tPart (tCB (uMax) (tCons (tC (.int 2)) (tCons (tCB (uLen K) (tCons (tVar 0) tNil)) tNil))))) tNil)) (gName 7)) (tSeq (tAsg (tOp uMod (tVar 4) (tOp uSub (tCB (uLen K) (tCons (tVar 7) tNil)) (tC (.int 1)))) (gName 8)) (tRet (tM1 (rJoin K) (tC (.str "")) (tOp (uAdd K) (tOp (uAdd K) (tSl (uSl K) (tVar 7) tNoPart (tPart (tVar 8))) (tLst (tCons (tOp (uIx K) (tVar 7) (tOp (uAdd K) (tVar 8) (tC (.int 1)))) (tCons (tOp (uIx K) (tVar 7) (tVar 8)) tNil)))) (tSl (uSl K) (tVar 7) (tPart (tOp (uAdd K) (tVar 8) (tC (.int 2)))) tNoPart)))))) tNext) (tSeq (tIfS (tTest (tOp (uEq K) (tVar 3) (tC (.int 3)))) (tRet (tM1 (rJoin K) (tC (.str "")) (tCB (uSorted K) (tCons (tOp (uAdd K) (tCB (uList K) (tCons (tSl (uSl K) (tVar 0) tNoPart (tPart (tC (.int 2)))) tNil)) (tLst (tCons (tOp (uIx K) (tVar 0) (tOp uMod (tVar 4) (tCB (uMin) (tCons (tC (.int 2)) (tCons (tCB (uLen K) (tCons (tVar 0) tNil)) tNil))))) tNil))) tNil)))) tNext) (tRet (tM1 (rJoin K) (tC (.str "")) (tCB (uSorted K) (tCons (tOp (uAdd K) (tCB (uList K) (tCons (tSl (uSl K) (tVar 0) tNoPart (tPart (tC (.int 2)))) tNil)) (tLst (tCons (tOp (uIx K) (tVar 2) (tOp uMod (tVar 4) (tCB (uLen K) (tCons (tVar 2) tNil)))) tNil))) tNil)))))))))))
def N_law_wrong_string : List PySem.Str := ["text", "signs", "strange", "kind", "turn", "extra", "at", "row", "k", "sign"]
/-- _law_wrong_marked -/
def t_law_wrong_marked (K : PySem.W.Frag) : TS :=
  (tSeq (tIfS (tTest (tOp (uEq K) (tVar 1) (tC (.int 0)))) (tRet (tTup tNil)) tNext) (tSeq (tAsg (tOp uMod (tVar 2) (tCB (uLen K) (tCons (tVar 0) tNil))) (gName 4)) (tSeq (tAsg (tC (.str "ABCDEFGHIJKLMNOPQRSTUVWXYZ")) (gName 5)) (tSeq (tAsg (tOp (uIx K) (tVar 0) (tVar 4)) (gName 6)) (C8.tCut (tIfS (tTest (tOp (uEq K) (tVar 6) (tC (.str "")))) (tAsg (tOp (uIx K) (tVar 5) (tOp uMod (tVar 3) (tC (.int 26)))) (gName 6)) tNext) (tSeq (tAsg (tCall (sp_law_wrong_string K) [] E0 (tCons (tVar 6) (tCons (tVar 5) (tCons (tC (sv [112, 64, 91, 48, 32, 10, 45, 120, 97])) (tCons (tOp (uAdd K) (tVar 1) (tC (.int 1))) (tCons (tVar 3) tNil)))))) (gName 6)) (tRet (tOp (uAdd K) (tOp (uAdd K) (tSl (uSl K) (tVar 0) tNoPart (tPart (tVar 4))) (tTup (tCons (tVar 6) tNil))) (tSl (uSl K) (tVar 0) (tPart (tOp (uAdd K) (tVar 4) (tC (.int 1)))) tNoPart)))))))))
def N_law_wrong_marked : List PySem.Str := ["texts", "kind", "at", "turn", "state", "capitals", "text"]
/-- _law_wrong_moves -/
def t_law_wrong_moves (K : PySem.W.Frag) : TS :=
  (tSeq (tAsg (tCB (uLen K) (tCons (tVar 0) tNil)) (gName 4)) (tSeq (tAsg (tLc (iUni K (tVar 0)) (gName 7) tYes (tCB (uList K) (tCons (tVar 7) tNil)) [7]) (gName 5)) (tSeq (tAsg (tOp uMod (tVar 2) (tVar 4)) (gName 6)) (tSeq (tAsg (tOp (uIx K) (tVar 5) (tVar 6)) (gName 7)) (tSeq (tAsg (tOp uMod (tVar 3) (tCB (uLen K) (tCons (tVar 7) tNil))) (gName 8)) (C8.tCut (tIfS (tTest (tOp (uEq K) (tVar 1) (tC (.int 0)))) (tDrop (tBM K "list" rPopAt (tVar 5) (tCons (tVar 6) tNil))) (tIfS (tTest (tOp (uEq K) (tVar 1) (tC (.int 1)))) (tDrop (tBM K "list" rInsert (tVar 5) (tCons (tVar 6) (tCons (tCB (uList K) (tCons (tVar 7) tNil)) tNil)))) (tIfS (tOr (tTest (tOp (uEq K) (tVar 1) (tC (.int 2)))) (tAnd (tTest (tOp (uEq K) (tVar 1) (tC (.int 8)))) (tTest (tOp (uEq K) (tVar 4) (tC (.int 1)))))) (tDrop (tBM K "list" rPopAt (tVar 7) (tCons (tVar 8) tNil))) (tIfS (tTest (tOp (uEq K) (tVar 1) (tC (.int 3)))) (tDrop (tBM K "list" rInsert (tVar 7) (tCons (tVar 8) (tCons (tOp (uIx K) (tVar 7) (tVar 8)) tNil)))) (tIfS (tTest (tOp (uEq K) (tVar 1) (tC (.int 4)))) (tAsg (tVar 4) (gSub (tVar 7) (tVar 8) rSetL)) (tIfS (tTest (tOp (uEq K) (tVar 1) (tC (.int 5)))) (tAsg (tUn uNeg (tC (.int 1))) (gSub (tVar 7) (tVar 8) rSetL)) (tIfS (tTest (tOp (uEq K) (tVar 1) (tC (.int 6)))) (tAsg (tOp (uAdd K) (tOp (uAdd K) (tVar 4) (tC (.int 1))) (tVar 3)) (gSub (tVar 7) (tVar 8) rSetL)) (tIfS (tTest (tOp (uEq K) (tVar 1) (tC (.int 7)))) (tAsg (tOp uSub (tOp uSub (tC (.int 0)) (tVar 4)) (tVar 3)) (gSub (tVar 7) (tVar 8) rSetL)) (tSeq (tDrop (tBM K "list" rPopAt (tVar 7) (tCons (tVar 8) tNil))) (tDrop (tBM K "list" rAppend (tOp (uIx K) (tVar 5) (tOp uMod (tOp (uAdd K) (tVar 6) (tC (.int 1))) (tVar 4))) (tCons (tC (.int 0)) tNil)))))))))))) (tRet (tVar 5))))))))
def N_law_wrong_moves : List PySem.Str := ["lines", "kind", "at", "turn", "many", "rows", "state", "line", "k"]
/-- _law_wrong_starts -/
def t_law_wrong_starts (K : PySem.W.Frag) : TS :=
  (tSeq (tAsg (tCB (uList K) (tCons (tVar 0) tNil)) (gName 4)) (tSeq (tAsg (tOp uMod (tVar 3) (tCB (uLen K) (tCons (tVar 4) tNil))) (gName 5)) (C8.tCut (tIfS (tTest (tOp (uEq K) (tVar 2) (tC (.int 0)))) (tDrop (tBM K "list" rPopAt (tVar 4) (tCons (tVar 5) tNil))) (tIfS (tTest (tOp (uEq K) (tVar 2) (tC (.int 1)))) (tDrop (tBM K "list" rInsert (tVar 4) (tCons (tVar 5) (tCons (tOp (uIx K) (tVar 4) (tVar 5)) tNil)))) (tAsg (tOp (uIx K) (tLst (tCons (tVar 1) (tCons (tUn uNeg (tC (.int 1))) (tCons (tOp (uAdd K) (tOp (uAdd K) (tVar 1) (tC (.int 1))) (tVar 3)) (tCons (tOp uSub (tOp uSub (tC (.int 0)) (tVar 1)) (tVar 3)) tNil))))) (tOp uSub (tVar 2) (tC (.int 2)))) (gSub (tVar 4) (tVar 5) rSetL)))) (tRet (tVar 4)))))
def N_law_wrong_starts : List PySem.Str := ["begins", "many", "kind", "turn", "row", "k"]
/-- least_places_of -/
def t_least_places_of (K : PySem.W.Frag) : TS :=
  (tSeq (tAsg tDNewK (gName 4)) (tSeq (tAsg (tLc (iZipS K (tCons (tVar 2) (tCons (tVar 1) tNil))) (gTup K 2 (gCons (gName 9) (gCons (gName 10) gNil))) tYes (tTup (tCons (tVar 9) (tCons (tVar 10) tNil))) [9, 10]) (gName 5)) (tSeq (tWhile (tTru K (tVar 5)) (tSeq (tAsg (tLst tNil) (gName 6)) (tSeq (tFor (iUni K (tVar 5)) (gTup K 2 (gCons (gName 7) (gCons (gName 8) gNil))) (tIfS (tB (tDNotIn (tVar 7) (tVar 4))) (tSeq (sDPut (tVar 4) (tVar 7) (tVar 8)) (tDrop (tBM K "list" rExtend (tVar 6) (tCons (tLc (iZipS K (tCons (tOp (uIx K) (tVar 3) (tVar 7)) (tCons (tVar 0) tNil))) (gTup K 2 (gCons (gName 11) (gCons (gName 12) gNil))) tYes (tTup (tCons (tVar 11) (tCons (tOp (uAdd K) (tVar 8) (tVar 12)) tNil))) [11, 12]) tNil)))) tNext)) (tAsg (tCB (uList K) (tCons (tVar 6) tNil)) (gName 5))))) (tRet (tVar 4)))))
def N_least_places_of : List PySem.Str := ["steps", "roots", "starts", "moves", "found", "waiting", "later", "state", "place", "start", "root", "target", "step"]
end K39
set_option Elab.async false
set_option linter.all false
set_option maxRecDepth 100000
set_option maxHeartbeats 4000000
namespace K39
open PySem L2 PySem.Spec PyProof.Rows Uni
structure Tx (K : PySem.W.Frag) (mg : Str → Option Value) : Prop where
  bool : mg "bool" = none
  int : mg "int" = none
  isinstance : mg "isinstance" = none
  len : mg "len" = none
  list : mg "list" = none
  max : mg "max" = none
  min : mg "min" = none
  range : mg "range" = none
  sorted : mg "sorted" = none
  str : mg "str" = none
  tuple : mg "tuple" = none
  zip : mg "zip" = none
  k_ROOTS : ∃ u, mg "ROOTS" = some u ∧ RelV (.str "0123456789") u
  k_STEPS : ∃ u, mg "STEPS" = some u ∧ RelV (.str "abcdefghijklmnopqrstuvwyz") u
  k_MARKS : ∃ u, mg "MARKS" = some u ∧ RelV (.str "ABCDEFGHIJKLMNOPQRSTUVWXYZ") u
  k_MOST_SIGNS : ∃ u, mg "MOST_SIGNS" = some u ∧ RelV (.int 3) u
  g_lists_signs : mg "lists_signs" = some (.ref (He.ga K "lists_signs"))
  g_lists_marks : mg "lists_marks" = some (.ref (He.ga K "lists_marks"))
  g_are_states : mg "are_states" = some (.ref (He.ga K "are_states"))
  g_law_whole : mg "_law_whole" = some (.ref (He.ga K "_law_whole"))
  g_law_cell : mg "_law_cell" = some (.ref (He.ga K "_law_cell"))
  g_law_digits : mg "_law_digits" = some (.ref (He.ga K "_law_digits"))
  g_law_same : mg "_law_same" = some (.ref (He.ga K "_law_same"))
  g_law_signs : mg "_law_signs" = some (.ref (He.ga K "_law_signs"))
  g_law_marks : mg "_law_marks" = some (.ref (He.ga K "_law_marks"))
  g_law_table : mg "_law_table" = some (.ref (He.ga K "_law_table"))
  g_law_large : mg "_law_large" = some (.ref (He.ga K "_law_large"))
  g_law_hand : mg "_law_hand" = some (.ref (He.ga K "_law_hand"))
  g_law_fields : mg "_law_fields" = some (.ref (He.ga K "_law_fields"))
  g_law_told_fields : mg "_law_told_fields" = some (.ref (He.ga K "_law_told_fields"))
  g_law_at : mg "_law_at" = some (.ref (He.ga K "_law_at"))
  g_law_places : mg "_law_places" = some (.ref (He.ga K "_law_places"))
  g_law_reached : mg "_law_reached" = some (.ref (He.ga K "_law_reached"))
  g_law_wrong_string : mg "_law_wrong_string" = some (.ref (He.ga K "_law_wrong_string"))
  g_law_wrong_marked : mg "_law_wrong_marked" = some (.ref (He.ga K "_law_wrong_marked"))
  g_law_wrong_moves : mg "_law_wrong_moves" = some (.ref (He.ga K "_law_wrong_moves"))
  g_law_wrong_starts : mg "_law_wrong_starts" = some (.ref (He.ga K "_law_wrong_starts"))
  g_least_places_of : mg "least_places_of" = some (.ref (He.ga K "least_places_of"))
/-- a def of the top as the head leaves it -/
abbrev FnP (K : PySem.W.Frag) (x : Str) (st : Stmt) : Prop := ∃ fd, FunD K x x (defArgs st) (defBody st) (defScope st) [] [] (He.ga K x) fd
section
variable {P : Program} {w : World} {K : PySem.W.Frag} {mg : Str → Option Value} {base : Heap}
theorem calF {x : Str} {st : Stmt} {N ps : List Str} {k : Nat} {sp : Sp} {t : TS} (F : FnP K x st) (g : mg x = some (.ref (He.ga K x))) (S : FnScope N ps (defScope st)) (len : ∀ vs H Q E, sp vs H Q E → vs.length = ps.length)
    (hb : ∀ (kV doc pm : Value) (an : Option Addr) (cdv ct : Value) (us : List Value), us.length = ps.length → bindArgs (PySem.W.fnOf x x (defArgs st) (defBody st) (defScope st) .none kV doc pm an cdv ct) ⟨us, []⟩ = pure (ps.zip us))
    (body : ∀ (cdv : Value) (A : Around) (outer : List Env) (s : Shared) (H : Hp) (E : XK), Room k (A.deeper (envOfC x (defScope st) s.heap.objs.size (He.ga K x) cdv)) → PSs (cxOf CX0 P w K mg base N x (defScope st) (He.ga K x) cdv A outer s H E).nox (defBody st) t)
    (pu : ∀ vs H Q E, sp vs H Q E → t { nx := fun _ H' => Q .non H', rt := Q } (start N vs) H) : C8.Cal P w K mg base (k + 1) x sp [] := by
  obtain ⟨fd, F⟩ := F
  have G : FnOk P w K mg base CX0 (k + 1) (He.ga K x) fd ps sp := F.ok S len fun cdv A outer s H vs Q E hr h => ⟨t, (body cdv A outer s H E hr).nox, pu vs H Q E h⟩
  exact ⟨He.ga K x, fd, ps, [], G, g, F.kp, FunD.bindsN F fun kV doc pm an cdv ct us hl => hb kV doc pm an cdv ct us hl, .nil⟩
end
end K39
set_option Elab.async false
set_option linter.all false
set_option maxRecDepth 100000
set_option maxHeartbeats 4000000
namespace K39
open PySem L2 PySem.Spec PyProof.Rows Uni
section
variable {P : Program} {w : World} {K : PySem.W.Frag} {mg : Str → Option Value} {base : Heap}
theorem sc_lists_signs : FnScope N_lists_signs ["text", "allowed"] (defScope (top 30)) := ⟨rfl, rfl, rfl, by decide +kernel, rfl, by decide +kernel, by decide +kernel⟩
theorem pf_lists_signs (T : Tx K mg) {f : Addr} {cdv : Value} {A : Around} {outer : List Env} {s : Shared} {H : Hp} {E : XK} (hr : Room 1 (A.deeper (envOfC "lists_signs" (defScope (top 30)) s.heap.objs.size f cdv))) :
    PSs (cxOf CX0 P w K mg base N_lists_signs "lists_signs" (defScope (top 30)) f cdv A outer s H E).nox (defBody (top 30)) (t_lists_signs K) := by
  have nd := (sc_lists_signs).nd
  exact (pss_cons (ps_if (pt_not (pt_chain op_uLe op_uLe pe_int (pe_callB call_uLen (by rfl) T.len (by decide +kernel) (pa_cons (pv 0) pa_nil)) (C8.pe_gc (by rfl) T.k_MOST_SIGNS))) (pss_one (ps_ret pe_bl)) pss_nil)
      (pss_cons (ps_for PassesOwn.never rfl (pi_range1 (by rfl) T.range (pa_cons (pe_callB call_uLen (by rfl) T.len (by decide +kernel) (pa_cons (pv 0) pa_nil)) pa_nil)) (pg_name (i := 2) nd rfl (by first | exact Or.inl rfl | exact Or.inr rfl)) (pss_one (ps_if (PW.pt (pw_or (pt_cmpR op_uNotIn (pe_ix ix_u (pv 0) (pv 2) (fun _ _ => rfl)) (pv 1) (by with_unfolding_all rfl)) (pw_or1 (PW.pt (pw_and (pt_cmpR op_uGt (pv 2) pe_int (nomark _)) (pw_and1 (pt_not (pt_cmpR op_uLt (pe_ix ix_u (pv 0) (pe_op op_uSub (pv 2) pe_int) (fun _ _ => rfl)) (pe_ix ix_u (pv 0) (pv 2) (fun _ _ => rfl)) (nomark _))))))))) (pss_one (ps_ret pe_bl)) pss_nil)))
      (pss_one (ps_ret pe_bl))))
theorem cal_lists_signs (T : Tx K mg) (F : FnP K "lists_signs" (top 30)) (pu : ∀ vs H Q E, sp_lists_signs K vs H Q E → t_lists_signs K { nx := fun _ H' => Q .non H', rt := Q } (start N_lists_signs vs) H) (len : ∀ vs H Q E, sp_lists_signs K vs H Q E → vs.length = 2) : C8.Cal P w K mg base 2 "lists_signs" (sp_lists_signs K) [] :=
  calF F (T.g_lists_signs) sc_lists_signs len (fun _ _ _ _ _ _ us hl => match us, hl with | [_, _], _ => rfl) (fun cdv A outer s H E hr => pf_lists_signs T  hr) pu
theorem sc_lists_marks : FnScope N_lists_marks ["text"] (defScope (top 33)) := ⟨rfl, rfl, rfl, by decide +kernel, rfl, by decide +kernel, by decide +kernel⟩
theorem pf_lists_marks (T : Tx K mg) {f : Addr} {cdv : Value} {A : Around} {outer : List Env} {s : Shared} {H : Hp} {E : XK} (hr : Room 1 (A.deeper (envOfC "lists_marks" (defScope (top 33)) s.heap.objs.size f cdv))) :
    PSs (cxOf CX0 P w K mg base N_lists_marks "lists_marks" (defScope (top 33)) f cdv A outer s H E).nox (defBody (top 33)) (t_lists_marks K) := by
  have nd := (sc_lists_marks).nd
  exact (pss_cons (ps_for PassesOwn.never rfl (pi_range1 (by rfl) T.range (pa_cons (pe_callB call_uLen (by rfl) T.len (by decide +kernel) (pa_cons (pv 0) pa_nil)) pa_nil)) (pg_name (i := 1) nd rfl (by first | exact Or.inl rfl | exact Or.inr rfl)) (pss_one (ps_if (PW.pt (pw_or (pt_cmpR op_uNotIn (pe_ix ix_u (pv 0) (pv 1) (fun _ _ => rfl)) (C8.pe_gc (by rfl) T.k_MARKS) (by with_unfolding_all rfl)) (pw_or1 (PW.pt (pw_and (pt_cmpR op_uGt (pv 1) pe_int (nomark _)) (pw_and1 (pt_not (pt_cmpR op_uLt (pe_ix ix_u (pv 0) (pe_op op_uSub (pv 1) pe_int) (fun _ _ => rfl)) (pe_ix ix_u (pv 0) (pv 1) (fun _ _ => rfl)) (nomark _))))))))) (pss_one (ps_ret pe_bl)) pss_nil)))
      (pss_one (ps_ret pe_bl)))
theorem cal_lists_marks (T : Tx K mg) (F : FnP K "lists_marks" (top 33)) (pu : ∀ vs H Q E, sp_lists_marks K vs H Q E → t_lists_marks K { nx := fun _ H' => Q .non H', rt := Q } (start N_lists_marks vs) H) (len : ∀ vs H Q E, sp_lists_marks K vs H Q E → vs.length = 1) : C8.Cal P w K mg base 2 "lists_marks" (sp_lists_marks K) [] :=
  calF F (T.g_lists_marks) sc_lists_marks len (fun _ _ _ _ _ _ us hl => match us, hl with | [_], _ => rfl) (fun cdv A outer s H E hr => pf_lists_marks T  hr) pu
theorem sc_are_states : FnScope N_are_states ["numbers", "count", "many"] (defScope (top 34)) := ⟨rfl, rfl, rfl, by decide +kernel, rfl, by decide +kernel, by decide +kernel⟩
theorem pf_are_states (T : Tx K mg) {f : Addr} {cdv : Value} {A : Around} {outer : List Env} {s : Shared} {H : Hp} {E : XK} (hr : Room 1 (A.deeper (envOfC "are_states" (defScope (top 34)) s.heap.objs.size f cdv))) :
    PSs (cxOf CX0 P w K mg base N_are_states "are_states" (defScope (top 34)) f cdv A outer s H E).nox (defBody (top 34)) (t_are_states K) := by
  have nd := (sc_are_states).nd
  exact (pss_cons (ps_if (pt_cmpR (op_uNe hr.units) (pe_callB call_uLen (by rfl) T.len (by decide +kernel) (pa_cons (pv 0) pa_nil)) (pv 1) (nomark _)) (pss_one (ps_ret pe_bl)) pss_nil)
      (pss_cons (ps_for PassesOwn.never rfl (pi_uni (pv 0)) (pg_name (i := 3) nd rfl (by first | exact Or.inl rfl | exact Or.inr rfl)) (pss_one (ps_if (pt_not (pt_chain op_uLe op_uLt pe_int (pv 3) (pv 2))) (pss_one (ps_ret pe_bl)) pss_nil)))
      (pss_one (ps_ret pe_bl))))
theorem cal_are_states (T : Tx K mg) (F : FnP K "are_states" (top 34)) (pu : ∀ vs H Q E, sp_are_states K vs H Q E → t_are_states K { nx := fun _ H' => Q .non H', rt := Q } (start N_are_states vs) H) (len : ∀ vs H Q E, sp_are_states K vs H Q E → vs.length = 3) : C8.Cal P w K mg base 2 "are_states" (sp_are_states K) [] :=
  calF F (T.g_are_states) sc_are_states len (fun _ _ _ _ _ _ us hl => match us, hl with | [_, _, _], _ => rfl) (fun cdv A outer s H E hr => pf_are_states T  hr) pu
theorem sc_law_whole : FnScope N_law_whole ["value"] (defScope (top 39)) := ⟨rfl, rfl, rfl, by decide +kernel, rfl, by decide +kernel, by decide +kernel⟩
theorem pf_law_whole (T : Tx K mg) {f : Addr} {cdv : Value} {A : Around} {outer : List Env} {s : Shared} {H : Hp} {E : XK} (hr : Room 1 (A.deeper (envOfC "_law_whole" (defScope (top 39)) s.heap.objs.size f cdv))) :
    PSs (cxOf CX0 P w K mg base N_law_whole "_law_whole" (defScope (top 39)) f cdv A outer s H E).nox (defBody (top 39)) (t_law_whole K) := by
  have nd := (sc_law_whole).nd
  exact (pss_one (ps_ret (pe_and (pe_callB call_isi (by rfl) T.isinstance (by decide +kernel) (pa_cons (pv 0) (pa_cons (pe_bltn (v := .ty "int") (by rfl) T.int (by decide +kernel) rfl) pa_nil))) (pe_one (pe_not (pe_callB call_isi (by rfl) T.isinstance (by decide +kernel) (pa_cons (pv 0) (pa_cons (pe_bltn (v := .ty "bool") (by rfl) T.bool (by decide +kernel) rfl) pa_nil))))))))
theorem cal_law_whole (T : Tx K mg) (F : FnP K "_law_whole" (top 39)) (pu : ∀ vs H Q E, sp_law_whole K vs H Q E → t_law_whole K { nx := fun _ H' => Q .non H', rt := Q } (start N_law_whole vs) H) (len : ∀ vs H Q E, sp_law_whole K vs H Q E → vs.length = 1) : C8.Cal P w K mg base 2 "_law_whole" (sp_law_whole K) [] :=
  calF F (T.g_law_whole) sc_law_whole len (fun _ _ _ _ _ _ us hl => match us, hl with | [_], _ => rfl) (fun cdv A outer s H E hr => pf_law_whole T  hr) pu
theorem sc_law_cell : FnScope N_law_cell ["script", "k"] (defScope (top 40)) := ⟨rfl, rfl, rfl, by decide +kernel, rfl, by decide +kernel, by decide +kernel⟩
theorem pf_law_cell (T : Tx K mg) {f : Addr} {cdv : Value} {A : Around} {outer : List Env} {s : Shared} {H : Hp} {E : XK} (hr : Room 1 (A.deeper (envOfC "_law_cell" (defScope (top 40)) s.heap.objs.size f cdv))) :
    PSs (cxOf CX0 P w K mg base N_law_cell "_law_cell" (defScope (top 40)) f cdv A outer s H E).nox (defBody (top 40)) (t_law_cell K) := by
  have nd := (sc_law_cell).nd
  exact (pss_cons (ps_if (pt_cmpR op_uLt (pv 1) (pe_callB call_uLen (by rfl) T.len (by decide +kernel) (pa_cons (pv 0) pa_nil)) (nomark _)) (pss_one (ps_ret (pe_ix ix_u (pv 0) (pv 1) (fun _ _ => rfl)))) pss_nil)
      (pss_cons (ps_set (i := 2) nd rfl (by first | exact Or.inl rfl | exact Or.inr rfl) pe_int)
      (pss_cons (ps_for PassesOwn.never rfl (pi_uni (pv 0)) (pg_name (i := 3) nd rfl (by first | exact Or.inl rfl | exact Or.inr rfl)) (pss_one (ps_set (i := 2) nd rfl (by first | exact Or.inl rfl | exact Or.inr rfl) (pe_op op_uMod (pe_callTy call_uInt (by rfl) T.int (by decide +kernel) (pa_cons (pe_op op_uAdd (pe_op op_uMul (pv 2) pe_int) (pe_op op_uMod (pe_callTy call_uInt (by rfl) T.int (by decide +kernel) (pa_cons (pv 3) pa_nil)) pe_int)) pa_nil)) pe_int))))
      (pss_one (ps_ret (pe_op op_uMod (pe_callTy call_uInt (by rfl) T.int (by decide +kernel) (pa_cons (pe_op op_uMul (pe_op op_uMul (pe_op op_uAdd (pv 2) pe_int) (pe_op op_uAdd (pv 1) pe_int)) pe_int) pa_nil)) pe_int))))))
theorem cal_law_cell (T : Tx K mg) (F : FnP K "_law_cell" (top 40)) (pu : ∀ vs H Q E, sp_law_cell K vs H Q E → t_law_cell K { nx := fun _ H' => Q .non H', rt := Q } (start N_law_cell vs) H) (len : ∀ vs H Q E, sp_law_cell K vs H Q E → vs.length = 2) : C8.Cal P w K mg base 2 "_law_cell" (sp_law_cell K) [] :=
  calF F (T.g_law_cell) sc_law_cell len (fun _ _ _ _ _ _ us hl => match us, hl with | [_, _], _ => rfl) (fun cdv A outer s H E hr => pf_law_cell T  hr) pu
theorem sc_law_digits : FnScope N_law_digits ["cell", "sizes"] (defScope (top 41)) := ⟨rfl, rfl, rfl, by decide +kernel, rfl, by decide +kernel, by decide +kernel⟩
theorem pf_law_digits (T : Tx K mg) {f : Addr} {cdv : Value} {A : Around} {outer : List Env} {s : Shared} {H : Hp} {E : XK} (hr : Room 1 (A.deeper (envOfC "_law_digits" (defScope (top 41)) s.heap.objs.size f cdv))) :
    PSs (cxOf CX0 P w K mg base N_law_digits "_law_digits" (defScope (top 41)) f cdv A outer s H E).nox (defBody (top 41)) (t_law_digits K) := by
  have nd := (sc_law_digits).nd
  exact (pss_cons (ps_set (i := 2) nd rfl (by first | exact Or.inl rfl | exact Or.inr rfl) (pe_lst pa_nil))
      (pss_cons (ps_set (i := 3) nd rfl (by first | exact Or.inl rfl | exact Or.inr rfl) (pe_callTy call_uInt (by rfl) T.int (by decide +kernel) (pa_cons (pv 0) pa_nil)))
      (pss_cons (ps_if (pt_cmpR op_uGe (pv 3) (pe_op op_uPow pe_int pe_int) (nomark _)) (pss_cons (ps_set (i := 3) nd rfl (by first | exact Or.inl rfl | exact Or.inr rfl) (pe_op op_uSub (pv 3) (pe_op op_uPow pe_int pe_int)))
      (pss_cons (ps_for PassesOwn.never rfl (pi_uni (pv 1)) (pg_name (i := 6) nd rfl (by first | exact Or.inl rfl | exact Or.inr rfl)) (pss_cons (ps_expr (pe_bm PySem.F.plainAttrs_list PySem.F.slot_list_append PySem.F.type_list_append mt_append (pv 2) (pa_cons (pe_op op_uMod (pe_callTy call_uInt (by rfl) T.int (by decide +kernel) (pa_cons (pv 3) pa_nil)) (pv 6)) pa_nil)))
      (pss_one (ps_set (i := 3) nd rfl (by first | exact Or.inl rfl | exact Or.inr rfl) (pe_op op_uFdv (pe_callTy call_uInt (by rfl) T.int (by decide +kernel) (pa_cons (pv 3) pa_nil)) (pv 6))))))
      (pss_one (ps_ret (pv 2))))) pss_nil)
      (pss_cons (ps_set (i := 4) nd rfl (by first | exact Or.inl rfl | exact Or.inr rfl) (pe_op op_uMod (pe_callTy call_uInt (by rfl) T.int (by decide +kernel) (pa_cons (pv 3) pa_nil)) pe_int))
      (pss_cons (ps_for PassesOwn.never rfl (pi_range1 (by rfl) T.range (pa_cons (pe_callB call_uLen (by rfl) T.len (by decide +kernel) (pa_cons (pv 1) pa_nil)) pa_nil)) (pg_name (i := 5) nd rfl (by first | exact Or.inl rfl | exact Or.inr rfl)) (pss_cons (ps_set (i := 4) nd rfl (by first | exact Or.inl rfl | exact Or.inr rfl) (pe_op op_uMod (pe_callTy call_uInt (by rfl) T.int (by decide +kernel) (pa_cons (pe_op op_uAdd (pe_op op_uAdd (pe_op op_uMul (pv 4) pe_int) (pe_op op_uMul pe_int (pv 5))) pe_int) pa_nil)) pe_int))
      (pss_cons (ps_set (i := 7) nd rfl (by first | exact Or.inl rfl | exact Or.inr rfl) (pe_op op_uMod (pe_callTy call_uInt (by rfl) T.int (by decide +kernel) (pa_cons (pe_op op_uMul (pv 4) (pe_op op_uAdd (pe_op op_uFdv (pv 4) pe_int) pe_int)) pa_nil)) pe_int))
      (pss_one (ps_expr (pe_bm PySem.F.plainAttrs_list PySem.F.slot_list_append PySem.F.type_list_append mt_append (pv 2) (pa_cons (pe_op op_uMod (pe_op op_uFdv (pv 7) pe_int) (pe_ix ix_u (pv 1) (pv 5) (fun _ _ => rfl))) pa_nil)))))))
      (pss_one (ps_ret (pv 2))))))))
theorem cal_law_digits (T : Tx K mg) (F : FnP K "_law_digits" (top 41)) (pu : ∀ vs H Q E, sp_law_digits K vs H Q E → t_law_digits K { nx := fun _ H' => Q .non H', rt := Q } (start N_law_digits vs) H) (len : ∀ vs H Q E, sp_law_digits K vs H Q E → vs.length = 2) : C8.Cal P w K mg base 2 "_law_digits" (sp_law_digits K) [] :=
  calF F (T.g_law_digits) sc_law_digits len (fun _ _ _ _ _ _ us hl => match us, hl with | [_, _], _ => rfl) (fun cdv A outer s H E hr => pf_law_digits T  hr) pu
theorem sc_law_same : FnScope N_law_same ["told", "due"] (defScope (top 42)) := ⟨rfl, rfl, rfl, by decide +kernel, rfl, by decide +kernel, by decide +kernel⟩
theorem pf_law_same (T : Tx K mg) (c_law_whole : C8.Cal P w K mg base 2 "_law_whole" (sp_law_whole K) []) {f : Addr} {cdv : Value} {A : Around} {outer : List Env} {s : Shared} {H : Hp} {E : XK} (hr : Room 2 (A.deeper (envOfC "_law_same" (defScope (top 42)) s.heap.objs.size f cdv))) :
    PSs (cxOf CX0 P w K mg base N_law_same "_law_same" (defScope (top 42)) f cdv A outer s H E).nox (defBody (top 42)) (t_law_same K) := by
  have nd := (sc_law_same).nd
  exact (pss_cons (ps_set (i := 2) nd rfl (by first | exact Or.inl rfl | exact Or.inr rfl) (pe_lst (pa_cons (pe_tup (pa_cons (pv 0) (pa_cons (pv 1) pa_nil))) pa_nil)))
      (pss_cons (ps_for PassesOwn.never rfl (pi_range1 (by rfl) T.range (pa_cons pe_int pa_nil)) (pg_name (i := 3) nd rfl (by first | exact Or.inl rfl | exact Or.inr rfl)) (pss_cons (ps_if (pt_cmpR (op_uEq hr.units) (pe_callB call_uLen (by rfl) T.len (by decide +kernel) (pa_cons (pv 2) pa_nil)) pe_int (nomark _)) (pss_one (ps_ret pe_bl)) pss_nil)
      (pss_cons (ps_set (i := 4) nd rfl (by first | exact Or.inl rfl | exact Or.inr rfl) (pe_bm0 PySem.F.plainAttrs_list PySem.F.slot_list_pop PySem.F.type_list_pop mt_pop (pv 2)))
      (pss_one (ps_if (pt_val (pe_callB call_isi (by rfl) T.isinstance (by decide +kernel) (pa_cons (pe_ix ix_u (pv 4) pe_int (fun _ _ => rfl)) (pa_cons (pe_bltn (v := .ty "tuple") (by rfl) T.tuple (by decide +kernel) rfl) pa_nil)))) (pss_cons (ps_if (PW.pt (pw_or (pt_not (pt_val (pe_callB call_isi (by rfl) T.isinstance (by decide +kernel) (pa_cons (pe_ix ix_u (pv 4) pe_int (fun _ _ => rfl)) (pa_cons (pe_bltn (v := .ty "tuple") (by rfl) T.tuple (by decide +kernel) rfl) pa_nil))))) (pw_or1 (pt_cmpR (op_uNe hr.units) (pe_callB call_uLen (by rfl) T.len (by decide +kernel) (pa_cons (pe_ix ix_u (pv 4) pe_int (fun _ _ => rfl)) pa_nil)) (pe_callB call_uLen (by rfl) T.len (by decide +kernel) (pa_cons (pe_ix ix_u (pv 4) pe_int (fun _ _ => rfl)) pa_nil)) (nomark _))))) (pss_one (ps_ret pe_bl)) pss_nil)
      (pss_one (ps_for PassesOwn.never rfl (pi_range1 (by rfl) T.range (pa_cons (pe_callB call_uLen (by rfl) T.len (by decide +kernel) (pa_cons (pe_ix ix_u (pv 4) pe_int (fun _ _ => rfl)) pa_nil)) pa_nil)) (pg_name (i := 5) nd rfl (by first | exact Or.inl rfl | exact Or.inr rfl)) (pss_one (ps_expr (pe_bm PySem.F.plainAttrs_list PySem.F.slot_list_append PySem.F.type_list_append mt_append (pv 2) (pa_cons (pe_tup (pa_cons (pe_ix ix_u (pe_ix ix_u (pv 4) pe_int (fun _ _ => rfl)) (pv 5) (fun _ _ => rfl)) (pa_cons (pe_ix ix_u (pe_ix ix_u (pv 4) pe_int (fun _ _ => rfl)) (pv 5) (fun _ _ => rfl)) pa_nil))) pa_nil))))))) (pss_one (ps_if (pt_val (pe_callB call_isi (by rfl) T.isinstance (by decide +kernel) (pa_cons (pe_ix ix_u (pv 4) pe_int (fun _ _ => rfl)) (pa_cons (pe_bltn (v := .ty "str") (by rfl) T.str (by decide +kernel) rfl) pa_nil)))) (pss_one (ps_if (PW.pt (pw_or (pt_not (pt_val (pe_callB call_isi (by rfl) T.isinstance (by decide +kernel) (pa_cons (pe_ix ix_u (pv 4) pe_int (fun _ _ => rfl)) (pa_cons (pe_bltn (v := .ty "str") (by rfl) T.str (by decide +kernel) rfl) pa_nil))))) (pw_or1 (pt_cmpR (op_uNe hr.units) (pe_ix ix_u (pv 4) pe_int (fun _ _ => rfl)) (pe_ix ix_u (pv 4) pe_int (fun _ _ => rfl)) (nomark _))))) (pss_one (ps_ret pe_bl)) pss_nil)) (pss_one (ps_if (pt_val (pe_callB call_isi (by rfl) T.isinstance (by decide +kernel) (pa_cons (pe_ix ix_u (pv 4) pe_int (fun _ _ => rfl)) (pa_cons (pe_bltn (v := .ty "bool") (by rfl) T.bool (by decide +kernel) rfl) pa_nil)))) (pss_one (ps_if (PW.pt (pw_or (pt_not (pt_val (pe_callB call_isi (by rfl) T.isinstance (by decide +kernel) (pa_cons (pe_ix ix_u (pv 4) pe_int (fun _ _ => rfl)) (pa_cons (pe_bltn (v := .ty "bool") (by rfl) T.bool (by decide +kernel) rfl) pa_nil))))) (pw_or1 (pt_cmpR (op_uNe hr.units) (pe_ix ix_u (pv 4) pe_int (fun _ _ => rfl)) (pe_ix ix_u (pv 4) pe_int (fun _ _ => rfl)) (nomark _))))) (pss_one (ps_ret pe_bl)) pss_nil)) (pss_one (ps_if (pt_cmpR op_isN1 (pe_ix ix_u (pv 4) pe_int (fun _ _ => rfl)) pe_non (nomark _)) (pss_one (ps_if (pt_cmpR op_notN1 (pe_ix ix_u (pv 4) pe_int (fun _ _ => rfl)) pe_non (nomark _)) (pss_one (ps_ret pe_bl)) pss_nil)) (pss_one (ps_if (PW.pt (pw_or (pt_not (pt_val (C8.pe_c c_law_whole hr (by decide) (by rfl) (pa_cons (pe_ix ix_u (pv 4) pe_int (fun _ _ => rfl)) pa_nil)))) (pw_or1 (pt_cmpR (op_uNe hr.units) (pe_ix ix_u (pv 4) pe_int (fun _ _ => rfl)) (pe_ix ix_u (pv 4) pe_int (fun _ _ => rfl)) (nomark _))))) (pss_one (ps_ret pe_bl)) pss_nil)))))))))))))
      (pss_one (ps_ret pe_bl))))
theorem cal_law_same (T : Tx K mg) (F : FnP K "_law_same" (top 42)) (c_law_whole : C8.Cal P w K mg base 2 "_law_whole" (sp_law_whole K) []) (pu : ∀ vs H Q E, sp_law_same K vs H Q E → t_law_same K { nx := fun _ H' => Q .non H', rt := Q } (start N_law_same vs) H) (len : ∀ vs H Q E, sp_law_same K vs H Q E → vs.length = 2) : C8.Cal P w K mg base 3 "_law_same" (sp_law_same K) [] :=
  calF F (T.g_law_same) sc_law_same len (fun _ _ _ _ _ _ us hl => match us, hl with | [_, _], _ => rfl) (fun cdv A outer s H E hr => pf_law_same T c_law_whole hr) pu
end
end K39
set_option Elab.async false
set_option linter.all false
set_option maxRecDepth 100000
set_option maxHeartbeats 4000000
namespace K39
open PySem L2 PySem.Spec PyProof.Rows Uni
section
variable {P : Program} {w : World} {K : PySem.W.Frag} {mg : Str → Option Value} {base : Heap}
theorem sc_law_signs : FnScope N_law_signs ["cell"] (defScope (top 43)) := ⟨rfl, rfl, rfl, by decide +kernel, rfl, by decide +kernel, by decide +kernel⟩
theorem pf_law_signs (T : Tx K mg) (c_law_digits : C8.Cal P w K mg base 2 "_law_digits" (sp_law_digits K) []) {f : Addr} {cdv : Value} {A : Around} {outer : List Env} {s : Shared} {H : Hp} {E : XK} (hr : Room 2 (A.deeper (envOfC "_law_signs" (defScope (top 43)) s.heap.objs.size f cdv))) :
    PSs (cxOf CX0 P w K mg base N_law_signs "_law_signs" (defScope (top 43)) f cdv A outer s H E).nox (defBody (top 43)) (t_law_signs K) := by
  have nd := (sc_law_signs).nd
  exact (pss_cons (ps_set (i := 1) nd rfl (by first | exact Or.inl rfl | exact Or.inr rfl) (C8.pe_c c_law_digits hr (by decide) (by rfl) (pa_cons (pv 0) (pa_cons (pe_lst (pa_cons pe_int (pa_cons pe_int (pa_cons pe_int (pa_cons pe_int (pa_cons pe_int (pa_cons pe_int (pa_cons pe_int (pa_cons pe_int (pa_cons pe_int (pa_cons pe_int (pa_cons pe_int (pa_cons pe_int pa_nil))))))))))))) pa_nil))))
      (pss_cons (ps_set (i := 2) nd rfl (by first | exact Or.inl rfl | exact Or.inr rfl) (pe_callTy (call_uList rfl) (by rfl) T.list (by decide +kernel) (pa_cons pe_str pa_nil)))
      (pss_cons (ps_set (i := 3) nd rfl (by first | exact Or.inl rfl | exact Or.inr rfl) (pe_callTy (call_uList rfl) (by rfl) T.list (by decide +kernel) (pa_cons pe_str pa_nil)))
      (pss_cons (ps_set (i := 4) nd rfl (by first | exact Or.inl rfl | exact Or.inr rfl) (pe_callTy (call_uList rfl) (by rfl) T.list (by decide +kernel) (pa_cons pe_str pa_nil)))
      (pss_cons (ps_setLc (i := 5) (own := [("k", 8)]) rfl nd rfl rfl (sw_true rfl rfl rfl (by decide +kernel)) (pi_range1 (by rfl) T.range (pa_cons (pe_op op_uAdd pe_int (pe_ix ix_u (pv 1) pe_int (fun _ _ => rfl))) pa_nil)) (blkOk_by (N := N_law_signs) (sc := defScope (top 43)) (by decide +kernel)) (fun _ _ _ _ _ => (pg_name (i := 8) nd rfl (by first | exact Or.inl rfl | exact Or.inr rfl))) (fun _ _ _ _ _ => pts_nil) (fun _ _ _ _ _ => (pe_bm PySem.F.plainAttrs_list PySem.F.slot_list_pop PySem.F.type_list_pop mt_popAt (pv 2) (pa_cons (pe_ix ix_u (pv 1) (pe_op op_uAdd pe_int (pv 8)) (fun _ _ => rfl)) pa_nil))))
      (pss_cons (ps_setLc (i := 6) (own := [("k", 8)]) rfl nd rfl rfl (sw_true rfl rfl rfl (by decide +kernel)) (pi_range1 (by rfl) T.range (pa_cons (pe_op op_uAdd pe_int (pe_ix ix_u (pv 1) pe_int (fun _ _ => rfl))) pa_nil)) (blkOk_by (N := N_law_signs) (sc := defScope (top 43)) (by decide +kernel)) (fun _ _ _ _ _ => (pg_name (i := 8) nd rfl (by first | exact Or.inl rfl | exact Or.inr rfl))) (fun _ _ _ _ _ => pts_nil) (fun _ _ _ _ _ => (pe_bm PySem.F.plainAttrs_list PySem.F.slot_list_pop PySem.F.type_list_pop mt_popAt (pv 3) (pa_cons (pe_ix ix_u (pv 1) (pe_op op_uAdd pe_int (pv 8)) (fun _ _ => rfl)) pa_nil))))
      (pss_cons (ps_setLc (i := 7) (own := [("k", 8)]) rfl nd rfl rfl (sw_true rfl rfl rfl (by decide +kernel)) (pi_range1 (by rfl) T.range (pa_cons pe_int pa_nil)) (blkOk_by (N := N_law_signs) (sc := defScope (top 43)) (by decide +kernel)) (fun _ _ _ _ _ => (pg_name (i := 8) nd rfl (by first | exact Or.inl rfl | exact Or.inr rfl))) (fun _ _ _ _ _ => pts_nil) (fun _ _ _ _ _ => (pe_bm PySem.F.plainAttrs_list PySem.F.slot_list_pop PySem.F.type_list_pop mt_popAt (pv 4) (pa_cons (pe_ix ix_u (pv 1) (pe_op op_uAdd pe_int (pv 8)) (fun _ _ => rfl)) pa_nil))))
      (pss_one (ps_ret (pe_lst (pa_cons (pe_uJoin pe_str (pe_callB call_uSorted (by rfl) T.sorted (by decide +kernel) (pa_cons (pv 5) pa_nil))) (pa_cons (pe_uJoin pe_str (pe_callB call_uSorted (by rfl) T.sorted (by decide +kernel) (pa_cons (pv 6) pa_nil))) (pa_cons (pe_uJoin pe_str (pe_callB call_uSorted (by rfl) T.sorted (by decide +kernel) (pa_cons (pv 7) pa_nil))) pa_nil)))))))))))))
theorem cal_law_signs (T : Tx K mg) (F : FnP K "_law_signs" (top 43)) (c_law_digits : C8.Cal P w K mg base 2 "_law_digits" (sp_law_digits K) []) (pu : ∀ vs H Q E, sp_law_signs K vs H Q E → t_law_signs K { nx := fun _ H' => Q .non H', rt := Q } (start N_law_signs vs) H) (len : ∀ vs H Q E, sp_law_signs K vs H Q E → vs.length = 1) : C8.Cal P w K mg base 3 "_law_signs" (sp_law_signs K) [] :=
  calF F (T.g_law_signs) sc_law_signs len (fun _ _ _ _ _ _ us hl => match us, hl with | [_], _ => rfl) (fun cdv A outer s H E hr => pf_law_signs T c_law_digits hr) pu
theorem sc_law_marks : FnScope N_law_marks ["marks", "bits"] (defScope (top 44)) := ⟨rfl, rfl, rfl, by decide +kernel, rfl, by decide +kernel, by decide +kernel⟩
theorem pf_law_marks (T : Tx K mg) {f : Addr} {cdv : Value} {A : Around} {outer : List Env} {s : Shared} {H : Hp} {E : XK} (hr : Room 1 (A.deeper (envOfC "_law_marks" (defScope (top 44)) s.heap.objs.size f cdv))) :
    PSs (cxOf CX0 P w K mg base N_law_marks "_law_marks" (defScope (top 44)) f cdv A outer s H E).nox (defBody (top 44)) (t_law_marks K) := by
  have nd := (sc_law_marks).nd
  exact (pss_one (ps_ret (pe_uJoin pe_str (pe_lc (own := [("k", 2)]) rfl nd (pi_range1 (by rfl) T.range (pa_cons pe_int pa_nil)) (blkOk_by (N := N_law_marks) (sc := defScope (top 44)) (by decide +kernel)) (fun _ _ _ _ _ => (pg_name (i := 2) nd rfl (by first | exact Or.inl rfl | exact Or.inr rfl))) (fun _ _ _ _ _ => (pts_one (pt_cmpR (op_uEq hr.units) (pe_op op_uMod (pe_op op_uFdv (pv 1) (pe_ix ix_u (pe_lst (pa_cons pe_int (pa_cons pe_int (pa_cons pe_int (pa_cons pe_int pa_nil))))) (pv 2) (fun _ _ => rfl))) pe_int) pe_int (nomark _)))) (fun _ _ _ _ _ => (pe_ix ix_u (pv 0) (pv 2) (fun _ _ => rfl)))))))
theorem cal_law_marks (T : Tx K mg) (F : FnP K "_law_marks" (top 44)) (pu : ∀ vs H Q E, sp_law_marks K vs H Q E → t_law_marks K { nx := fun _ H' => Q .non H', rt := Q } (start N_law_marks vs) H) (len : ∀ vs H Q E, sp_law_marks K vs H Q E → vs.length = 2) : C8.Cal P w K mg base 2 "_law_marks" (sp_law_marks K) [] :=
  calF F (T.g_law_marks) sc_law_marks len (fun _ _ _ _ _ _ us hl => match us, hl with | [_, _], _ => rfl) (fun cdv A outer s H E hr => pf_law_marks T  hr) pu
theorem sc_law_table : FnScope N_law_table ["signs", "cell", "other"] (defScope (top 45)) := ⟨rfl, rfl, rfl, by decide +kernel, rfl, by decide +kernel, by decide +kernel⟩
theorem pf_law_table (T : Tx K mg) (c_law_digits : C8.Cal P w K mg base 2 "_law_digits" (sp_law_digits K) []) (c_law_marks : C8.Cal P w K mg base 2 "_law_marks" (sp_law_marks K) []) {f : Addr} {cdv : Value} {A : Around} {outer : List Env} {s : Shared} {H : Hp} {E : XK} (hr : Room 2 (A.deeper (envOfC "_law_table" (defScope (top 45)) s.heap.objs.size f cdv))) :
    PSs (cxOf CX0 P w K mg base N_law_table "_law_table" (defScope (top 45)) f cdv A outer s H E).nox (defBody (top 45)) (t_law_table K) := by
  have nd := (sc_law_table).nd
  exact (pss_cons (ps_set (i := 3) nd rfl (by first | exact Or.inl rfl | exact Or.inr rfl) (pe_callB call_uLen (by rfl) T.len (by decide +kernel) (pa_cons (pe_ix ix_u (pv 0) pe_int (fun _ _ => rfl)) pa_nil)))
      (pss_cons (ps_set (i := 4) nd rfl (by first | exact Or.inl rfl | exact Or.inr rfl) (C8.pe_c c_law_digits hr (by decide) (by rfl) (pa_cons (pv 1) (pa_cons (pe_op op_uAdd (pe_op op_uAdd (pe_lst (pa_cons pe_int (pa_cons pe_int (pa_cons pe_int (pa_cons pe_int (pa_cons pe_int (pa_cons pe_int pa_nil))))))) (pe_op op_uMul (pe_lst (pa_cons pe_int pa_nil)) pe_int)) (pe_op op_uMul (pe_lst (pa_cons pe_int pa_nil)) pe_int)) pa_nil))))
      (pss_cons (ps_set (i := 5) nd rfl (by first | exact Or.inl rfl | exact Or.inr rfl) (C8.pe_c c_law_digits hr (by decide) (by rfl) (pa_cons (pv 2) (pa_cons (pe_op op_uAdd (pe_op op_uAdd (pe_lst (pa_cons pe_int (pa_cons pe_int (pa_cons pe_int (pa_cons pe_int (pa_cons pe_int (pa_cons pe_int (pa_cons pe_int pa_nil)))))))) (pe_op op_uMul (pe_lst (pa_cons pe_int pa_nil)) pe_int)) (pe_lst (pa_cons pe_int (pa_cons pe_int (pa_cons pe_int (pa_cons pe_int (pa_cons pe_int pa_nil))))))) pa_nil))))
      (pss_cons (ps_set (i := 6) nd rfl (by first | exact Or.inl rfl | exact Or.inr rfl) (pe_op op_uAdd pe_int (pe_ix ix_u (pv 4) pe_int (fun _ _ => rfl))))
      (C8.pss_cut (ps_if (PW.pt (pw_and (pt_cmpR (op_uEq hr.units) (pv 6) pe_int (nomark _)) (pw_and1 (pt_cmpR op_uGt (pe_ix ix_u (pv 4) pe_int (fun _ _ => rfl)) pe_int (nomark _))))) (pss_one (ps_set (i := 6) nd rfl (by first | exact Or.inl rfl | exact Or.inr rfl) pe_int)) pss_nil)
      (pss_cons (ps_setLc (i := 7) (own := [("k", 15)]) rfl nd rfl rfl (sw_true rfl rfl rfl (by decide +kernel)) (pi_range1 (by rfl) T.range (pa_cons (pe_callB call_uLen (by rfl) T.len (by decide +kernel) (pa_cons (pe_ix ix_u (pv 0) pe_int (fun _ _ => rfl)) pa_nil)) pa_nil)) (blkOk_by (N := N_law_table) (sc := defScope (top 45)) (by decide +kernel)) (fun _ _ _ _ _ => (pg_name (i := 15) nd rfl (by first | exact Or.inl rfl | exact Or.inr rfl))) (fun _ _ _ _ _ => pts_nil) (fun _ _ _ _ _ => (pe_op op_uMod (pe_ix ix_u (pv 4) (pe_op op_uAdd pe_int (pv 15)) (fun _ _ => rfl)) (pv 6))))
      (pss_cons (ps_set (i := 8) nd rfl (by first | exact Or.inl rfl | exact Or.inr rfl) (pe_lc (own := [("state", 12)]) rfl nd (pi_range1 (by rfl) T.range (pa_cons (pv 6) pa_nil)) (blkOk_by (N := N_law_table) (sc := defScope (top 45)) (by decide +kernel)) (fun _ _ _ _ _ => (pg_name (i := 12) nd rfl (by first | exact Or.inl rfl | exact Or.inr rfl))) (fun _ _ _ _ _ => pts_nil) (fun _ _ _ _ _ => (pe_lc (own := [("k", 15)]) rfl nd (pi_range1 (by rfl) T.range (pa_cons (pv 3) pa_nil)) (blkOk_by (N := N_law_table) (sc := relS _ (defScope (top 45))) (by decide +kernel)) (fun _ _ _ _ _ => (pg_name (i := 15) nd rfl (by first | exact Or.inl rfl | exact Or.inr rfl))) (fun _ _ _ _ _ => pts_nil) (fun _ _ _ _ _ => (pe_op op_uMod (pe_ix ix_u (pv 4) (pe_op op_uAdd (pe_op op_uAdd pe_int (pe_op op_uMul pe_int (pv 12))) (pv 15)) (fun _ _ => rfl)) (pv 6)))))))
      (C8.pss_cut (ps_if (pt_cmpR op_uGe (pe_ix ix_u (pv 4) pe_int (fun _ _ => rfl)) pe_int (nomark _)) (pss_cons (ps_set (i := 13) nd rfl (by first | exact Or.inl rfl | exact Or.inr rfl) (pe_op op_uSub (pv 6) pe_int))
      (pss_cons (ps_setLc (i := 7) (own := [("sign", 19)]) rfl nd rfl rfl (sw_true rfl rfl rfl (by decide +kernel)) (pi_uni (pe_ix ix_u (pv 0) pe_int (fun _ _ => rfl))) (blkOk_by (N := N_law_table) (sc := defScope (top 45)) (by decide +kernel)) (fun _ _ _ _ _ => (pg_name (i := 19) nd rfl (by first | exact Or.inl rfl | exact Or.inr rfl))) (fun _ _ _ _ _ => pts_nil) (fun _ _ _ _ _ => (pv 13)))
      (pss_cons (ps_set (i := 8) nd rfl (by first | exact Or.inl rfl | exact Or.inr rfl) (pe_lc (own := [("state", 12)]) rfl nd (pi_range1 (by rfl) T.range (pa_cons (pv 6) pa_nil)) (blkOk_by (N := N_law_table) (sc := defScope (top 45)) (by decide +kernel)) (fun _ _ _ _ _ => (pg_name (i := 12) nd rfl (by first | exact Or.inl rfl | exact Or.inr rfl))) (fun _ _ _ _ _ => pts_nil) (fun _ _ _ _ _ => (pe_lc (own := [("sign", 19)]) rfl nd (pi_uni (pe_ix ix_u (pv 0) pe_int (fun _ _ => rfl))) (blkOk_by (N := N_law_table) (sc := relS _ (defScope (top 45))) (by decide +kernel)) (fun _ _ _ _ _ => (pg_name (i := 19) nd rfl (by first | exact Or.inl rfl | exact Or.inr rfl))) (fun _ _ _ _ _ => pts_nil) (fun _ _ _ _ _ => (pv 13))))))
      (pss_cons (ps_setLc (i := 14) (own := [("k", 15)]) rfl nd rfl rfl (sw_true rfl rfl rfl (by decide +kernel)) (pi_range1 (by rfl) T.range (pa_cons (pe_callB call_uLen (by rfl) T.len (by decide +kernel) (pa_cons (pe_ix ix_u (pv 0) pe_int (fun _ _ => rfl)) pa_nil)) pa_nil)) (blkOk_by (N := N_law_table) (sc := defScope (top 45)) (by decide +kernel)) (fun _ _ _ _ _ => (pg_name (i := 15) nd rfl (by first | exact Or.inl rfl | exact Or.inr rfl))) (fun _ _ _ _ _ => pts_nil) (fun _ _ _ _ _ => (pe_tup (pa_cons (pv 13) (pa_cons (pv 15) pa_nil)))))
      (pss_cons (ps_for PassesOwn.never rfl (pi_range1 (by rfl) T.range (pa_cons (pv 13) pa_nil)) (pg_name (i := 12) nd rfl (by first | exact Or.inl rfl | exact Or.inr rfl)) (pss_cons (ps_set (i := 16) nd rfl (by first | exact Or.inl rfl | exact Or.inr rfl) (pe_bm PySem.F.plainAttrs_list PySem.F.slot_list_pop PySem.F.type_list_pop mt_popAt (pv 14) (pa_cons (pe_op op_uMod (pe_ix ix_u (pv 5) (pe_op op_uAdd pe_int (pv 12)) (fun _ _ => rfl)) (pe_callB call_uLen (by rfl) T.len (by decide +kernel) (pa_cons (pv 14) pa_nil))) pa_nil)))
      (C8.pss_cut (ps_if (pt_cmpR (op_uEq hr.units) (pe_ix ix_u (pv 16) pe_int (fun _ _ => rfl)) (pv 13) (nomark _)) (pss_one (ps_asg (pv 12) (pg_sub (pv 7) (pe_ix ix_u (pv 16) pe_int (fun _ _ => rfl)) set_list))) (pss_cons (ps_set (i := 17) nd rfl (by first | exact Or.inl rfl | exact Or.inr rfl) (pe_ix ix_u (pv 8) (pe_ix ix_u (pv 16) pe_int (fun _ _ => rfl)) (fun _ _ => rfl)))
      (pss_one (ps_asg (pv 12) (pg_sub (pv 17) (pe_ix ix_u (pv 16) pe_int (fun _ _ => rfl)) set_list)))))
      (pss_one (ps_set (i := 14) nd rfl (by first | exact Or.inl rfl | exact Or.inr rfl) (pe_op op_uAdd (pv 14) (pe_lc (own := [("k", 15)]) rfl nd (pi_range1 (by rfl) T.range (pa_cons (pv 3) pa_nil)) (blkOk_by (N := N_law_table) (sc := defScope (top 45)) (by decide +kernel)) (fun _ _ _ _ _ => (pg_name (i := 15) nd rfl (by first | exact Or.inl rfl | exact Or.inr rfl))) (fun _ _ _ _ _ => pts_nil) (fun _ _ _ _ _ => (pe_tup (pa_cons (pv 12) (pa_cons (pv 15) pa_nil)))))))))))
      (pss_one (ps_if (pt_cmpR (op_uEq hr.units) (pe_ix ix_u (pv 5) pe_int (fun _ _ => rfl)) pe_int (nomark _)) (pss_cons (ps_set (i := 17) nd rfl (by first | exact Or.inl rfl | exact Or.inr rfl) (pe_ix ix_u (pv 8) (pe_op op_uMod (pe_ix ix_u (pv 5) pe_int (fun _ _ => rfl)) (pv 6)) (fun _ _ => rfl)))
      (pss_one (ps_asg (pe_op op_uMod (pe_ix ix_u (pv 5) pe_int (fun _ _ => rfl)) (pv 6)) (pg_sub (pv 17) (pe_op op_uMod (pe_ix ix_u (pv 5) pe_int (fun _ _ => rfl)) (pv 3)) set_list)))) pss_nil))))))) pss_nil)
      (pss_cons (ps_set (i := 9) nd rfl (by first | exact Or.inl rfl | exact Or.inr rfl) (pe_ix ix_u (pe_lst (pa_cons pe_int (pa_cons pe_int (pa_cons pe_int pa_nil)))) (pe_ix ix_u (pv 4) pe_int (fun _ _ => rfl)) (fun _ _ => rfl)))
      (pss_cons (ps_set (i := 10) nd rfl (by first | exact Or.inl rfl | exact Or.inr rfl) (pe_lc (own := [("state", 12)]) rfl nd (pi_range1 (by rfl) T.range (pa_cons (pv 6) pa_nil)) (blkOk_by (N := N_law_table) (sc := defScope (top 45)) (by decide +kernel)) (fun _ _ _ _ _ => (pg_name (i := 12) nd rfl (by first | exact Or.inl rfl | exact Or.inr rfl))) (fun _ _ _ _ _ => pts_nil) (fun _ _ _ _ _ => (C8.pe_c c_law_marks hr (by decide) (by rfl) (pa_cons (pe_ix ix_u (pv 0) pe_int (fun _ _ => rfl)) (pa_cons (pe_op op_uMod (pe_ix ix_u (pv 4) (pe_op op_uAdd pe_int (pv 12)) (fun _ _ => rfl)) (pv 9)) pa_nil))))))
      (pss_cons (ps_set (i := 11) nd rfl (by first | exact Or.inl rfl | exact Or.inr rfl) (pe_lst pa_nil))
      (pss_cons (ps_for PassesOwn.never rfl (pi_range1 (by rfl) T.range (pa_cons (pv 6) pa_nil)) (pg_name (i := 12) nd rfl (by first | exact Or.inl rfl | exact Or.inr rfl)) (pss_one (ps_expr (pe_bm PySem.F.plainAttrs_list PySem.F.slot_list_insert PySem.F.type_list_insert mt_uInsert (pv 11) (pa_cons (pe_ix ix_u (pv 5) (pv 12) (fun _ _ => rfl)) (pa_cons (pv 12) pa_nil))))))
      (pss_cons (ps_setLc (i := 7) (own := [("state", 12)]) rfl nd rfl rfl (sw_true rfl rfl rfl (by decide +kernel)) (pi_uni (pv 7)) (blkOk_by (N := N_law_table) (sc := defScope (top 45)) (by decide +kernel)) (fun _ _ _ _ _ => (pg_name (i := 12) nd rfl (by first | exact Or.inl rfl | exact Or.inr rfl))) (fun _ _ _ _ _ => pts_nil) (fun _ _ _ _ _ => (pe_bm PySem.F.plainAttrs_list PySem.F.slot_list_index PySem.F.type_list_index mt_index (pv 11) (pa_cons (pv 12) pa_nil))))
      (pss_cons (ps_set (i := 8) nd rfl (by first | exact Or.inl rfl | exact Or.inr rfl) (pe_lc (own := [("old", 18)]) rfl nd (pi_uni (pv 11)) (blkOk_by (N := N_law_table) (sc := defScope (top 45)) (by decide +kernel)) (fun _ _ _ _ _ => (pg_name (i := 18) nd rfl (by first | exact Or.inl rfl | exact Or.inr rfl))) (fun _ _ _ _ _ => pts_nil) (fun _ _ _ _ _ => (pe_lc (own := [("state", 12)]) rfl nd (pi_uni (pe_ix ix_u (pv 8) (pv 18) (fun _ _ => rfl))) (blkOk_by (N := N_law_table) (sc := relS _ (defScope (top 45))) (by decide +kernel)) (fun _ _ _ _ _ => (pg_name (i := 12) nd rfl (by first | exact Or.inl rfl | exact Or.inr rfl))) (fun _ _ _ _ _ => pts_nil) (fun _ _ _ _ _ => (pe_bm PySem.F.plainAttrs_list PySem.F.slot_list_index PySem.F.type_list_index mt_index (pv 11) (pa_cons (pv 12) pa_nil)))))))
      (pss_one (ps_ret (pe_lst (pa_cons (pv 7) (pa_cons (pv 8) (pa_cons (pe_lc (own := [("old", 18)]) rfl nd (pi_uni (pv 11)) (blkOk_by (N := N_law_table) (sc := defScope (top 45)) (by decide +kernel)) (fun _ _ _ _ _ => (pg_name (i := 18) nd rfl (by first | exact Or.inl rfl | exact Or.inr rfl))) (fun _ _ _ _ _ => pts_nil) (fun _ _ _ _ _ => (pe_ix ix_u (pv 10) (pv 18) (fun _ _ => rfl)))) pa_nil))))))))))))))))))))
theorem cal_law_table (T : Tx K mg) (F : FnP K "_law_table" (top 45)) (c_law_digits : C8.Cal P w K mg base 2 "_law_digits" (sp_law_digits K) []) (c_law_marks : C8.Cal P w K mg base 2 "_law_marks" (sp_law_marks K) []) (pu : ∀ vs H Q E, sp_law_table K vs H Q E → t_law_table K { nx := fun _ H' => Q .non H', rt := Q } (start N_law_table vs) H) (len : ∀ vs H Q E, sp_law_table K vs H Q E → vs.length = 3) : C8.Cal P w K mg base 3 "_law_table" (sp_law_table K) [] :=
  calF F (T.g_law_table) sc_law_table len (fun _ _ _ _ _ _ us hl => match us, hl with | [_, _, _], _ => rfl) (fun cdv A outer s H E hr => pf_law_table T c_law_digits c_law_marks hr) pu
theorem sc_law_large : FnScope N_law_large ["signs", "cell"] (defScope (top 46)) := ⟨rfl, rfl, rfl, by decide +kernel, rfl, by decide +kernel, by decide +kernel⟩
theorem pf_law_large (T : Tx K mg) (c_law_digits : C8.Cal P w K mg base 2 "_law_digits" (sp_law_digits K) []) (c_law_marks : C8.Cal P w K mg base 2 "_law_marks" (sp_law_marks K) []) {f : Addr} {cdv : Value} {A : Around} {outer : List Env} {s : Shared} {H : Hp} {E : XK} (hr : Room 2 (A.deeper (envOfC "_law_large" (defScope (top 46)) s.heap.objs.size f cdv))) :
    PSs (cxOf CX0 P w K mg base N_law_large "_law_large" (defScope (top 46)) f cdv A outer s H E).nox (defBody (top 46)) (t_law_large K) := by
  have nd := (sc_law_large).nd
  exact (pss_cons (ps_set (i := 2) nd rfl (by first | exact Or.inl rfl | exact Or.inr rfl) (C8.pe_c c_law_digits hr (by decide) (by rfl) (pa_cons (pv 1) (pa_cons (pe_lst (pa_cons pe_int (pa_cons pe_int (pa_cons pe_int (pa_cons pe_int (pa_cons pe_int (pa_cons pe_int (pa_cons pe_int pa_nil)))))))) pa_nil))))
      (pss_cons (ps_set (i := 3) nd rfl (by first | exact Or.inl rfl | exact Or.inr rfl) (pe_op op_uAdd pe_int (pe_ix ix_u (pv 2) pe_int (fun _ _ => rfl))))
      (pss_cons (ps_setLc (i := 4) (own := [("k", 9)]) rfl nd rfl rfl (sw_true rfl rfl rfl (by decide +kernel)) (pi_range1 (by rfl) T.range (pa_cons (pe_callB call_uLen (by rfl) T.len (by decide +kernel) (pa_cons (pe_ix ix_u (pv 0) pe_int (fun _ _ => rfl)) pa_nil)) pa_nil)) (blkOk_by (N := N_law_large) (sc := defScope (top 46)) (by decide +kernel)) (fun _ _ _ _ _ => (pg_name (i := 9) nd rfl (by first | exact Or.inl rfl | exact Or.inr rfl))) (fun _ _ _ _ _ => pts_nil) (fun _ _ _ _ _ => (pe_op op_uMod (pe_ix ix_u (pv 2) (pe_op op_uAdd pe_int (pv 9)) (fun _ _ => rfl)) (pv 3))))
      (pss_cons (ps_set (i := 5) nd rfl (by first | exact Or.inl rfl | exact Or.inr rfl) (pe_lst pa_nil))
      (pss_cons (ps_for PassesOwn.never rfl (pi_range1 (by rfl) T.range (pa_cons (pv 3) pa_nil)) (pg_name (i := 6) nd rfl (by first | exact Or.inl rfl | exact Or.inr rfl)) (pss_cons (ps_set (i := 8) nd rfl (by first | exact Or.inl rfl | exact Or.inr rfl) (pe_lst (pa_cons (pe_op op_uMod (pe_op op_uAdd (pv 6) pe_int) (pv 3)) (pa_cons (pe_op op_uMod (pe_op op_uAdd (pe_op op_uMul pe_int (pv 6)) (pe_ix ix_u (pv 2) pe_int (fun _ _ => rfl))) (pv 3)) (pa_cons (pe_op op_uMod (pe_op op_uAdd (pe_op op_uMul (pv 6) (pv 6)) (pe_ix ix_u (pv 2) pe_int (fun _ _ => rfl))) (pv 3)) pa_nil)))))
      (pss_one (ps_expr (pe_bm PySem.F.plainAttrs_list PySem.F.slot_list_append PySem.F.type_list_append mt_append (pv 5) (pa_cons (pe_slice sl_u (pv 8) po_none (po_some (pe_callB call_uLen (by rfl) T.len (by decide +kernel) (pa_cons (pe_ix ix_u (pv 0) pe_int (fun _ _ => rfl)) pa_nil)))) pa_nil))))))
      (pss_cons (ps_setLc (i := 7) (own := [("state", 6)]) rfl nd rfl rfl (sw_true rfl rfl rfl (by decide +kernel)) (pi_range1 (by rfl) T.range (pa_cons (pv 3) pa_nil)) (blkOk_by (N := N_law_large) (sc := defScope (top 46)) (by decide +kernel)) (fun _ _ _ _ _ => (pg_name (i := 6) nd rfl (by first | exact Or.inl rfl | exact Or.inr rfl))) (fun _ _ _ _ _ => pts_nil) (fun _ _ _ _ _ => (C8.pe_c c_law_marks hr (by decide) (by rfl) (pa_cons (pe_ix ix_u (pv 0) pe_int (fun _ _ => rfl)) (pa_cons (pe_op op_uMod (pe_op op_uAdd (pe_op op_uAdd (pe_op op_uMul (pv 6) (pv 6)) (pe_op op_uMul (pe_ix ix_u (pv 2) pe_int (fun _ _ => rfl)) (pv 6))) (pe_op op_uFdv (pv 6) pe_int)) pe_int) pa_nil)))))
      (pss_one (ps_ret (pe_lst (pa_cons (pv 4) (pa_cons (pv 5) (pa_cons (pv 7) pa_nil))))))))))))
theorem cal_law_large (T : Tx K mg) (F : FnP K "_law_large" (top 46)) (c_law_digits : C8.Cal P w K mg base 2 "_law_digits" (sp_law_digits K) []) (c_law_marks : C8.Cal P w K mg base 2 "_law_marks" (sp_law_marks K) []) (pu : ∀ vs H Q E, sp_law_large K vs H Q E → t_law_large K { nx := fun _ H' => Q .non H', rt := Q } (start N_law_large vs) H) (len : ∀ vs H Q E, sp_law_large K vs H Q E → vs.length = 2) : C8.Cal P w K mg base 3 "_law_large" (sp_law_large K) [] :=
  calF F (T.g_law_large) sc_law_large len (fun _ _ _ _ _ _ us hl => match us, hl with | [_, _], _ => rfl) (fun cdv A outer s H E hr => pf_law_large T c_law_digits c_law_marks hr) pu
theorem sc_law_hand : FnScope N_law_hand ["table", "way"] (defScope (top 47)) := ⟨rfl, rfl, rfl, by decide +kernel, rfl, by decide +kernel, by decide +kernel⟩
theorem pf_law_hand (T : Tx K mg) {f : Addr} {cdv : Value} {A : Around} {outer : List Env} {s : Shared} {H : Hp} {E : XK} (hr : Room 1 (A.deeper (envOfC "_law_hand" (defScope (top 47)) s.heap.objs.size f cdv))) :
    PSs (cxOf CX0 P w K mg base N_law_hand "_law_hand" (defScope (top 47)) f cdv A outer s H E).nox (defBody (top 47)) (t_law_hand K) := by
  have nd := (sc_law_hand).nd
  exact (pss_cons (ps_set (i := 2) nd rfl (by first | exact Or.inl rfl | exact Or.inr rfl) (pe_callTy (call_uList rfl) (by rfl) T.list (by decide +kernel) (pa_cons (pe_ix ix_u (pv 0) pe_int (fun _ _ => rfl)) pa_nil)))
      (pss_cons (ps_setLc (i := 3) (own := [("line", 5)]) rfl nd rfl rfl (sw_true rfl rfl rfl (by decide +kernel)) (pi_uni (pe_ix ix_u (pv 0) pe_int (fun _ _ => rfl))) (blkOk_by (N := N_law_hand) (sc := defScope (top 47)) (by decide +kernel)) (fun _ _ _ _ _ => (pg_name (i := 5) nd rfl (by first | exact Or.inl rfl | exact Or.inr rfl))) (fun _ _ _ _ _ => pts_nil) (fun _ _ _ _ _ => (pe_callTy (call_uList rfl) (by rfl) T.list (by decide +kernel) (pa_cons (pv 5) pa_nil))))
      (pss_cons (ps_set (i := 4) nd rfl (by first | exact Or.inl rfl | exact Or.inr rfl) (pe_callTy (call_uList rfl) (by rfl) T.list (by decide +kernel) (pa_cons (pe_ix ix_u (pv 0) pe_int (fun _ _ => rfl)) pa_nil)))
      (C8.pss_cut (ps_if (pt_cmpR (op_uEq hr.units) (pe_op op_uMod (pe_op op_uFdv (pv 1) pe_int) pe_int) pe_int (nomark _)) (pss_one (ps_setLc (i := 3) (own := [("line", 5)]) rfl nd rfl rfl (sw_true rfl rfl rfl (by decide +kernel)) (pi_uni (pv 3)) (blkOk_by (N := N_law_hand) (sc := defScope (top 47)) (by decide +kernel)) (fun _ _ _ _ _ => (pg_name (i := 5) nd rfl (by first | exact Or.inl rfl | exact Or.inr rfl))) (fun _ _ _ _ _ => pts_nil) (fun _ _ _ _ _ => (pe_callTy (call_uTuple rfl) (by rfl) T.tuple (by decide +kernel) (pa_cons (pv 5) pa_nil))))) pss_nil)
      (C8.pss_cut (ps_if (pt_cmpR (op_uEq hr.units) (pe_op op_uMod (pe_op op_uFdv (pv 1) pe_int) pe_int) pe_int (nomark _)) (pss_one (ps_set (i := 3) nd rfl (by first | exact Or.inl rfl | exact Or.inr rfl) (pe_callTy (call_uTuple rfl) (by rfl) T.tuple (by decide +kernel) (pa_cons (pv 3) pa_nil)))) pss_nil)
      (C8.pss_cut (ps_if (pt_cmpR (op_uEq hr.units) (pe_op op_uMod (pv 1) pe_int) pe_int (nomark _)) (pss_one (ps_set (i := 2) nd rfl (by first | exact Or.inl rfl | exact Or.inr rfl) (pe_callTy (call_uTuple rfl) (by rfl) T.tuple (by decide +kernel) (pa_cons (pv 2) pa_nil)))) pss_nil)
      (C8.pss_cut (ps_if (pt_cmpR (op_uEq hr.units) (pe_op op_uMod (pe_op op_uFdv (pv 1) pe_int) pe_int) pe_int (nomark _)) (pss_one (ps_set (i := 4) nd rfl (by first | exact Or.inl rfl | exact Or.inr rfl) (pe_callTy (call_uTuple rfl) (by rfl) T.tuple (by decide +kernel) (pa_cons (pv 4) pa_nil)))) pss_nil)
      (pss_one (ps_ret (pe_lst (pa_cons (pv 2) (pa_cons (pv 3) (pa_cons (pv 4) pa_nil)))))))))))))
theorem cal_law_hand (T : Tx K mg) (F : FnP K "_law_hand" (top 47)) (pu : ∀ vs H Q E, sp_law_hand K vs H Q E → t_law_hand K { nx := fun _ H' => Q .non H', rt := Q } (start N_law_hand vs) H) (len : ∀ vs H Q E, sp_law_hand K vs H Q E → vs.length = 2) : C8.Cal P w K mg base 2 "_law_hand" (sp_law_hand K) [] :=
  calF F (T.g_law_hand) sc_law_hand len (fun _ _ _ _ _ _ us hl => match us, hl with | [_, _], _ => rfl) (fun cdv A outer s H E hr => pf_law_hand T  hr) pu
theorem sc_law_fields : FnScope N_law_fields ["signs", "table"] (defScope (top 48)) := ⟨rfl, rfl, rfl, by decide +kernel, rfl, by decide +kernel, by decide +kernel⟩
theorem pf_law_fields (T : Tx K mg) {f : Addr} {cdv : Value} {A : Around} {outer : List Env} {s : Shared} {H : Hp} {E : XK} (hr : Room 1 (A.deeper (envOfC "_law_fields" (defScope (top 48)) s.heap.objs.size f cdv))) :
    PSs (cxOf CX0 P w K mg base N_law_fields "_law_fields" (defScope (top 48)) f cdv A outer s H E).nox (defBody (top 48)) (t_law_fields K) := by
  have nd := (sc_law_fields).nd
  exact (pss_one (ps_ret (pe_tup (pa_cons (pe_ix ix_u (pv 0) pe_int (fun _ _ => rfl)) (pa_cons (pe_ix ix_u (pv 0) pe_int (fun _ _ => rfl)) (pa_cons (pe_callTy (call_uTuple rfl) (by rfl) T.tuple (by decide +kernel) (pa_cons (pe_ix ix_u (pv 1) pe_int (fun _ _ => rfl)) pa_nil)) (pa_cons (pe_callTy (call_uTuple rfl) (by rfl) T.tuple (by decide +kernel) (pa_cons (pe_lc (own := [("line", 2)]) rfl nd (pi_uni (pe_ix ix_u (pv 1) pe_int (fun _ _ => rfl))) (blkOk_by (N := N_law_fields) (sc := defScope (top 48)) (by decide +kernel)) (fun _ _ _ _ _ => (pg_name (i := 2) nd rfl (by first | exact Or.inl rfl | exact Or.inr rfl))) (fun _ _ _ _ _ => pts_nil) (fun _ _ _ _ _ => (pe_callTy (call_uTuple rfl) (by rfl) T.tuple (by decide +kernel) (pa_cons (pv 2) pa_nil)))) pa_nil)) (pa_cons (pe_callTy (call_uTuple rfl) (by rfl) T.tuple (by decide +kernel) (pa_cons (pe_ix ix_u (pv 1) pe_int (fun _ _ => rfl)) pa_nil)) pa_nil))))))))
theorem cal_law_fields (T : Tx K mg) (F : FnP K "_law_fields" (top 48)) (pu : ∀ vs H Q E, sp_law_fields K vs H Q E → t_law_fields K { nx := fun _ H' => Q .non H', rt := Q } (start N_law_fields vs) H) (len : ∀ vs H Q E, sp_law_fields K vs H Q E → vs.length = 2) : C8.Cal P w K mg base 2 "_law_fields" (sp_law_fields K) [] :=
  calF F (T.g_law_fields) sc_law_fields len (fun _ _ _ _ _ _ us hl => match us, hl with | [_, _], _ => rfl) (fun cdv A outer s H E hr => pf_law_fields T  hr) pu
theorem sc_law_told_fields : FnScope N_law_told_fields ["world"] (defScope (top 49)) := ⟨rfl, rfl, rfl, by decide +kernel, rfl, by decide +kernel, by decide +kernel⟩
theorem pf_law_told_fields (T : Tx K mg) {f : Addr} {cdv : Value} {A : Around} {outer : List Env} {s : Shared} {H : Hp} {E : XK} (hr : Room 1 (A.deeper (envOfC "_law_told_fields" (defScope (top 49)) s.heap.objs.size f cdv))) :
    PSs (cxOf CX0 P w K mg base N_law_told_fields "_law_told_fields" (defScope (top 49)) f cdv A outer s H E).nox (defBody (top 49)) (t_law_told_fields K) := by
  have nd := (sc_law_told_fields).nd
  exact (pss_one (ps_ret (pe_tup (pa_cons (pe_fld (pv 0) rfl) (pa_cons (pe_fld (pv 0) rfl) (pa_cons (pe_fld (pv 0) rfl) (pa_cons (pe_fld (pv 0) rfl) (pa_cons (pe_fld (pv 0) rfl) pa_nil))))))))
theorem cal_law_told_fields (T : Tx K mg) (F : FnP K "_law_told_fields" (top 49)) (pu : ∀ vs H Q E, sp_law_told_fields K vs H Q E → t_law_told_fields K { nx := fun _ H' => Q .non H', rt := Q } (start N_law_told_fields vs) H) (len : ∀ vs H Q E, sp_law_told_fields K vs H Q E → vs.length = 1) : C8.Cal P w K mg base 2 "_law_told_fields" (sp_law_told_fields K) [] :=
  calF F (T.g_law_told_fields) sc_law_told_fields len (fun _ _ _ _ _ _ us hl => match us, hl with | [_], _ => rfl) (fun cdv A outer s H E hr => pf_law_told_fields T  hr) pu
end
end K39
set_option Elab.async false
set_option linter.all false
set_option maxRecDepth 100000
set_option maxHeartbeats 4000000
namespace K39
open PySem L2 PySem.Spec PyProof.Rows Uni
section
variable {P : Program} {w : World} {K : PySem.W.Frag} {mg : Str → Option Value} {base : Heap}
theorem sc_law_at : FnScope N_law_at ["due", "spot"] (defScope (top 50)) := ⟨rfl, rfl, rfl, by decide +kernel, rfl, by decide +kernel, by decide +kernel⟩
theorem pf_law_at (T : Tx K mg) {f : Addr} {cdv : Value} {A : Around} {outer : List Env} {s : Shared} {H : Hp} {E : XK} (hr : Room 1 (A.deeper (envOfC "_law_at" (defScope (top 50)) s.heap.objs.size f cdv))) :
    PSs (cxOf CX0 P w K mg base N_law_at "_law_at" (defScope (top 50)) f cdv A outer s H E).nox (defBody (top 50)) (t_law_at K) := by
  have nd := (sc_law_at).nd
  exact (pss_cons (ps_set (i := 2) nd rfl (by first | exact Or.inl rfl | exact Or.inr rfl) (pe_ix ix_u (pe_ix ix_u (pv 0) pe_int (fun _ _ => rfl)) (pe_bm PySem.F.plainAttrs_str PySem.F.slot_str_index PySem.F.type_str_index mt_uSIndex (pe_ix ix_u (pv 0) pe_int (fun _ _ => rfl)) (pa_cons (pe_ix ix_u (pv 1) pe_int (fun _ _ => rfl)) pa_nil)) (fun _ _ => rfl)))
      (pss_cons (ps_for PassesOwn.never rfl (pi_uni (pe_slice sl_u (pv 1) (po_some pe_int) po_none)) (pg_name (i := 3) nd rfl (by first | exact Or.inl rfl | exact Or.inr rfl)) (pss_one (ps_set (i := 2) nd rfl (by first | exact Or.inl rfl | exact Or.inr rfl) (pe_ix ix_u (pe_ix ix_u (pe_ix ix_u (pv 0) pe_int (fun _ _ => rfl)) (pv 2) (fun _ _ => rfl)) (pe_bm PySem.F.plainAttrs_str PySem.F.slot_str_index PySem.F.type_str_index mt_uSIndex (pe_ix ix_u (pv 0) pe_int (fun _ _ => rfl)) (pa_cons (pv 3) pa_nil)) (fun _ _ => rfl)))))
      (pss_one (ps_ret (pv 2)))))
theorem cal_law_at (T : Tx K mg) (F : FnP K "_law_at" (top 50)) (pu : ∀ vs H Q E, sp_law_at K vs H Q E → t_law_at K { nx := fun _ H' => Q .non H', rt := Q } (start N_law_at vs) H) (len : ∀ vs H Q E, sp_law_at K vs H Q E → vs.length = 2) : C8.Cal P w K mg base 2 "_law_at" (sp_law_at K) [] :=
  calF F (T.g_law_at) sc_law_at len (fun _ _ _ _ _ _ us hl => match us, hl with | [_, _], _ => rfl) (fun cdv A outer s H E hr => pf_law_at T  hr) pu
theorem sc_law_places : FnScope N_law_places ["due", "length"] (defScope (top 51)) := ⟨rfl, rfl, rfl, by decide +kernel, rfl, by decide +kernel, by decide +kernel⟩
theorem pf_law_places (T : Tx K mg) {f : Addr} {cdv : Value} {A : Around} {outer : List Env} {s : Shared} {H : Hp} {E : XK} (hr : Room 1 (A.deeper (envOfC "_law_places" (defScope (top 51)) s.heap.objs.size f cdv))) :
    PSs (cxOf CX0 P w K mg base N_law_places "_law_places" (defScope (top 51)) f cdv A outer s H E).nox (defBody (top 51)) (t_law_places K) := by
  have nd := (sc_law_places).nd
  exact (pss_cons (ps_set (i := 2) nd rfl (by first | exact Or.inl rfl | exact Or.inr rfl) (pe_callTy (call_uList rfl) (by rfl) T.list (by decide +kernel) (pa_cons (pe_ix ix_u (pv 0) pe_int (fun _ _ => rfl)) pa_nil)))
      (pss_cons (ps_set (i := 3) nd rfl (by first | exact Or.inl rfl | exact Or.inr rfl) (pe_callTy (call_uList rfl) (by rfl) T.list (by decide +kernel) (pa_cons (pe_ix ix_u (pv 0) pe_int (fun _ _ => rfl)) pa_nil)))
      (pss_cons (ps_for PassesOwn.never rfl (pi_range1 (by rfl) T.range (pa_cons (pv 1) pa_nil)) (pg_name (i := 4) nd rfl (by first | exact Or.inl rfl | exact Or.inr rfl)) (pss_cons (ps_set (i := 5) nd rfl (by first | exact Or.inl rfl | exact Or.inr rfl) (pe_lst pa_nil))
      (pss_cons (ps_for PassesOwn.never rfl (pi_uni (pv 3)) (pg_name (i := 6) nd rfl (by first | exact Or.inl rfl | exact Or.inr rfl)) (pss_one (ps_set (i := 5) nd rfl (by first | exact Or.inl rfl | exact Or.inr rfl) (pe_op op_uAdd (pv 5) (pe_lc (own := [("step", 7)]) rfl nd (pi_uni (pe_ix ix_u (pv 0) pe_int (fun _ _ => rfl))) (blkOk_by (N := N_law_places) (sc := defScope (top 51)) (by decide +kernel)) (fun _ _ _ _ _ => (pg_name (i := 7) nd rfl (by first | exact Or.inl rfl | exact Or.inr rfl))) (fun _ _ _ _ _ => pts_nil) (fun _ _ _ _ _ => (pe_op op_uAdd (pv 6) (pv 7))))))))
      (pss_cons (ps_set (i := 2) nd rfl (by first | exact Or.inl rfl | exact Or.inr rfl) (pe_op op_uAdd (pv 2) (pv 5)))
      (pss_one (ps_set (i := 3) nd rfl (by first | exact Or.inl rfl | exact Or.inr rfl) (pv 5)))))))
      (pss_one (ps_ret (pv 2))))))
theorem cal_law_places (T : Tx K mg) (F : FnP K "_law_places" (top 51)) (pu : ∀ vs H Q E, sp_law_places K vs H Q E → t_law_places K { nx := fun _ H' => Q .non H', rt := Q } (start N_law_places vs) H) (len : ∀ vs H Q E, sp_law_places K vs H Q E → vs.length = 2) : C8.Cal P w K mg base 2 "_law_places" (sp_law_places K) [] :=
  calF F (T.g_law_places) sc_law_places len (fun _ _ _ _ _ _ us hl => match us, hl with | [_, _], _ => rfl) (fun cdv A outer s H E hr => pf_law_places T  hr) pu
theorem sc_law_reached : FnScope N_law_reached ["due"] (defScope (top 52)) := ⟨rfl, rfl, rfl, by decide +kernel, rfl, by decide +kernel, by decide +kernel⟩
theorem pf_law_reached (T : Tx K mg) {f : Addr} {cdv : Value} {A : Around} {outer : List Env} {s : Shared} {H : Hp} {E : XK} (hr : Room 1 (A.deeper (envOfC "_law_reached" (defScope (top 52)) s.heap.objs.size f cdv))) :
    PSs (cxOf CX0 P w K mg base N_law_reached "_law_reached" (defScope (top 52)) f cdv A outer s H E).nox (defBody (top 52)) (t_law_reached K) := by
  have nd := (sc_law_reached).nd
  exact (pss_cons (ps_set (i := 1) nd rfl (by first | exact Or.inl rfl | exact Or.inr rfl) pe_dnewK)
      (pss_cons (ps_set (i := 2) nd rfl (by first | exact Or.inl rfl | exact Or.inr rfl) (pe_lst pa_nil))
      (pss_cons (ps_for PassesOwn.never rfl (pi_uni (pe_ix ix_u (pv 0) pe_int (fun _ _ => rfl))) (pg_name (i := 3) nd rfl (by first | exact Or.inl rfl | exact Or.inr rfl)) (pss_one (ps_if (pt_cmp (pc_dnotin (hu_of hr) (pv 3) (pv 1)) (by with_unfolding_all rfl)) (pss_cons (ps_dput (hu_of hr) (pv 1) (pv 3) pe_bl rfl)
      (pss_one (ps_expr (pe_bm PySem.F.plainAttrs_list PySem.F.slot_list_append PySem.F.type_list_append mt_append (pv 2) (pa_cons (pv 3) pa_nil))))) pss_nil)))
      (pss_cons (ps_for PassesOwn.never rfl (pi_range1 (by rfl) T.range (pa_cons pe_int pa_nil)) (pg_name (i := 4) nd rfl (by first | exact Or.inl rfl | exact Or.inr rfl)) (pss_cons (ps_if (pt_cmpR op_uGe (pv 4) (pe_callB call_uLen (by rfl) T.len (by decide +kernel) (pa_cons (pv 2) pa_nil)) (nomark _)) (pss_one ps_break) pss_nil)
      (pss_one (ps_for PassesOwn.never rfl (pi_uni (pe_ix ix_u (pe_ix ix_u (pv 0) pe_int (fun _ _ => rfl)) (pe_ix ix_u (pv 2) (pv 4) (fun _ _ => rfl)) (fun _ _ => rfl))) (pg_name (i := 3) nd rfl (by first | exact Or.inl rfl | exact Or.inr rfl)) (pss_one (ps_if (pt_cmp (pc_dnotin (hu_of hr) (pv 3) (pv 1)) (by with_unfolding_all rfl)) (pss_cons (ps_dput (hu_of hr) (pv 1) (pv 3) pe_bl rfl)
      (pss_one (ps_expr (pe_bm PySem.F.plainAttrs_list PySem.F.slot_list_append PySem.F.type_list_append mt_append (pv 2) (pa_cons (pv 3) pa_nil))))) pss_nil))))))
      (pss_one (ps_ret (pe_callTy (call_uTuple rfl) (by rfl) T.tuple (by decide +kernel) (pa_cons (pv 2) pa_nil))))))))
theorem cal_law_reached (T : Tx K mg) (F : FnP K "_law_reached" (top 52)) (pu : ∀ vs H Q E, sp_law_reached K vs H Q E → t_law_reached K { nx := fun _ H' => Q .non H', rt := Q } (start N_law_reached vs) H) (len : ∀ vs H Q E, sp_law_reached K vs H Q E → vs.length = 1) : C8.Cal P w K mg base 2 "_law_reached" (sp_law_reached K) [] :=
  calF F (T.g_law_reached) sc_law_reached len (fun _ _ _ _ _ _ us hl => match us, hl with | [_], _ => rfl) (fun cdv A outer s H E hr => pf_law_reached T  hr) pu
theorem sc_law_wrong_string : FnScope N_law_wrong_string ["text", "signs", "strange", "kind", "turn"] (defScope (top 57)) := ⟨rfl, rfl, rfl, by decide +kernel, rfl, by decide +kernel, by decide +kernel⟩
theorem pf_law_wrong_string (T : Tx K mg) {f : Addr} {cdv : Value} {A : Around} {outer : List Env} {s : Shared} {H : Hp} {E : XK} (hr : Room 1 (A.deeper (envOfC "_law_wrong_string" (defScope (top 57)) s.heap.objs.size f cdv))) :
    PSs (cxOf CX0 P w K mg base N_law_wrong_string "_law_wrong_string" (defScope (top 57)) f cdv A outer s H E).nox (defBody (top 57)) (t_law_wrong_string K) := by
  have nd := (sc_law_wrong_string).nd
  exact (pss_cons (ps_setLc (i := 5) (own := [("sign", 9)]) rfl nd rfl rfl (sw_true rfl rfl rfl (by decide +kernel)) (pi_uni (pv 1)) (blkOk_by (N := N_law_wrong_string) (sc := defScope (top 57)) (by decide +kernel)) (fun _ _ _ _ _ => (pg_name (i := 9) nd rfl (by first | exact Or.inl rfl | exact Or.inr rfl))) (fun _ _ _ _ _ => (pts_one (pt_cmpR op_uNotIn (pv 9) (pv 0) (by with_unfolding_all rfl)))) (fun _ _ _ _ _ => (pv 9)))
      (pss_cons (ps_set (i := 6) nd rfl (by first | exact Or.inl rfl | exact Or.inr rfl) (pe_op op_uMod (pv 4) (pe_callB call_uLen (by rfl) T.len (by decide +kernel) (pa_cons (pv 5) pa_nil))))
      (pss_cons (ps_set (i := 5) nd rfl (by first | exact Or.inl rfl | exact Or.inr rfl) (pe_op op_uAdd (pe_slice sl_u (pv 5) (po_some (pv 6)) po_none) (pe_slice sl_u (pv 5) po_none (po_some (pv 6)))))
      (pss_cons (ps_if (pt_cmpR (op_uEq hr.units) (pv 3) pe_int (nomark _)) (pss_one (ps_ret pe_str)) pss_nil)
      (pss_cons (ps_if (pt_cmpR (op_uEq hr.units) (pv 3) pe_int (nomark _)) (pss_one (ps_ret (pe_uJoin pe_str (pe_callB call_uSorted (by rfl) T.sorted (by decide +kernel) (pa_cons (pe_slice sl_u (pe_op op_uAdd (pe_callTy (call_uList rfl) (by rfl) T.list (by decide +kernel) (pa_cons (pv 0) pa_nil)) (pv 5)) po_none (po_some pe_int)) pa_nil))))) pss_nil)
      (pss_cons (ps_if (pt_cmpR (op_uEq hr.units) (pv 3) pe_int (nomark _)) (pss_cons (ps_set (i := 7) nd rfl (by first | exact Or.inl rfl | exact Or.inr rfl) (pe_callB call_uSorted (by rfl) T.sorted (by decide +kernel) (pa_cons (pe_slice sl_u (pe_op op_uAdd (pe_callTy (call_uList rfl) (by rfl) T.list (by decide +kernel) (pa_cons (pv 0) pa_nil)) (pv 5)) po_none (po_some (pe_callB (call_uMax rfl) (by rfl) T.max (by decide +kernel) (pa_cons pe_int (pa_cons (pe_callB call_uLen (by rfl) T.len (by decide +kernel) (pa_cons (pv 0) pa_nil)) pa_nil))))) pa_nil)))
      (pss_cons (ps_set (i := 8) nd rfl (by first | exact Or.inl rfl | exact Or.inr rfl) (pe_op op_uMod (pv 4) (pe_op op_uSub (pe_callB call_uLen (by rfl) T.len (by decide +kernel) (pa_cons (pv 7) pa_nil)) pe_int)))
      (pss_one (ps_ret (pe_uJoin pe_str (pe_op op_uAdd (pe_op op_uAdd (pe_slice sl_u (pv 7) po_none (po_some (pv 8))) (pe_lst (pa_cons (pe_ix ix_u (pv 7) (pe_op op_uAdd (pv 8) pe_int) (fun _ _ => rfl)) (pa_cons (pe_ix ix_u (pv 7) (pv 8) (fun _ _ => rfl)) pa_nil)))) (pe_slice sl_u (pv 7) (po_some (pe_op op_uAdd (pv 8) pe_int)) po_none))))))) pss_nil)
      (pss_cons (ps_if (pt_cmpR (op_uEq hr.units) (pv 3) pe_int (nomark _)) (pss_one (ps_ret (pe_uJoin pe_str (pe_callB call_uSorted (by rfl) T.sorted (by decide +kernel) (pa_cons (pe_op op_uAdd (pe_callTy (call_uList rfl) (by rfl) T.list (by decide +kernel) (pa_cons (pe_slice sl_u (pv 0) po_none (po_some pe_int)) pa_nil)) (pe_lst (pa_cons (pe_ix ix_u (pv 0) (pe_op op_uMod (pv 4) (pe_callB (call_uMin rfl) (by rfl) T.min (by decide +kernel) (pa_cons pe_int (pa_cons (pe_callB call_uLen (by rfl) T.len (by decide +kernel) (pa_cons (pv 0) pa_nil)) pa_nil)))) (fun _ _ => rfl)) pa_nil))) pa_nil))))) pss_nil)
      (pss_one (ps_ret (pe_uJoin pe_str (pe_callB call_uSorted (by rfl) T.sorted (by decide +kernel) (pa_cons (pe_op op_uAdd (pe_callTy (call_uList rfl) (by rfl) T.list (by decide +kernel) (pa_cons (pe_slice sl_u (pv 0) po_none (po_some pe_int)) pa_nil)) (pe_lst (pa_cons (pe_ix ix_u (pv 2) (pe_op op_uMod (pv 4) (pe_callB call_uLen (by rfl) T.len (by decide +kernel) (pa_cons (pv 2) pa_nil))) (fun _ _ => rfl)) pa_nil))) pa_nil))))))))))))
theorem cal_law_wrong_string (T : Tx K mg) (F : FnP K "_law_wrong_string" (top 57)) (pu : ∀ vs H Q E, sp_law_wrong_string K vs H Q E → t_law_wrong_string K { nx := fun _ H' => Q .non H', rt := Q } (start N_law_wrong_string vs) H) (len : ∀ vs H Q E, sp_law_wrong_string K vs H Q E → vs.length = 5) : C8.Cal P w K mg base 2 "_law_wrong_string" (sp_law_wrong_string K) [] :=
  calF F (T.g_law_wrong_string) sc_law_wrong_string len (fun _ _ _ _ _ _ us hl => match us, hl with | [_, _, _, _, _], _ => rfl) (fun cdv A outer s H E hr => pf_law_wrong_string T  hr) pu
theorem sc_law_wrong_marked : FnScope N_law_wrong_marked ["texts", "kind", "at", "turn"] (defScope (top 58)) := ⟨rfl, rfl, rfl, by decide +kernel, rfl, by decide +kernel, by decide +kernel⟩
theorem pf_law_wrong_marked (T : Tx K mg) (c_law_wrong_string : C8.Cal P w K mg base 2 "_law_wrong_string" (sp_law_wrong_string K) []) {f : Addr} {cdv : Value} {A : Around} {outer : List Env} {s : Shared} {H : Hp} {E : XK} (hr : Room 2 (A.deeper (envOfC "_law_wrong_marked" (defScope (top 58)) s.heap.objs.size f cdv))) :
    PSs (cxOf CX0 P w K mg base N_law_wrong_marked "_law_wrong_marked" (defScope (top 58)) f cdv A outer s H E).nox (defBody (top 58)) (t_law_wrong_marked K) := by
  have nd := (sc_law_wrong_marked).nd
  exact (pss_cons (ps_if (pt_cmpR (op_uEq hr.units) (pv 1) pe_int (nomark _)) (pss_one (ps_ret (pe_tup pa_nil))) pss_nil)
      (pss_cons (ps_set (i := 4) nd rfl (by first | exact Or.inl rfl | exact Or.inr rfl) (pe_op op_uMod (pv 2) (pe_callB call_uLen (by rfl) T.len (by decide +kernel) (pa_cons (pv 0) pa_nil))))
      (pss_cons (ps_set (i := 5) nd rfl (by first | exact Or.inl rfl | exact Or.inr rfl) pe_str)
      (pss_cons (ps_set (i := 6) nd rfl (by first | exact Or.inl rfl | exact Or.inr rfl) (pe_ix ix_u (pv 0) (pv 4) (fun _ _ => rfl)))
      (C8.pss_cut (ps_if (pt_cmpR (op_uEq hr.units) (pv 6) pe_str (nomark _)) (pss_one (ps_set (i := 6) nd rfl (by first | exact Or.inl rfl | exact Or.inr rfl) (pe_ix ix_u (pv 5) (pe_op op_uMod (pv 3) pe_int) (fun _ _ => rfl)))) pss_nil)
      (pss_cons (ps_set (i := 6) nd rfl (by first | exact Or.inl rfl | exact Or.inr rfl) (C8.pe_c c_law_wrong_string hr (by decide) (by rfl) (pa_cons (pv 6) (pa_cons (pv 5) (pa_cons (pe_strE (by decide +kernel)) (pa_cons (pe_op op_uAdd (pv 1) pe_int) (pa_cons (pv 3) pa_nil)))))))
      (pss_one (ps_ret (pe_op op_uAdd (pe_op op_uAdd (pe_slice sl_u (pv 0) po_none (po_some (pv 4))) (pe_tup (pa_cons (pv 6) pa_nil))) (pe_slice sl_u (pv 0) (po_some (pe_op op_uAdd (pv 4) pe_int)) po_none))))))))))
theorem cal_law_wrong_marked (T : Tx K mg) (F : FnP K "_law_wrong_marked" (top 58)) (c_law_wrong_string : C8.Cal P w K mg base 2 "_law_wrong_string" (sp_law_wrong_string K) []) (pu : ∀ vs H Q E, sp_law_wrong_marked K vs H Q E → t_law_wrong_marked K { nx := fun _ H' => Q .non H', rt := Q } (start N_law_wrong_marked vs) H) (len : ∀ vs H Q E, sp_law_wrong_marked K vs H Q E → vs.length = 4) : C8.Cal P w K mg base 3 "_law_wrong_marked" (sp_law_wrong_marked K) [] :=
  calF F (T.g_law_wrong_marked) sc_law_wrong_marked len (fun _ _ _ _ _ _ us hl => match us, hl with | [_, _, _, _], _ => rfl) (fun cdv A outer s H E hr => pf_law_wrong_marked T c_law_wrong_string hr) pu
theorem sc_law_wrong_moves : FnScope N_law_wrong_moves ["lines", "kind", "at", "turn"] (defScope (top 59)) := ⟨rfl, rfl, rfl, by decide +kernel, rfl, by decide +kernel, by decide +kernel⟩
theorem pf_law_wrong_moves (T : Tx K mg) {f : Addr} {cdv : Value} {A : Around} {outer : List Env} {s : Shared} {H : Hp} {E : XK} (hr : Room 1 (A.deeper (envOfC "_law_wrong_moves" (defScope (top 59)) s.heap.objs.size f cdv))) :
    PSs (cxOf CX0 P w K mg base N_law_wrong_moves "_law_wrong_moves" (defScope (top 59)) f cdv A outer s H E).nox (defBody (top 59)) (t_law_wrong_moves K) := by
  have nd := (sc_law_wrong_moves).nd
  exact (pss_cons (ps_set (i := 4) nd rfl (by first | exact Or.inl rfl | exact Or.inr rfl) (pe_callB call_uLen (by rfl) T.len (by decide +kernel) (pa_cons (pv 0) pa_nil)))
      (pss_cons (ps_setLc (i := 5) (own := [("line", 7)]) rfl nd rfl rfl (sw_true rfl rfl rfl (by decide +kernel)) (pi_uni (pv 0)) (blkOk_by (N := N_law_wrong_moves) (sc := defScope (top 59)) (by decide +kernel)) (fun _ _ _ _ _ => (pg_name (i := 7) nd rfl (by first | exact Or.inl rfl | exact Or.inr rfl))) (fun _ _ _ _ _ => pts_nil) (fun _ _ _ _ _ => (pe_callTy (call_uList rfl) (by rfl) T.list (by decide +kernel) (pa_cons (pv 7) pa_nil))))
      (pss_cons (ps_set (i := 6) nd rfl (by first | exact Or.inl rfl | exact Or.inr rfl) (pe_op op_uMod (pv 2) (pv 4)))
      (pss_cons (ps_set (i := 7) nd rfl (by first | exact Or.inl rfl | exact Or.inr rfl) (pe_ix ix_u (pv 5) (pv 6) (fun _ _ => rfl)))
      (pss_cons (ps_set (i := 8) nd rfl (by first | exact Or.inl rfl | exact Or.inr rfl) (pe_op op_uMod (pv 3) (pe_callB call_uLen (by rfl) T.len (by decide +kernel) (pa_cons (pv 7) pa_nil))))
      (C8.pss_cut (ps_if (pt_cmpR (op_uEq hr.units) (pv 1) pe_int (nomark _)) (pss_one (ps_expr (pe_bm PySem.F.plainAttrs_list PySem.F.slot_list_pop PySem.F.type_list_pop mt_popAt (pv 5) (pa_cons (pv 6) pa_nil)))) (pss_one (ps_if (pt_cmpR (op_uEq hr.units) (pv 1) pe_int (nomark _)) (pss_one (ps_expr (pe_bm PySem.F.plainAttrs_list PySem.F.slot_list_insert PySem.F.type_list_insert mt_uInsert (pv 5) (pa_cons (pv 6) (pa_cons (pe_callTy (call_uList rfl) (by rfl) T.list (by decide +kernel) (pa_cons (pv 7) pa_nil)) pa_nil))))) (pss_one (ps_if (PW.pt (pw_or (pt_cmpR (op_uEq hr.units) (pv 1) pe_int (nomark _)) (pw_or1 (PW.pt (pw_and (pt_cmpR (op_uEq hr.units) (pv 1) pe_int (nomark _)) (pw_and1 (pt_cmpR (op_uEq hr.units) (pv 4) pe_int (nomark _)))))))) (pss_one (ps_expr (pe_bm PySem.F.plainAttrs_list PySem.F.slot_list_pop PySem.F.type_list_pop mt_popAt (pv 7) (pa_cons (pv 8) pa_nil)))) (pss_one (ps_if (pt_cmpR (op_uEq hr.units) (pv 1) pe_int (nomark _)) (pss_one (ps_expr (pe_bm PySem.F.plainAttrs_list PySem.F.slot_list_insert PySem.F.type_list_insert mt_uInsert (pv 7) (pa_cons (pv 8) (pa_cons (pe_ix ix_u (pv 7) (pv 8) (fun _ _ => rfl)) pa_nil))))) (pss_one (ps_if (pt_cmpR (op_uEq hr.units) (pv 1) pe_int (nomark _)) (pss_one (ps_asg (pv 4) (pg_sub (pv 7) (pv 8) set_list))) (pss_one (ps_if (pt_cmpR (op_uEq hr.units) (pv 1) pe_int (nomark _)) (pss_one (ps_asg (pe_un un_uNeg pe_int) (pg_sub (pv 7) (pv 8) set_list))) (pss_one (ps_if (pt_cmpR (op_uEq hr.units) (pv 1) pe_int (nomark _)) (pss_one (ps_asg (pe_op op_uAdd (pe_op op_uAdd (pv 4) pe_int) (pv 3)) (pg_sub (pv 7) (pv 8) set_list))) (pss_one (ps_if (pt_cmpR (op_uEq hr.units) (pv 1) pe_int (nomark _)) (pss_one (ps_asg (pe_op op_uSub (pe_op op_uSub pe_int (pv 4)) (pv 3)) (pg_sub (pv 7) (pv 8) set_list))) (pss_cons (ps_expr (pe_bm PySem.F.plainAttrs_list PySem.F.slot_list_pop PySem.F.type_list_pop mt_popAt (pv 7) (pa_cons (pv 8) pa_nil)))
      (pss_one (ps_expr (pe_bm PySem.F.plainAttrs_list PySem.F.slot_list_append PySem.F.type_list_append mt_append (pe_ix ix_u (pv 5) (pe_op op_uMod (pe_op op_uAdd (pv 6) pe_int) (pv 4)) (fun _ _ => rfl)) (pa_cons pe_int pa_nil))))))))))))))))))))
      (pss_one (ps_ret (pv 5)))))))))
theorem cal_law_wrong_moves (T : Tx K mg) (F : FnP K "_law_wrong_moves" (top 59)) (pu : ∀ vs H Q E, sp_law_wrong_moves K vs H Q E → t_law_wrong_moves K { nx := fun _ H' => Q .non H', rt := Q } (start N_law_wrong_moves vs) H) (len : ∀ vs H Q E, sp_law_wrong_moves K vs H Q E → vs.length = 4) : C8.Cal P w K mg base 2 "_law_wrong_moves" (sp_law_wrong_moves K) [] :=
  calF F (T.g_law_wrong_moves) sc_law_wrong_moves len (fun _ _ _ _ _ _ us hl => match us, hl with | [_, _, _, _], _ => rfl) (fun cdv A outer s H E hr => pf_law_wrong_moves T  hr) pu
theorem sc_law_wrong_starts : FnScope N_law_wrong_starts ["begins", "many", "kind", "turn"] (defScope (top 60)) := ⟨rfl, rfl, rfl, by decide +kernel, rfl, by decide +kernel, by decide +kernel⟩
theorem pf_law_wrong_starts (T : Tx K mg) {f : Addr} {cdv : Value} {A : Around} {outer : List Env} {s : Shared} {H : Hp} {E : XK} (hr : Room 1 (A.deeper (envOfC "_law_wrong_starts" (defScope (top 60)) s.heap.objs.size f cdv))) :
    PSs (cxOf CX0 P w K mg base N_law_wrong_starts "_law_wrong_starts" (defScope (top 60)) f cdv A outer s H E).nox (defBody (top 60)) (t_law_wrong_starts K) := by
  have nd := (sc_law_wrong_starts).nd
  exact (pss_cons (ps_set (i := 4) nd rfl (by first | exact Or.inl rfl | exact Or.inr rfl) (pe_callTy (call_uList rfl) (by rfl) T.list (by decide +kernel) (pa_cons (pv 0) pa_nil)))
      (pss_cons (ps_set (i := 5) nd rfl (by first | exact Or.inl rfl | exact Or.inr rfl) (pe_op op_uMod (pv 3) (pe_callB call_uLen (by rfl) T.len (by decide +kernel) (pa_cons (pv 4) pa_nil))))
      (C8.pss_cut (ps_if (pt_cmpR (op_uEq hr.units) (pv 2) pe_int (nomark _)) (pss_one (ps_expr (pe_bm PySem.F.plainAttrs_list PySem.F.slot_list_pop PySem.F.type_list_pop mt_popAt (pv 4) (pa_cons (pv 5) pa_nil)))) (pss_one (ps_if (pt_cmpR (op_uEq hr.units) (pv 2) pe_int (nomark _)) (pss_one (ps_expr (pe_bm PySem.F.plainAttrs_list PySem.F.slot_list_insert PySem.F.type_list_insert mt_uInsert (pv 4) (pa_cons (pv 5) (pa_cons (pe_ix ix_u (pv 4) (pv 5) (fun _ _ => rfl)) pa_nil))))) (pss_one (ps_asg (pe_ix ix_u (pe_lst (pa_cons (pv 1) (pa_cons (pe_un un_uNeg pe_int) (pa_cons (pe_op op_uAdd (pe_op op_uAdd (pv 1) pe_int) (pv 3)) (pa_cons (pe_op op_uSub (pe_op op_uSub pe_int (pv 1)) (pv 3)) pa_nil))))) (pe_op op_uSub (pv 2) pe_int) (fun _ _ => rfl)) (pg_sub (pv 4) (pv 5) set_list))))))
      (pss_one (ps_ret (pv 4))))))
theorem cal_law_wrong_starts (T : Tx K mg) (F : FnP K "_law_wrong_starts" (top 60)) (pu : ∀ vs H Q E, sp_law_wrong_starts K vs H Q E → t_law_wrong_starts K { nx := fun _ H' => Q .non H', rt := Q } (start N_law_wrong_starts vs) H) (len : ∀ vs H Q E, sp_law_wrong_starts K vs H Q E → vs.length = 4) : C8.Cal P w K mg base 2 "_law_wrong_starts" (sp_law_wrong_starts K) [] :=
  calF F (T.g_law_wrong_starts) sc_law_wrong_starts len (fun _ _ _ _ _ _ us hl => match us, hl with | [_, _, _, _], _ => rfl) (fun cdv A outer s H E hr => pf_law_wrong_starts T  hr) pu
end
end K39
set_option Elab.async false
set_option linter.all false
set_option maxRecDepth 100000
set_option maxHeartbeats 4000000
namespace K39
open PySem L2 PySem.Spec PyProof.Rows Uni
section
variable {P : Program} {w : World} {K : PySem.W.Frag} {mg : Str → Option Value} {base : Heap}
theorem sc_least_places_of : FnScope N_least_places_of ["steps", "roots", "starts", "moves"] (defScope (top 36)) := ⟨rfl, rfl, rfl, by decide +kernel, rfl, by decide +kernel, by decide +kernel⟩
theorem pf_least_places_of (T : Tx K mg) {f : Addr} {cdv : Value} {A : Around} {outer : List Env} {s : Shared} {H : Hp} {E : XK} (hr : Room 1 (A.deeper (envOfC "least_places_of" (defScope (top 36)) s.heap.objs.size f cdv))) :
    PSs (cxOf CX0 P w K mg base N_least_places_of "least_places_of" (defScope (top 36)) f cdv A outer s H E).nox (defBody (top 36)) (t_least_places_of K) := by
  have nd := (sc_least_places_of).nd
  exact (pss_cons (ps_set (i := 4) nd rfl (by first | exact Or.inl rfl | exact Or.inr rfl) pe_dnewK)
      (pss_cons (ps_setLc (i := 5) (own := [("start", 9), ("root", 10)]) rfl nd rfl rfl (sw_true rfl rfl rfl (by decide +kernel)) (pi_zipS (by rfl) T.zip (pa_cons (pv 2) (pa_cons (pv 1) pa_nil))) (blkOk_by (N := N_least_places_of) (sc := defScope (top 36)) (by decide +kernel)) (fun _ _ _ _ _ => (pg_tup rfl (pgs_cons (pg_name (i := 9) nd rfl (by first | exact Or.inl rfl | exact Or.inr rfl)) (pgs_cons (pg_name (i := 10) nd rfl (by first | exact Or.inl rfl | exact Or.inr rfl)) pgs_nil)))) (fun _ _ _ _ _ => pts_nil) (fun _ _ _ _ _ => (pe_tup (pa_cons (pv 9) (pa_cons (pv 10) pa_nil)))))
      (pss_cons (ps_while PassesOwn.never (pt_truth (pv 5) (by intro _; rfl)) (pss_cons (ps_set (i := 6) nd rfl (by first | exact Or.inl rfl | exact Or.inr rfl) (pe_lst pa_nil))
      (pss_cons (ps_for PassesOwn.never rfl (pi_uni (pv 5)) (pg_tup rfl (pgs_cons (pg_name (i := 7) nd rfl (by first | exact Or.inl rfl | exact Or.inr rfl)) (pgs_cons (pg_name (i := 8) nd rfl (by first | exact Or.inl rfl | exact Or.inr rfl)) pgs_nil))) (pss_one (ps_if (pt_cmp (pc_dnotin (hu_of hr) (pv 7) (pv 4)) (by with_unfolding_all rfl)) (pss_cons (ps_dput (hu_of hr) (pv 4) (pv 7) (pv 8) rfl)
      (pss_one (ps_expr (pe_bm PySem.F.plainAttrs_list PySem.F.slot_list_extend PySem.F.type_list_extend mt_extend (pv 6) (pa_cons (pe_lc (own := [("target", 11), ("step", 12)]) rfl nd (pi_zipS (by rfl) T.zip (pa_cons (pe_ix ix_u (pv 3) (pv 7) (fun _ _ => rfl)) (pa_cons (pv 0) pa_nil))) (blkOk_by (N := N_least_places_of) (sc := defScope (top 36)) (by decide +kernel)) (fun _ _ _ _ _ => (pg_tup rfl (pgs_cons (pg_name (i := 11) nd rfl (by first | exact Or.inl rfl | exact Or.inr rfl)) (pgs_cons (pg_name (i := 12) nd rfl (by first | exact Or.inl rfl | exact Or.inr rfl)) pgs_nil)))) (fun _ _ _ _ _ => pts_nil) (fun _ _ _ _ _ => (pe_tup (pa_cons (pv 11) (pa_cons (pe_op op_uAdd (pv 8) (pv 12)) pa_nil))))) pa_nil))))) pss_nil)))
      (pss_one (ps_set (i := 5) nd rfl (by first | exact Or.inl rfl | exact Or.inr rfl) (pe_callTy (call_uList rfl) (by rfl) T.list (by decide +kernel) (pa_cons (pv 6) pa_nil)))))))
      (pss_one (ps_ret (pv 4))))))
theorem cal_least_places_of (T : Tx K mg) (F : FnP K "least_places_of" (top 36)) (pu : ∀ vs H Q E, sp_least_places_of K vs H Q E → t_least_places_of K { nx := fun _ H' => Q .non H', rt := Q } (start N_least_places_of vs) H) (len : ∀ vs H Q E, sp_least_places_of K vs H Q E → vs.length = 4) : C8.Cal P w K mg base 2 "least_places_of" (sp_least_places_of K) [] :=
  calF F (T.g_least_places_of) sc_least_places_of len (fun _ _ _ _ _ _ us hl => match us, hl with | [_, _, _, _], _ => rfl) (fun cdv A outer s H E hr => pf_least_places_of T  hr) pu
end
end K39
set_option Elab.async false
set_option linter.all false
set_option maxRecDepth 100000
set_option maxHeartbeats 2000000
/-! Uni, own classes: == and != by an own __eq__, any right side; calls by keyword. -/
namespace Uni
open PySem L2 PySem.Spec PyProof.Rows
section
variable {prog : Program} {w : World} {A : Around} {E : Value → Shared → Prop} {s : Shared} {K : PySem.W.Frag} {x C g L : Addr} {ox : Obj} {od : Option Obj} {b tb : Value} {h₀ : Heap} {m : Str → Option Value}
/-- object.__ne__ where __eq__ is a def -/
theorem ne_entry (X : K.In s.heap) (I : PySem.W.InstAt s.heap x ox C od) (he : PySem.W.findIn K (.ref C) "__eq__" = some (some (.ref g))) (hf : PySem.W.isFn K (.ref g) = true) (hu : A.units < cLine) {Q : Fin → Shared → Prop}
    (h : wpAny (model prog w) A (call (.ref g) [.ref x, b]) (fun v s' => ∃ k, v = .bool k ∧ Q (.done (.ret (.bool (!k)))) s') E s) : wpAny (model prog w) A (Builtin.«object.__ne__» ⟨[.ref x, b], []⟩) Q E s := by
  have one := PySem.W.ifBound_K (args := [b]) (Q := fun v s' => ∃ k, v = some (.bool k) ∧ Q (.done (.ret (.bool (!k)))) s') X I he hf (wpAny_mono h (fun v s' hv => by obtain ⟨k, rfl, q⟩ := hv; exact ⟨k, rfl, q⟩) fun _ _ z => z)
  unfold Builtin.«object.__ne__»
  repeat (first
    | with_reducible refine wpAny_cRoomFor hu ?_
    | (refine wpAny_bind (m := callSpecialIfBound? (.ref x) (Str.ofString "__eq__") [b]) (wpAny_mono one (fun r s' hr => by
          obtain ⟨k, rfl, q⟩ := hr
          repeat (first | exact q | exact wpAny_pure q | exact wpAny_truthy_bool q | (refine wpAny_bind (m := truthy (.bool _)) (wpAny_truthy_bool ?_)) | wp_step)) fun _ _ z => z))
    | wp_step)
/-- what the class has: its own __eq__ at g, no __ne__ of its own -/
structure EqC (K : PySem.W.Frag) (C g : Addr) : Prop where
  eq : PySem.W.findIn K (.ref C) "__eq__" = some (some (.ref g))
  ne : PySem.W.findIn K (.ref C) "__ne__" = some (some (.builtin "object.__ne__"))
  fn : PySem.W.isFn K (.ref g) = true
  ob : PySem.W.subIn K (.ref C) (.type "object") = some true
theorem ne_try (X : K.In s.heap) (I : PySem.W.InstAt s.heap x ox C od) (c : EqC K C g) (hu : A.units + 1 < cLine) {Q : Option Value → Shared → Prop}
    (h : wpAny (model prog w) A.in1 (call (.ref g) [.ref x, b]) (fun v s' => ∃ k, v = .bool k ∧ Q (some (.bool (!k))) s') E s) : wpAny (model prog w) A (tryCompare (.ref x) "__ne__" b) Q E s := by
  have hi : PySem.W.Looks (model prog w) s.heap (isInstance (.ref x) (.type "object")) true := I.type.andThen (PySem.W.looks_subIn X c.ob)
  have go : wpAny (model prog w) A (call (.builtin "object.__ne__") (.ref x :: [b])) (fun v s' => ∃ k, v = .bool k ∧ Q (some v) s') E s := by
    refine wpAny_call (codeAny_call_builtin F.cmp_object.ne.plain F.cmpEntry_ne (PySem.W.check_slot F.cmpKind_ne F.cmpSplit_ne hi (F.cmpArgs_ne _ _) (ne_entry (A := A.in1) X I c.eq c.fn (by show A.units + 1 < _; exact hu) (wpAny_mono h (fun v s' hv => ?_) fun _ _ z => z))))
    obtain ⟨k, rfl, q⟩ := hv
    exact ⟨k, rfl, ⟨!k, rfl, q⟩⟩
  have two : wpAny (model prog w) A (callSpecialIfBound? (.ref x) "__ne__" [b]) (fun v s' => ∃ k, v = some (.bool k) ∧ Q v s') E s := by
    unfold callSpecialIfBound? bindSpecialIfBound?
    refine wpAny_holding (wpAny_bind (wpAny_bind (wpAny_bind (I.type.here ((PySem.W.looks_findIn X c.ne).here ?_)))))
    simp only [F.cmp_object.ne.bind]
    have fin : wpAny (model prog w) A (call (.builtin "object.__ne__") ([.ref x] ++ [b]) >>= fun v => pure (some v)) (fun v s' => ∃ k, v = some (.bool k) ∧ Q v s') E s :=
      wpAny_bind (wpAny_mono go (fun v s' ⟨k, e, q⟩ => wpAny_pure ⟨k, by rw [e], q⟩) fun _ _ z => z)
    refine wpAny_bind (wpAny_askSetting (wpAny_ite ?_))
    split
    · exact wpAny_bind (wpAny_pure (wpAny_pure fin))
    · exact wpAny_tryCatch (wpAny_bind (wpAny_pure (wpAny_pure fin)))
  unfold tryCompare
  refine wpAny_bind (wpAny_mono two (fun r s' hr => ?_) fun _ _ z => z)
  obtain ⟨k, rfl, q⟩ := hr
  exact wpAny_pure q
theorem ne_rich (X₀ : K.In h₀) (F : Fr h₀ L s.heap m) (I : PySem.W.InstAt s.heap x ox C od) (hb : PySem.W.Looks (model prog w) s.heap (typeOf b) tb) (hn : PySem.W.notFirst K C tb = true) (c : EqC K C g) (hu : A.units + 1 < cLine) {Q : Value → Shared → Prop}
    (h : wpAny (model prog w) A.in1 (call (.ref g) [.ref x, b]) (fun v s' => ∃ k, v = .bool k ∧ Q (.bool (!k)) s') E s) : wpAny (model prog w) A (richCompare .NotEq (.ref x) b) Q E s := by
  have X := X₀.keeps F.keep
  have one : wpAny (model prog w) A (tryCompare (.ref x) "__ne__" b) (fun r s' => ∃ v, r = some v ∧ Q v s') E s :=
    ne_try X I c hu (wpAny_mono h (fun v s' ⟨k, e, q⟩ => ⟨k, e, _, rfl, q⟩) fun _ _ z => z)
  have fin : wpAny (model prog w) A (tryCompare (.ref x) "__ne__" b >>= fun r => match r with | some v => pure v | none => pure Value.none) Q E s :=
    wpAny_bind (wpAny_mono one (fun r s' ⟨v, e, q⟩ => by subst e; exact wpAny_pure q) fun _ _ z => z)
  unfold richCompare
  simp only [oneThing_ref]
  refine wpAny_holding (wpAny_bind (wpAny_cRoomFor (Nat.lt_of_succ_lt hu) ?_))
  rw [cmpInfo_NotEq]
  refine wpAny_bind (I.type.here (wpAny_bind (hb.here ?_)))
  have tail : ∀ {k : Option Value → Sem Value}, (∀ v s', Q v s' → wpAny (model prog w) A (k (some v)) Q E s') → wpAny (model prog w) A (tryCompare (.ref x) "__ne__" b >>= k) Q E s :=
    fun hk => wpAny_bind (wpAny_mono one (fun r s' ⟨v, e, q⟩ => by subst e; exact hk v s' q) fun _ _ z => z)
  split
  · rename_i q
    have e : PySem.W.subIn K tb (.ref C) = some false := by
      rcases Bool.or_eq_true_iff.mp hn with e | e
      · rw [beq_iff_eq.mp e] at q
        simp at q
      · exact beq_iff_eq.mp e
    refine wpAny_bind ((PySem.W.looks_subIn X e).here ?_)
    simp only [Bool.false_eq_true, if_false]
    exact tail fun v s' q => wpAny_pure q
  · refine wpAny_bind (wpAny_pure ?_)
    simp only [Bool.false_eq_true, if_false]
    exact tail fun v s' q => wpAny_pure q
end
/-! ### the rules -/
/-- what the def at g is asked: it answers a truth value -/
def eqAns (Q : Bool → Hp → Prop) : VK := fun v H => ∃ k, v = .bl k ∧ Q k H
def rEqO (K : PySem.W.Frag) (C : Addr) (sp : Sp) : R2 := fun x y H Q => ∃ a dx fs t, x = .ref a ∧ H a = some (.ins C dx fs) ∧ TyX K H y t ∧ PySem.W.notFirst K C t = true ∧ sp [x, y] H (eqAns fun k H' => Q (.bl k) H') (fun _ _ _ => False)
def rNeO (K : PySem.W.Frag) (C : Addr) (sp : Sp) : R2 := fun x y H Q => ∃ a dx fs t, x = .ref a ∧ H a = some (.ins C dx fs) ∧ TyX K H y t ∧ PySem.W.notFirst K C t = true ∧ sp [x, y] H (eqAns fun k H' => Q (.bl (!k)) H') (fun _ _ _ => False)
section
variable {X : Cx} {C g : Addr} {sp : Sp} {CX : CXT} {n : Nat}
theorem op_eqO (c : EqC X.K C g) (F : FnR X.prog X.w X.K X.mg X.base CX n g sp) (hr : Room n X.A) (hx : Passes CX X (fun _ _ _ => False)) : OpR X (compareOp .Eq) (rEqO X.K C sp) := by
  intro pins s σ H x y v u Q I rx ry h
  obtain ⟨a, dx, fs, t, rfl, ha, ty, hn, q⟩ := h
  obtain rfl : v = Value.ref a := rx
  obtain ⟨ox, od, J, _⟩ := StX.insC_at I (Or.inr ⟨dx, fs, ha⟩)
  obtain ⟨P, kx, hP, _⟩ := kit_of I ry ty
  obtain ⟨m, hF⟩ := I.fr
  show wpAny _ _ (richCompare .Eq (.ref a) u) _ _ _
  refine PySem.W.cmp_K (op := .Eq) hr.units0 hF I.ok.mod.kin J (kx.ty _ _ I.kIn hP) hn c.eq c.fn ?_
  refine wpAny_mono (wpAny_call (run_fnR (us := [.ref a, u]) (vs := [.ref a, y]) F hr hx I (.cons rfl (.cons ry .nil)) q)) (fun r s' hz => ?_) fun _ _ z => z
  obtain ⟨z, H', I', rz, k, ez, qz⟩ := hz
  subst ez
  exact SlX.cmpback rz ⟨.bl k, H', I', rz, qz⟩
theorem op_neO (c : EqC X.K C g) (F : FnR X.prog X.w X.K X.mg X.base CX n g sp) (hr : Room (n + 1) X.A) (hx : Passes CX X (fun _ _ _ => False)) : OpR X (compareOp .NotEq) (rNeO X.K C sp) := by
  intro pins s σ H x y v u Q I rx ry h
  obtain ⟨a, dx, fs, t, rfl, ha, ty, hn, q⟩ := h
  obtain rfl : v = Value.ref a := rx
  obtain ⟨ox, od, J, _⟩ := StX.insC_at I (Or.inr ⟨dx, fs, ha⟩)
  obtain ⟨P, kx, hP, _⟩ := kit_of I ry ty
  obtain ⟨m, hF⟩ := I.fr
  have hu := hr.units
  show wpAny _ _ (richCompare .NotEq (.ref a) u) _ _ _
  refine ne_rich I.ok.mod.kin hF J (kx.ty _ _ I.kIn hP) hn c (Nat.lt_of_le_of_lt (Nat.add_le_add_left (by decide : 1 ≤ 64) _) hu) ?_
  refine wpAny_mono (wpAny_call (SlX.run_at (us := [.ref a, u]) (ws := [.ref a, y]) F (Room.in1 hr) I.env0.in1 hx I (.cons rfl (.cons ry .nil)) q)) (fun r s' hz => ?_) fun _ _ z => z
  obtain ⟨z, H', I', rz, k, ez, qz⟩ := hz
  subst ez
  obtain rfl : r = Value.bool k := rz
  exact ⟨k, rfl, .bl (!k), H', I', rfl, qz⟩
end
end Uni
set_option Elab.async false
set_option linter.all false
set_option maxRecDepth 100000
set_option maxHeartbeats 2000000
namespace Uni
open PySem L2 PySem.Spec PyProof.Rows
section
variable {K : PySem.W.Frag} {x qual : Str} {params : Arguments} {body : List Stmt} {scope : Scope} {f : Addr} {fd : FuncData} {ps : List Str}
/-- a def without any default, its last parameters told by name -/
theorem kbinds_plain (F : FunD K x qual params body scope [] [] f fd) (n : Nat) (ks : List Str) (g : {α : Type} → List α → List α → List α) (hrel : ∀ {vs zs : List V} {us ws : List Value}, Vals vs us → Vals zs ws → Vals (g vs zs) (g us ws))
    (h : ∀ (kV doc pm : Value) (an : Option Addr) (cdv ct : Value) (us ws : List Value), us.length = n → ws.length = ks.length → bindArgs (PySem.W.fnOf x qual params body scope .none kV doc pm an cdv ct) ⟨us, ks.zip ws⟩ = pure (ps.zip (g us ws))) :
    KBn K fd ps n ks (fun us ws => g us ws) (fun vs zs => g vs zs) := by
  obtain ⟨oc, od, dV, kV, doc, pm, an, cdv, ct, osl, rfl, lk, hcd, hD, hK⟩ := F.ex
  rcases hD with ⟨_, e⟩ | ⟨e, _⟩
  · subst e
    exact ⟨fun s us ws _ l1 l2 => BindsTo.of_eq (h kV doc pm an cdv ct us ws l1 l2), fun a b => hrel a b⟩
  · exact absurd rfl e
end
section
variable {X : Cx} {CX : CXT} {k : Nat} {C f : Addr} {fd : FuncData} {ps ks : List Str} {sp : Sp} {E : XK} {m : Str} {pos apos : Pos} {o fe : Expr} {kws : List Keyword} {ta tf : TE} {tk : TA} {g : List Value → List Value → List Value} {gV : List V → List V → List V}
theorem run_kw {n : Nat} {pins : List (Addr × Obj)} {σ : L2.St} {H : Hp} {s : Shared} {Q : VK} {us ws : List Value} {vs zs : List V} (F : FnOk X.prog X.w X.K X.mg X.base CX k f fd ps sp) (hr : Room k X.A) (hb : KBn X.K fd ps n ks g gV) (hx : Passes CX X E)
    (I : Inv X pins σ H s) (r : Vals vs us) (rz : Vals zs ws) (l1 : us.length = n) (l2 : ws.length = ks.length) (h : sp (gV vs zs) H Q E) :
    codeAny (model X.prog X.w) X.A (.call (.ref f) ⟨us, ks.zip ws⟩) (fun r s' => match r with | .ok (.ret v) => EP X pins σ Q v s' | .ok _ => False | .error e => X.xe e s') s := by
  refine codeAny_mono (F.run X.A X.stack s H ⟨us, ks.zip ws⟩ (g us ws) (gV vs zs) Q E hr I.env0 (hb.to s us ws I.kIn l1 l2) (hb.rel r rz) h) fun r s' hq => ?_
  cases r with
  | error e => exact hx pins σ H s e s' I hq
  | ok fl => cases fl <;> first | exact I.after hq | exact False.elim hq
/-- o.m(k = v, ..) -/
def tMethK (C : Addr) (m : Str) (n : Nat) (sp : Sp) (gV : List V → List V → List V) (E : XK) (ta : TE) (tk : TA) : TE := fun σ H Q => ta σ H fun x H1 => ∃ a dx fs, x = .ref a ∧ H1 a = some (.ins C dx fs) ∧ fs.lookup m = none ∧
  tk σ H1 fun zs H2 => zs.length = n ∧ sp (gV [x] zs) H2 Q E
theorem pe_methK {pl : Sem Bool} (he : PE X o ta) (c : Cls X.K C) (hm : Meth X.K C m f) (F : FnOk X.prog X.w X.K X.mg X.base CX k f fd ps sp) (hr : Room k X.A) (hb : KBn X.K fd ps 1 ks g gV) (hx : Passes CX X E) (hkw : PK X kws tk)
    (hall : (backToKw pos (keywordEach kws X.env)).all (·.1.isSome) = true := by rfl) (hks : (backToKw pos (keywordEach kws X.env)).filterMap (·.1) = ks := by rfl)
    (hpl : ((backTo pos (starEach [] X.env)).any (·.1) || (backToKw pos (keywordEach kws X.env)).any (·.1.isNone)) = false := by rfl)
    (ht : eval (.Call (.Attribute o m apos) [] kws pos) X.env = (do
      let ov ← eval o X.env
      standAt apos.atName
      let (f, first) ← holding [ov] (getMethod ov m pl)
      callWith pos f first (backTo pos (starEach [] X.env)) (backToKw pos (keywordEach kws X.env))) := by rfl) :
    PE X (.Call (.Attribute o m apos) [] kws pos) (tMethK C m ks.length sp gV E ta tk) := by
  refine ⟨fun pins s σ H Q I h => ?_⟩
  refine PySem.W.methodCall_KW (pl := pl) (thn (he.run pins s σ H _ I h) fun u s1 ⟨x, H1, I1, rx, a, dx, fs, ex, ea, l, q⟩ => ?_) ht
  subst ex
  cases (show u = Value.ref a from rx)
  refine getmeth_ok I1 ea c hm l (PySem.W.callWith_KW0 (first := [.ref a]) (h₀ := X.base) I1.ok.mod.kin hm.kp hall ?_ hpl)
  refine thn (hkw.run pos pins s1 σ H1 _ I1 q) fun ws s2 ⟨zs, H2, I2, rz, l2, q2⟩ => ⟨I2.kIn, ?_⟩
  rw [hks]
  exact wpAny_call (run_kw (us := [.ref a]) (vs := [.ref a]) F hr hb hx I2 (.cons rfl .nil) rz rfl (rz.length.symm.trans l2) q2)
/-- f(k = v, ..), f an instance -/
def tCallOK (X : Cx) (C : Addr) (n : Nat) (sp : Sp) (gV : List V → List V → List V) (E : XK) (tf : TE) (tk : TA) : TE := fun σ H Q => tf σ H fun y H1 => ∃ a, y = V.ref a ∧ tk σ H1 fun zs H2 => zs.length = n ∧ StX.InsC X H2 a C ∧ sp (gV [V.ref a] zs) H2 Q E
theorem pe_callOK {gf : Addr} (hf : PE X fe tf) (c : StX.CallO X.K C gf) (F : FnOk X.prog X.w X.K X.mg X.base CX k gf fd ps sp) (hr : Room k X.A) (hb : KBn X.K fd ps 1 ks g gV) (hx : Passes CX X E) (hkw : PK X kws tk)
    (hall : (backToKw pos (keywordEach kws X.env)).all (·.1.isSome) = true := by rfl) (hks : (backToKw pos (keywordEach kws X.env)).filterMap (·.1) = ks := by rfl)
    (hpl : ((backTo pos (starEach [] X.env)).any (·.1) || (backToKw pos (keywordEach kws X.env)).any (·.1.isNone)) = false := by rfl)
    (ht : eval (.Call fe [] kws pos) X.env = (do callWith pos (← eval fe X.env) [] (backTo pos (starEach [] X.env)) (backToKw pos (keywordEach kws X.env))) := by rfl) : PE X (.Call fe [] kws pos) (tCallOK X C ks.length sp gV E tf tk) := by
  refine ⟨fun pins s σ H Q I h => ?_⟩
  rw [ht]
  refine wpAny_bind (thn (hf.run pins s σ H _ I h) fun u s1 ⟨y, H1, I1, ry, a, ey, q⟩ => ?_)
  subst ey
  cases (show u = Value.ref a from ry)
  unfold callWith
  refine wpAny_bind (wpAny_holding (evalArgs_kw2_nil hall ?_))
  refine thn (hkw.run pos pins s1 σ H1 _ I1 q) fun ws s2 ⟨zs, H2, I2, rz, l2, hi, q2⟩ => ?_
  obtain ⟨ox, od, J, hd⟩ := StX.insC_at I2 hi
  refine wpAny_bind (wpAny_standAt ?_)
  have L := PySem.W.kco_keeper (M := model X.prog X.w) J hd
  simp only [hpl]
  refine wpAny_bind (L.here ?_)
  refine wpAny_bind (wpAny_mono (wpAny_operateT ?_) (fun r s3 hr3 => wpAny_bind (wpAny_holding (wpAny_point (wpAny_pure hr3)))) fun _ _ z => z)
  rw [hks]
  exact wpAny_call (PySem.W.kco_code (a := ⟨[], ks.zip ws⟩) I2.kIn J hd c.at_ c.fn c.fi (run_kw (us := [.ref a]) (vs := [.ref a]) F hr hb hx I2 (.cons rfl .nil) rz rfl (rz.length.symm.trans l2) q2))
end
end Uni
set_option Elab.async false
set_option linter.all false
set_option maxRecDepth 100000
set_option maxHeartbeats 2000000
/-! Uni, exceptions: several clauses with names; a def called within a suite. -/
namespace Uni
open PySem L2 PySem.Spec PyProof.Rows
/-- a clause: its class, the slot of its name, its suite -/
structure Cl where
  c : Value
  i : Option Nat
  ts : Addr → Value → Option Addr → TS
def slotOf (o : Option Nat) (a : Addr) (σ : L2.St) : L2.St := match o with
  | none => σ
  | some i => σ.set i (some (.ref a))
def goneOf (o : Option Nat) (σ : L2.St) : L2.St := match o with
  | none => σ
  | some i => σ.set i none
def endsOf (o : Option Nat) (D : Ends) : Ends := { nx := fun σ H => D.nx (goneOf o σ) H, rt := D.rt, bk := fun σ H => D.bk (goneOf o σ) H, ct := fun σ H => D.ct (goneOf o σ) H }
def wCls (K : PySem.W.Frag) (Wo : WX) (D : Ends) : List Cl → WX
  | [] => Wo
  | q :: r => fun cls d σ H => ∃ b, PySem.W.exmOne K cls q.c = some b ∧ (b = true → ∀ a, H a = none → q.ts a cls d (endsOf q.i D) (slotOf q.i a σ) H) ∧ (b = false → wCls K Wo D r cls d σ H)
/-- the suite's promise -/
abbrev SuiteOk (X : Cx) (b₀ : Stmt) (suite : List Stmt) (ts : Addr → Value → Option Addr → TS) : Prop :=
  ∀ (a : Addr) (oe : Obj) (cls : Value) (d : Option Addr) (pn : List (Addr × Obj)), Zc cls d oe → (∃ vs, oe.data = .fields vs) → PSs (X.suite a ((a, oe) :: pn)) (b₀ :: suite) (ts a cls d)
inductive ClsOk (X : Cx) : List ExceptHandler → List Cl → Prop
  | nil : ClsOk X [] []
  | plain {x : Str} {c : Value} {ts : Addr → Value → Option Addr → TS} {b₀ : Stmt} {suite : List Stmt} {np p : Pos} {hds : List ExceptHandler} {l : List Cl} (hc : Names X x c) (su : SuiteOk X b₀ suite ts) (r : ClsOk X hds l) :
      ClsOk X (.ExceptHandler (some (.Name x np)) none (b₀ :: suite) p :: hds) (⟨c, none, ts⟩ :: l)
  | named {x n : Str} {i : Nat} {c : Value} {ts : Addr → Value → Option Addr → TS} {b₀ : Stmt} {suite : List Stmt} {np p : Pos} {hds : List ExceptHandler} {l : List Cl} (hc : Names X x c) (hi : X.N[i]? = some n) (hl : X.env.kindOf n = some .local)
      (su : SuiteOk X b₀ suite ts) (r : ClsOk X hds l) : ClsOk X (.ExceptHandler (some (.Name x np)) (some n) (b₀ :: suite) p :: hds) (⟨c, some i, ts⟩ :: l)
/-- the exception at a has landed in X -/
structure Caught (X : Cx) (pins : List (Addr × Obj)) (σ : L2.St) (H : Hp) (sI : Shared) (a : Addr) (B : Heap) (cls : Value) (d : Option Addr) (s : Shared) : Prop where
  J : Inv X pins σ H sI
  nb : ∀ b o, sI.heap.get? b = some o → b ∉ frs X.stack → B.get? b = some o
  up : sI.heap.UpToSlots s.heap
  fl : HandSPX.FlyingZ B (X.env :: X.outer) a (Zc cls d) s.heap
  na : H a = none
  os : s.os = sI.os
  ag : AllBare s.gens
section
variable {X : Cx} {pins : List (Addr × Obj)} {σ : L2.St} {H : Hp} {sI s : Shared} {a : Addr} {B : Heap} {cls : Value} {d : Option Addr}
theorem Caught.inv (k : Caught X pins σ H sI a B cls d s) : Inv X pins σ H s := k.J.landed k.nb k.fl.1 k.up k.os k.ag
theorem Caught.there (hs : X.stack = X.env :: X.outer) (hf : X.env.frame = some X.env.locals) (k : Caught X pins σ H sI a B cls d s) :
    ∃ oe, Zc cls d oe ∧ (∃ vs, oe.data = .fields vs) ∧ s.heap.get? a = some oe ∧ Inv (X.suite a ((a, oe) :: (X.pn ++ pins))) [] σ H s := by
  obtain ⟨oe, vs, he, hz, hd⟩ := k.fl.there
  have nfr : a ∉ frs (X.env :: X.outer) := fun hm => by
    obtain ⟨_, o', e', hnf⟩ := k.fl.2.2.1.mem hm
    rw [he] at e'
    cases e'
    exact hnf _ hd
  have nL : a ≠ X.env.locals := fun z => nfr (List.mem_filterMap.mpr ⟨X.env, List.mem_cons_self, by rw [hf, z]⟩)
  have nF : a ∉ X.fs := fun hm => by
    obtain ⟨e, he, q⟩ := List.mem_filterMap.mp hm
    exact nfr (List.mem_filterMap.mpr ⟨e, List.mem_cons_of_mem _ he, q⟩)
  exact ⟨oe, hz, ⟨vs, hd⟩, he, k.inv.suite he hd k.na nL nF⟩
theorem Caught.next (k : Caught X pins σ H sI a B cls d s) {h : Heap} (fl : HandSPX.FlyingZ B (X.env :: X.outer) a (Zc cls d) h) (up : s.heap.UpToSlots h) : Caught X pins σ H sI a B cls d { s with heap := h } :=
  ⟨k.J, k.nb, k.up.trans up, fl, k.na, k.os, k.ag⟩
/-- the class of a clause is read -/
theorem Caught.test (hs : X.stack = X.env :: X.outer) (hf : X.env.frame = some X.env.locals) (k : Caught X pins σ H sI a B cls d s) {x : Str} {c : Value} {np : Pos} (hc : Names X x c) {Q : Value → Shared → Prop} {E : Value → Shared → Prop} (q : Q c s) :
    wpAny (model X.prog X.w) (X.A.mark (some (.ref a))) (eval (.Name x np) X.env) Q E s := by
  obtain ⟨oe, hz, hd, he, S⟩ := k.there hs hf
  obtain ⟨hg, hdbg, hm | ⟨hm, hv, hnn⟩⟩ := hc
  · exact ld_glob (X := X.suite a ((a, oe) :: (X.pn ++ pins))) S hg hm q hdbg
  · exact ld_blt (X := X.suite a ((a, oe) :: (X.pn ++ pins))) S hg hm hv q hnn hdbg
/-- what a suite leaves -/
theorem suite_end {oe : Obj} {D : Ends} {f : Flow} {s' : Shared} (ok : X.Ok) (h : SP (X.suite a ((a, oe) :: (X.pn ++ pins))) [] D f s') : SP X pins D f s' := by
  cases f with
  | ret u => exact let ⟨v, σ', H', S, r, q⟩ := h; ⟨v, σ', H', S.unsuite ok, r, q⟩
  | next => exact let ⟨σ', H', S, q⟩ := h; ⟨σ', H', S.unsuite ok, q⟩
  | brk => exact let ⟨σ', H', S, q⟩ := h; ⟨σ', H', S.unsuite ok, q⟩
  | cont => exact let ⟨σ', H', S, q⟩ := h; ⟨σ', H', S.unsuite ok, q⟩
theorem handle_cls (hs : X.stack = X.env :: X.outer) (hf : X.env.frame = some X.env.locals) (hN : X.N.Nodup) {Wo : WX} (tk : Takes X Wo) {D : Ends} {hds : List ExceptHandler} {l : List Cl} (hk : ClsOk X hds l) :
    ∀ {s : Shared}, Caught X pins σ H sI a B cls d s → wCls X.K Wo D l cls d σ H → wpAny (model X.prog X.w) X.A (handleBy (.ref a) X.env hds) (SP X pins D) X.xe s := by
  induction hk with
  | nil =>
    intro s k w
    obtain ⟨k1, k2, k3, oe, vs, T, oT, ts', he, hz, hd, h1, hr⟩ := id k.fl
    refine wpAny_handleBy_nil ?_
    unfold PySem.passOn
    refine wpAny_bind (wpAny_field he hd h1 ?_)
    rw [if_neg (by simp)]
    have fin : wpAny (model X.prog X.w) X.A (setFlight (.ref a) X.env.frame) (fun _ s4 => wpAny (model X.prog X.w) X.A (throw (.ref a) : Sem Flow) (SP X pins D) X.xe s4) X.xe s := by
      rw [hf]
      refine HandSPX.setFlight_upZ k.fl fun h4 hh4 up4 => wpAny_throw (tk _ _ ?_)
      exact ⟨a, B, sI, pins, σ, H, cls, d, rfl, k.J, k.nb, k.up.trans up4, Or.inr (Or.inr (by rw [hs]; exact hh4)), k.na, k.os, k.ag, w⟩
    first | exact wpAny_bind (wpAny_pure (wpAny_bind fin)) | exact wpAny_bind fin
  | @plain x c ts b₀ suite np p hds2 l2 hc su r ih =>
    intro s k w
    obtain ⟨b, hb1, hyes, hno⟩ := w
    obtain ⟨oe, hz, _, he, S⟩ := k.there hs hf
    have LT : PySem.W.Looks (model X.prog X.w) s.heap (typeOf (.ref a)) cls := fun A Q E s k q => wpAny_typeOf_ref (k _ _ he) (by rw [hz.1]; exact q)
    refine wpAny_handleBy_cons (codeAny_handlers_test (k.test hs hf hc ((PySem.W.exm_one (M := model X.prog X.w) k.inv.kIn LT hb1).here ?_))) (by intro q; cases q)
    cases b with
    | true =>
      refine codeAny_handlers_suite (HandSPX.lands_againZ k.fl fun h4 fl4 up4 => ?_)
      have k4 := k.next fl4 up4
      obtain ⟨oe4, hz4, hd4, _, S4⟩ := k4.there hs hf
      exact wpAny_mono ((su a oe4 cls d (X.pn ++ pins) hz4 hd4).run [] _ _ H _ S4 (hyes rfl a k.na)) (fun f s6 hsp => suite_end k.J.ok hsp) (fun _ _ z => False.elim z)
    | false => exact ih k (hno rfl)
  | @named x n i c ts b₀ suite np p hds2 l2 hc hi hl su r ih =>
    intro s k w
    obtain ⟨b, hb1, hyes, hno⟩ := w
    obtain ⟨oe, hz, _, he, S⟩ := k.there hs hf
    have LT : PySem.W.Looks (model X.prog X.w) s.heap (typeOf (.ref a)) cls := fun A Q E s k q => wpAny_typeOf_ref (k _ _ he) (by rw [hz.1]; exact q)
    refine wpAny_handleBy_cons (codeAny_handlers_test (k.test hs hf hc ((PySem.W.exm_one (M := model X.prog X.w) k.inv.kIn LT hb1).here ?_))) (by intro q; cases q)
    cases b with
    | true =>
      refine codeAny_handlers_suite_as (HandSPX.lands_againZ k.fl fun h4 fl4 up4 => ?_)
      have k4 := k.next fl4 up4
      obtain ⟨oe4, hz4, hd4, _, S4⟩ := k4.there hs hf
      refine store_ok (X := X.suite a ((a, oe4) :: (X.pn ++ pins))) (v := .ref a) S4 hN hi (.inl hl) rfl (fun s5 S5 => ?_) (.inr hl)
      refine wpAny_mono ((su a oe4 cls d (X.pn ++ pins) hz4 hd4).run [] s5 _ H _ S5 (hyes rfl a k.na)) (fun f s6 hsp => ?_) (fun _ _ z => False.elim z)
      have hsp := suite_end (D := endsOf (some i) D) k.J.ok hsp
      have go : ∀ {σ6 : L2.St} {H6 : Hp} {Q : Shared → Prop}, Inv X pins σ6 H6 s6 → (∀ s7, Inv X pins (σ6.set i none) H6 s7 → Q s7) → wpAny (model X.prog X.w) X.A (do bindName X.env n .none; unbindBehindTheSuite X.env n p) (fun _ s7 => Q s7) X.xe s6 :=
        fun I6 hq => gone_ok I6 hN hi hl hq
      cases f with
      | ret u => exact let ⟨v6, σ6, H6, S6, r6, q6⟩ := hsp; go S6 fun s7 J7 => ⟨v6, _, H6, J7, r6, q6⟩
      | next => exact let ⟨σ6, H6, S6, q6⟩ := hsp; go S6 fun s7 J7 => ⟨_, H6, J7, q6⟩
      | brk => exact let ⟨σ6, H6, S6, q6⟩ := hsp; go S6 fun s7 J7 => ⟨_, H6, J7, q6⟩
      | cont => exact let ⟨σ6, H6, S6, q6⟩ := hsp; go S6 fun s7 J7 => ⟨_, H6, J7, q6⟩
    | false => exact ih k (hno rfl)
end
theorem ps_try_cls {X : Cx} {body : List Stmt} {h₀ : ExceptHandler} {hds : List ExceptHandler} {l : List Cl} {pos : Pos} {tb : WX → TS} {Wo : WX} (hs : X.stack = X.env :: X.outer) (hf : X.env.frame = some X.env.locals) (hN : X.N.Nodup) (tk : Takes X Wo)
    (hb : ∀ (W : WX) (pn : List (Addr × Obj)) (xe : Value → Shared → Prop), Takes (X.tr pn xe) W → PassesOwn (model X.prog X.w) X.A X.env xe → PSs (X.tr pn xe) body (tb W)) (hh : ClsOk X (h₀ :: hds) l) :
    PS X (.Try body (h₀ :: hds) [] [] pos) (fun D σ H => tb (wCls X.K Wo D l) D σ H) := by
  refine ⟨fun pins s σ H D I h => ?_⟩
  have ok := I.ok
  have hfr : X.A.frames = some (X.env :: X.outer) := by rw [ok.frames, hs]
  refine wpAny_Try_except (wpAny_mono ((hb (wCls X.K Wo D l) (X.pn ++ pins) _ (fun u s' xx => ?_) PassesOwn.looking).run [] s σ H D (I.toTry _) h) (fun f s1 hsp => ?_) (fun e s1 he => he))
  · obtain ⟨a, B, sI, pins', σ', H', cls, d, rfl, J', nb, up, sky, na, os, ag, w⟩ := xx
    refine Sky.land Zc.steady hfr hf (by rw [← hs]; exact sky) fun h3 fl3 up3 => ?_
    exact handle_cls hs hf hN tk hh ⟨J'.ofTry ok, nb, up.trans up3, fl3, na, os, ag⟩ w
  · cases f with
    | ret u => exact let ⟨v, σ', H', J', r, q⟩ := hsp; ⟨v, σ', H', J'.ofTry ok, r, q⟩
    | next => exact let ⟨σ', H', J', q⟩ := hsp; wpAny_execs_nil ⟨σ', H', J'.ofTry ok, q⟩
    | brk => exact let ⟨σ', H', J', q⟩ := hsp; ⟨σ', H', J'.ofTry ok, q⟩
    | cont => exact let ⟨σ', H', J', q⟩ := hsp; ⟨σ', H', J'.ofTry ok, q⟩
end Uni
set_option Elab.async false
set_option linter.all false
set_option maxRecDepth 100000
set_option maxHeartbeats 2000000
/-! Uni: isinstance of a caught exception that has a dict; a def that is called with it. -/
namespace Uni
open PySem L2 PySem.Spec PyProof.Rows
/-- isinstance(e, c), e at a the pinned exception, its class at D, its dict at dd -/
def rIsX (K : PySem.W.Frag) (a D dd : Addr) : List V → Hp → VK → Prop := fun xs H Q => ∃ (c : V) (cv : Value) (b : Bool) (fs : List (Str × V)), xs = [.ref a, c] ∧ (∀ u, RelV c u → u = cv) ∧ PySem.W.kitOne K (.ref D) cv = some b ∧ H dd = some (.xd fs) ∧ Q (.bl b) H
theorem call_isX {X : Cx} {a D dd : Addr} {oe : Obj} (T : ExcC X.K D) (hp : (a, oe) ∈ X.pn) (hz : Zc (.ref D) (some dd) oe) (hf : ∃ vs, oe.data = .fields vs) : CallR X (.builtin "isinstance") (rIsX X.K a D dd) := by
  intro pins s σ H xs us Q I r h
  obtain ⟨c, cv, b, fs, rfl, hcv, e, hd, q⟩ := h
  obtain ⟨u1, u2, rfl, r1, r2⟩ := r.two
  cases (show u1 = Value.ref a from r1)
  have ec := hcv _ r2
  subst ec
  obtain ⟨mA, hns, _⟩ := (show ObjOk X.prog X.w H s.heap dd (.xd fs) from I.hok dd _ hd)
  obtain ⟨od, ho, _⟩ := lookIn_ns hns
  obtain ⟨vs, hv⟩ := hf
  have J : PySem.W.InstAt s.heap a oe D (some od) := ⟨(I.pin (a, oe) (List.mem_append_left _ hp)).1, hz.1, by unfold PySem.W.notCls; rw [hv] <;> rfl, by rw [hz.2]; exact ho⟩
  have hcl : (PySem.W.clsIn X.K D).isSome = true := by
    have h := T.hd
    unfold PySem.W.hasDictIn at h
    cases hc : PySem.W.clsIn X.K D with
    | some cd => rfl
    | none => rw [hc] at h; cases h
  exact PySem.W.kia_one (PySem.W.kitx_exc hcl T.hg T.hk T.hs T.ha T.hn T.ht T.hm) I.kIn J e (fun z => nomatch z) fun tk => ⟨.bl b, H, I.kept (t' := tk) fun _ _ z => z, rfl, q⟩
/-! ### a def that is told the exception -/
/-- a promise about the pinned exception: its address, class, dict -/
abbrev SpX := Addr → Addr → Addr → Sp
def FnX (P : Program) (w : World) (K : PySem.W.Frag) (mg : Str → Option Value) (base : Heap) (CX : CXT) (k : Nat) (f : Addr) (fd : FuncData) (ps : List Str) (sp : SpX) : Prop :=
  ∀ (A : Around) (outer : List Env) (s : Shared) (H : Hp) (us : List Value) (vs : List V) (Q : VK) (E : XK) (a D dd : Addr) (oe : Obj), L2H.RoomH k A → L2H.PinOk outer H s (a, oe) → Zc (.ref D) (some dd) oe → (∃ vs, oe.data = .fields vs) →
    Env0 P w K mg base A outer s H → BindsTo s fd ⟨us, []⟩ (ps.zip us) → Vals vs us → vs.length = ps.length → sp a D dd vs H Q E → codeAny (model P w) A (.call (.ref f) ⟨us, []⟩) (CR CX outer P w H s Q E) s
theorem fn_ofX {CX : CXT} {P : Program} {w : World} {K : PySem.W.Frag} {mg : Str → Option Value} {base : Heap} {k : Nat} {f : Addr} {x qual : Str} {params : Arguments} {body : List Stmt} {scope : Scope} {fd : FuncData} {N ps : List Str} {sp : SpX}
    (F : FunD K x qual params body scope [] [] f fd) (S : FnScope N ps scope)
    (hbody : ∀ (cdv : Value) (A : Around) (outer : List Env) (s : Shared) (H : Hp) (vs : List V) (Q : VK) (E : XK) (a D dd : Addr) (oe : Obj), Zc (.ref D) (some dd) oe → (∃ vs, oe.data = .fields vs) → L2H.RoomH k (A.deeper (envOfC qual scope s.heap.objs.size f cdv)) → sp a D dd vs H Q E →
      ∃ t, PSs (L2H.cxH CX P w K mg base N qual scope f cdv A outer s H E (a, oe)) body t ∧ t { nx := fun _ H' => Q .non H', rt := Q } (L2.start N vs) H) : FnX P w K mg base CX (k + 1) f fd ps sp := by
  obtain ⟨oc, od, dV, kV, doc, pm, an, cdv, ct, osl, rfl, lk, hcd, _, _⟩ := F.ex
  intro A outer s H us vs Q E a D dd oe hr hpin hz hf e0 hb r hl hsp
  have low := fun b o (e : K.lookup b = some o) => e0.mod.kin.keeps (fun b o e => (e0.bs b o e).1) b o e
  have KX : K.In s.heap := e0.mod.kin.keeps fun b o e => (e0.bs b o e).1
  have hkind : ∀ y ∈ ps.zip us, scope.names.lookup y.1 = some .local ∨ (scope.names.lookup y.1 = some .cell ∧ ((cellsFrom (s.heap.objs.size + 1) scope.names []).lookup y.1).isSome = true) := by
    rintro ⟨n, v⟩ hy
    rcases S.par n (List.of_mem_zip hy).1 with q | q
    · exact Or.inl q
    · exact Or.inr ⟨q, PySem.W.cellsFrom_some _ _ _ (Or.inl q)⟩
  refine codeAny_call_function hr.depth (KX _ _ lk) rfl S.co S.gen rfl (PySem.W.codeRec_of KX hcd) (hb _ _ _ _ (wpAny_newFunctionEnv_cells S.kind hkind fun env he s1 x => ?_))
  subst he
  refine ⟨(e0.mod.nolimit.keeps fun b o e => (e0.bs b o e).1).keeps x.toInCall.keep, codeAny_func ?_⟩
  obtain ⟨t, ht, hq⟩ := hbody cdv A outer s H vs Q E a D dd oe hz hf (hr.deeper _) hsp
  refine wpAny_mono (ht.run [] s1 (L2.start N vs) H _ (L2H.inv_startH S hpin e0 hl r x) hq) (fun fl s' hs => ?_) fun e s' hs => hs
  cases fl with
  | ret u => exact let ⟨v, σ', H', J, rv, q⟩ := hs; ⟨v, H', J.os, J.bare, J.base, J.hok, rv, q⟩
  | next => exact let ⟨σ', H', J, q⟩ := hs; ⟨V.non, H', J.os, J.bare, J.base, J.hok, rfl, q⟩
  | brk => exact let ⟨_, _, _, q⟩ := hs; False.elim q
  | cont => exact let ⟨_, _, _, q⟩ := hs; False.elim q
def tCallX (a : Addr) (cls : Value) (d : Option Addr) (sp : SpX) (E : XK) (t : TA) : TE := fun σ H Q => t σ H fun vs H1 => vs.length = 1 ∧ ∃ D dd, cls = .ref D ∧ d = some dd ∧ sp a D dd vs H1 Q E
theorem L2H.RoomH.units {k : Nat} {A : Around} (r : L2H.RoomH k A) : A.units + 64 < cLine := Nat.lt_of_le_of_lt (by omega) r.un
theorem pe_callX {X : Cx} {CX : CXT} {k : Nat} {f : Addr} {fd : FuncData} {ps : List Str} {sp : SpX} {E : XK} {x : Str} {q pos : Pos} {e : Expr} {es : List Expr} {t : TA} {a : Addr} {cls : Value} {d : Option Addr} {oe : Obj} (F : FnX X.prog X.w X.K X.mg X.base CX k f fd ps sp) (h1 : ps.length = 1) (hp : (a, oe) ∈ X.pn)
    (hz : Zc cls d oe) (hf : ∃ vs, oe.data = .fields vs) (hr : L2H.RoomH k X.A) (hg : Gl X x) (hm : X.mg x = some (.ref f)) (hk : PySem.W.keepIn X.K (.ref f) = true) (hb : Binds X.K fd ps []) (hx : Passes CX X E) (ha : PA X (e :: es) t)
    (hdb : (x == ("__debug__" : Str)) = false := by decide) (he : starEach (e :: es) X.env = (false, eval e X.env) :: starEach es X.env := by rfl) (hpl : (backTo pos (starEach es X.env)).any (·.1) = false := by rfl) :
    PE X (.Call (.Name x q) (e :: es) [] pos) (tCallX a cls d sp E t) := by
  refine ⟨fun pins s σ H Q I h => wpAny_Call_Name_kw (ld_glob I hg hm ?_ hdb)⟩
  refine PySem.W.callWith_K (h₀ := X.base) I.ok.mod.kin hk (thn (ha.run pos pins s σ H _ I h) fun us s1 ⟨vs, H1, I1, r, hv, D, dd, ec, ed, q⟩ => ⟨I1.kIn, ?_⟩) he hpl
  subst ec
  subst ed
  have b := hb s1 us I1.kIn (by rw [List.append_nil, ← r.length, hv, h1])
  rw [List.append_nil] at b
  obtain ⟨p1, p2, p3, p4, p5⟩ := I1.pin (a, oe) (List.mem_append_left _ hp)
  have pin : L2H.PinOk X.stack H1 s1 (a, oe) := ⟨p1, p2, fun hm => (List.mem_cons.mp (I1.stkSub a hm)).elim p3 p4, p5⟩
  refine wpAny_call (codeAny_mono (F X.A X.stack s1 H1 us vs Q E a D dd oe hr pin hz hf I1.env0 b r (hv.trans h1.symm) q) fun r s' hq => ?_)
  cases r with
  | error e => exact hx pins σ H1 s1 e s' I1 hq
  | ok fl => cases fl <;> first | exact I1.after hq | exact False.elim hq
end Uni
set_option Elab.async false
set_option linter.all false
set_option maxRecDepth 100000
set_option maxHeartbeats 2000000
/-! Uni: who may be called, of any kind of exception; raise of an own class; a class made within a try. -/
namespace Uni
open PySem L2 PySem.Spec PyProof.Rows
section
variable {P : Program} {w : World} {K : PySem.W.Frag} {mg : Str → Option Value} {base : Heap}
/-- a def by its name, that may raise -/
def CalX (P : Program) (w : World) (K : PySem.W.Frag) (mg : Str → Option Value) (base : Heap) (CX : CXT) (k : Nat) (x : Str) (sp : Sp) : Prop :=
  ∃ (f : Addr) (fd : FuncData) (ps : List Str), FnOk P w K mg base CX k f fd ps sp ∧ mg x = some (.ref f) ∧ PySem.W.keepIn K (.ref f) = true ∧ Binds K fd ps []
/-- a method of the class at C -/
def MetX (P : Program) (w : World) (K : PySem.W.Frag) (mg : Str → Option Value) (base : Heap) (CX : CXT) (k : Nat) (C : Addr) (m : Str) (sp : Sp) : Prop :=
  ∃ (f : Addr) (fd : FuncData) (ps : List Str), Meth K C m f ∧ FnOk P w K mg base CX k f fd ps sp ∧ Binds K fd ps []
/-- a class by its name; sp: its __init__ -/
def MakX (P : Program) (w : World) (K : PySem.W.Frag) (mg : Str → Option Value) (base : Heap) (CX : CXT) (k : Nat) (x : Str) (C : Addr) (sp : Sp) : Prop :=
  ∃ (f : Addr) (fd : FuncData) (ps : List Str), Mk K C f ∧ FnOk P w K mg base CX k f fd ps sp ∧ mg x = some (.ref C) ∧ Binds K fd ps []
/-- an own exception by its name; sp: its __init__ -/
def ExcX (P : Program) (w : World) (K : PySem.W.Frag) (mg : Str → Option Value) (base : Heap) (k : Nat) (x : Str) (C : Addr) (sp : Sp) : Prop :=
  ∃ (f : Addr) (fd : FuncData) (ps : List Str), OexC K C ∧ PySem.W.findIn K (.ref C) "__init__" = some (some (.ref f)) ∧ PySem.W.typeIn K (.ref f) = some (.type "function") ∧ FnOk P w K mg base C8.CX0 k f fd ps sp ∧ mg x = some (.ref C) ∧ Binds K fd ps []
end
/-- nothing comes out -/
theorem passF {X : Cx} : Passes (L2.CX X.prog X.w) X (fun _ _ _ => False) := fun _ _ _ _ _ _ _ h => by
  obtain ⟨_, _, _, _, _, _, _, _, _, _, _, _, z⟩ := h
  exact z.elim
section
variable {X : Cx} {CX : CXT} {j k : Nat} {C : Addr} {x m : Str} {sp : Sp} {p pos pos2 apos : Pos} {e o : Expr} {es : List Expr} {ta : TE} {t : TA}
theorem pe_cx {E : L2.St → XK} (c : CalX X.prog X.w X.K X.mg X.base CX k x sp) (hr : Room j X.A) (hk : k ≤ j) (hg : Gl X x) (hx : ∀ σ, PassesAt CX X σ (E σ)) (ha : PA X (e :: es) t) (hdb : (x == ("__debug__" : Str)) = false := by decide)
    (he : starEach (e :: es) X.env = (false, eval e X.env) :: starEach es X.env := by rfl) (hpl : (backTo pos (starEach es X.env)).any (·.1) = false := by rfl) : PE X (.Call (.Name x p) (e :: es) [] pos) (tCallS sp E t) := by
  obtain ⟨f, fd, ps, F, hm, kp, hb⟩ := c
  exact pe_callS F (hr.mono hk) hg hm kp hb hx ha hdb he hpl
theorem pe_mx {pl : Sem Bool} (c : Cls X.K C) (h : MetX X.prog X.w X.K X.mg X.base C8.CX0 k C m sp) (hr : Room j X.A) (hk : k ≤ j) (he : PE X o ta) (ha : PA X (e :: es) t)
    (hst : starEach (e :: es) X.env = (false, eval e X.env) :: starEach es X.env := by rfl) (hpl : (backTo pos (starEach es X.env)).any (·.1) = false := by rfl)
    (ht : eval (.Call (.Attribute o m apos) (e :: es) [] pos) X.env = (do
      let ov ← eval o X.env
      standAt apos.atName
      let (f, first) ← holding [ov] (getMethod ov m pl)
      callWith pos f first (backTo pos (starEach (e :: es) X.env)) (backToKw pos (keywordEach [] X.env))) := by rfl) : PE X (.Call (.Attribute o m apos) (e :: es) [] pos) (tMeth C m sp [] C8.E0 ta t) := by
  obtain ⟨f, fd, ps, hm, F, hb⟩ := h
  exact pe_meth he c hm F (hr.mono hk) hb .nil C8.pass0 ha hst hpl ht
theorem pe_kx (c : MakX X.prog X.w X.K X.mg X.base (L2.CX X.prog X.w) k x C sp) (hr : Room j X.A) (hk : k + 1 ≤ j) (hg : Gl X x) (ha : PA X (e :: es) t) (hdb : (x == ("__debug__" : Str)) = false := by decide)
    (he : starEach (e :: es) X.env = (false, eval e X.env) :: starEach es X.env := by rfl) (hpl : (backTo pos (starEach es X.env)).any (·.1) = false := by rfl) : PE X (.Call (.Name x p) (e :: es) [] pos) (tMake C sp [] (fun _ _ _ => False) t) := by
  obtain ⟨f, fd, ps, M, F, hm, hb⟩ := c
  exact pe_make M F (hr.mono hk) hg hm hb .nil passF ha hdb he hpl
/-- C(..) where its exceptions are taken -/
def tMakeS (C : Addr) (sp : Sp) (E : L2.St → XK) (t : TA) : TE := fun σ H Q => t σ H fun vs H1 => ∀ x dx, H1 x = none → H1 dx = none → dx ≠ x → sp (.ref x :: (vs ++ [])) (upd (upd H1 dx (.own x)) x (.ins C dx [])) (fun v H2 => v = .non ∧ Q (.ref x) H2) (E σ)
theorem pe_kxs {E : L2.St → XK} (c : MakX X.prog X.w X.K X.mg X.base CX k x C sp) (hr : Room j X.A) (hk : k + 1 ≤ j) (hg : Gl X x) (hx : ∀ σ, PassesAt CX X σ (E σ)) (ha : PA X (e :: es) t) (hdb : (x == ("__debug__" : Str)) = false := by decide)
    (he : starEach (e :: es) X.env = (false, eval e X.env) :: starEach es X.env := by rfl) (hpl : (backTo pos (starEach es X.env)).any (·.1) = false := by rfl) : PE X (.Call (.Name x p) (e :: es) [] pos) (tMakeS C sp E t) := by
  obtain ⟨f, fd, ps, M, F, hm, hb⟩ := c
  refine ⟨fun pins s σ H Q I h => wpAny_Call_Name_kw (ld_glob I hg hm ?_ hdb)⟩
  refine PySem.W.callWith_K (h₀ := X.base) I.ok.mod.kin M.kp (thn (ha.run pos pins s σ H _ I h) fun us s1 ⟨vs, H1, I1, r, q⟩ => ⟨I1.kIn, ?_⟩) he hpl
  have n := s1.heap.objs.size
  have hq := q (s1.heap.objs.size + 1) s1.heap.objs.size (I1.hok.fresh (Nat.le_succ _)) (I1.hok.fresh (Nat.le_refl _)) (Nat.ne_of_lt (Nat.lt_succ_self _))
  rw [List.append_nil] at hq
  have I2 := Inv.made (C := C) I1
  have r2 : Vals (V.ref (s1.heap.objs.size + 1) :: vs) (Value.ref (s1.heap.objs.size + 1) :: us) := .cons rfl r
  have b := hb _ (Value.ref (s1.heap.objs.size + 1) :: us) I2.kIn (by rw [List.append_nil, ← r2.length]; exact F.len _ _ _ _ hq)
  rw [List.append_nil] at b
  refine wpAny_call (make_map (f := f) I1.kIn M.makes M.init (beq_iff_eq.mp M.fn) (codeAny_mono (F.run _ X.stack _ _ ⟨_, []⟩ _ _ _ (E σ) ((hr.mono hk).make C us []) (I2.env0.make C us []) b r2 hq) fun z s' hz => ?_))
  cases z with
  | error e => exact hx σ pins _ _ e s' I2 hz
  | ok fl =>
    cases fl with
    | ret u =>
      obtain ⟨v, H', I3, rv, ev, q3⟩ := I2.after hz
      subst ev
      exact ⟨rv, V.ref (s1.heap.objs.size + 1), H', I3, rfl, q3⟩
    | _ => exact False.elim hz
/-- raise C(..) -/
def tRaiseO (C : Addr) (sp : Sp) (W : WX) (t : TA) : TS := fun _ σ H => tMkO C sp [] t σ H fun cls d H' => W cls d σ H'
theorem ps_raiseO {W : WX} (c : ExcX X.prog X.w X.K X.mg X.base k x C sp) (hr : Room j X.A) (hk : k + 1 ≤ j) (hc : X.calm = true) (tk : Takes X W) (hg : Gl X x) (ha : PA X (e :: es) t) (hdb : (x == ("__debug__" : Str)) = false := by decide)
    (he : starEach (e :: es) X.env = (false, eval e X.env) :: starEach es X.env := by rfl) (hpl : (backTo pos (starEach es X.env)).any (·.1) = false := by rfl) : PS X (.Raise (some (.Call (.Name x p) (e :: es) [] pos)) none pos2) (tRaiseO C sp W t) := by
  obtain ⟨f, fd, ps, T, iC, tI, F, hm, hb⟩ := c
  exact ps_raise hc tk (pmk_oex T iC tI F (hr.mono hk) hb .nil C8.pass0 hg hm ha hdb he hpl)
end
end Uni
set_option Elab.async false
set_option linter.all false
set_option maxRecDepth 100000
set_option maxHeartbeats 2000000
namespace Uni
open PySem L2 PySem.Spec PyProof.Rows
abbrev app (a b : List V) : List V := a ++ b
abbrev appU (a b : List Value) : List Value := a ++ b
section
variable (P : Program) (w : World) (K : PySem.W.Frag) (mg : Str → Option Value) (base : Heap)
/-- .. whose parameters are told by name -/
def MetK (k : Nat) (C : Addr) (m : Str) (ks : List Str) (sp : Sp) : Prop := ∃ (f : Addr) (fd : FuncData) (ps : List Str), Meth K C m f ∧ FnOk P w K mg base C8.CX0 k f fd ps sp ∧ KBn K fd ps 1 ks appU app
def MakK (k : Nat) (x : Str) (C : Addr) (ks : List Str) (sp : Sp) : Prop := ∃ (f : Addr) (fd : FuncData) (ps : List Str), Mk K C f ∧ FnOk P w K mg base (L2.CX P w) k f fd ps sp ∧ mg x = some (.ref C) ∧ KBn K fd ps 1 ks appU app
/-- an instance that is called -/
def InsX (k : Nat) (C : Addr) (sp : Sp) : Prop := ∃ (f : Addr) (fd : FuncData) (ps : List Str), StX.CallO K C f ∧ FnOk P w K mg base C8.CX0 k f fd ps sp ∧ Binds K fd ps []
def InsK (k : Nat) (C : Addr) (ks : List Str) (sp : Sp) : Prop := ∃ (f : Addr) (fd : FuncData) (ps : List Str), StX.CallO K C f ∧ FnOk P w K mg base C8.CX0 k f fd ps sp ∧ KBn K fd ps 1 ks appU app
/-- a property -/
def ProX (k : Nat) (C : Addr) (x : Str) (sp : Sp) : Prop := ∃ (p g : Addr) (fd : FuncData) (ps : List Str), PropOf K C x p g ∧ FnOk P w K mg base C8.CX0 k g fd ps sp ∧ Binds K fd ps []
/-- an own == -/
def EqX (k : Nat) (C : Addr) (sp : Sp) : Prop := ∃ (g : Addr) (fd : FuncData) (ps : List Str), EqC K C g ∧ FnOk P w K mg base C8.CX0 k g fd ps sp ∧ Binds K fd ps []
end
/-- a def that is told a caught exception -/
def CalP (P : Program) (w : World) (K : PySem.W.Frag) (mg : Str → Option Value) (base : Heap) (k : Nat) (x : Str) (sp : SpX) : Prop :=
  ∃ (f : Addr) (fd : FuncData) (ps : List Str), FnX P w K mg base C8.CX0 k f fd ps sp ∧ ps.length = 1 ∧ mg x = some (.ref f) ∧ PySem.W.keepIn K (.ref f) = true ∧ Binds K fd ps []
theorem pe_cp {X : Cx} {j k : Nat} {sp : SpX} {x : Str} {q pos : Pos} {e : Expr} {es : List Expr} {t : TA} {a : Addr} {cls : Value} {d : Option Addr} {oe : Obj} (c : CalP X.prog X.w X.K X.mg X.base k x sp) (hp : (a, oe) ∈ X.pn) (hz : Zc cls d oe) (hf : ∃ vs, oe.data = .fields vs) (hr : L2H.RoomH j X.A)
    (hk : k ≤ j) (hg : Gl X x) (ha : PA X (e :: es) t) (hdb : (x == ("__debug__" : Str)) = false := by decide) (he : starEach (e :: es) X.env = (false, eval e X.env) :: starEach es X.env := by rfl) (hpl : (backTo pos (starEach es X.env)).any (·.1) = false := by rfl) :
    PE X (.Call (.Name x q) (e :: es) [] pos) (tCallX a cls d sp C8.E0 t) := by
  obtain ⟨f, fd, ps, F, h1, hm, kp, hb⟩ := c
  exact pe_callX F h1 hp hz hf (hr.mono hk) hg hm kp hb C8.pass0 ha hdb he hpl
section
variable {X : Cx} {j k : Nat} {C : Addr} {x m : Str} {sp : Sp} {p pos apos : Pos} {e o : Expr} {es : List Expr} {kws : List Keyword} {ks : List Str} {ta : TE} {t tk : TA}
/-- x(e, ..), x an instance of C -/
def tCallI (C : Addr) (sp : Sp) (E : XK) (tf : TE) (t : TA) : TE := fun σ H Q => tf σ H fun y H1 => ∃ a, y = V.ref a ∧ t σ H1 fun vs H2 => ((∃ dx ws, SlX.Slt H2 a C dx ws) ∨ ∃ dx fs, H2 a = some (.ins C dx fs)) ∧ sp (V.ref a :: vs) H2 Q E
def tCallIK (C : Addr) (n : Nat) (sp : Sp) (gV : List V → List V → List V) (E : XK) (tf : TE) (tk : TA) : TE := fun σ H Q => tf σ H fun y H1 => ∃ a, y = V.ref a ∧ tk σ H1 fun zs H2 => zs.length = n ∧ ((∃ dx ws, SlX.Slt H2 a C dx ws) ∨ ∃ dx fs, H2 a = some (.ins C dx fs)) ∧ sp (gV [V.ref a] zs) H2 Q E
theorem pe_ix0 (h : InsX X.prog X.w X.K X.mg X.base k C sp) (hr : Room j X.A) (hk : k ≤ j) (he : PE X o ta) (ha : PA X (e :: es) t)
    (ht : eval (.Call o (e :: es) [] pos) X.env = (do callWith pos (← eval o X.env) [] (backTo pos (starEach (e :: es) X.env)) (backToKw pos (keywordEach [] X.env))) := by rfl)
    (hst : starEach (e :: es) X.env = (false, eval e X.env) :: starEach es X.env := by rfl) (hpl : (backTo pos (starEach es X.env)).any (·.1) = false := by rfl) : PE X (.Call o (e :: es) [] pos) (tCallI C (fun vs H Q E => sp (vs ++ []) H Q E) C8.E0 ta t) := by
  obtain ⟨f, fd, ps, c, F, hb⟩ := h
  exact StX.pe_callO he c (F.raw hb .nil) (hr.mono hk) C8.pass0 ha ht hst hpl
theorem pe_ik (h : InsK X.prog X.w X.K X.mg X.base k C ks sp) (hr : Room j X.A) (hk : k ≤ j) (he : PE X o ta) (hkw : PK X kws tk)
    (hall : (backToKw pos (keywordEach kws X.env)).all (·.1.isSome) = true := by rfl) (hks : (backToKw pos (keywordEach kws X.env)).filterMap (·.1) = ks := by rfl)
    (hpl : ((backTo pos (starEach [] X.env)).any (·.1) || (backToKw pos (keywordEach kws X.env)).any (·.1.isNone)) = false := by rfl)
    (ht : eval (.Call o [] kws pos) X.env = (do callWith pos (← eval o X.env) [] (backTo pos (starEach [] X.env)) (backToKw pos (keywordEach kws X.env))) := by rfl) : PE X (.Call o [] kws pos) (tCallIK C ks.length sp app C8.E0 ta tk) := by
  obtain ⟨f, fd, ps, c, F, hb⟩ := h
  exact pe_callOK he c F (hr.mono hk) hb C8.pass0 hkw hall hks hpl ht
theorem pe_mk {pl : Sem Bool} (c : Cls X.K C) (h : MetK X.prog X.w X.K X.mg X.base k C m ks sp) (hr : Room j X.A) (hk : k ≤ j) (he : PE X o ta) (hkw : PK X kws tk)
    (hall : (backToKw pos (keywordEach kws X.env)).all (·.1.isSome) = true := by rfl) (hks : (backToKw pos (keywordEach kws X.env)).filterMap (·.1) = ks := by rfl)
    (hpl : ((backTo pos (starEach [] X.env)).any (·.1) || (backToKw pos (keywordEach kws X.env)).any (·.1.isNone)) = false := by rfl)
    (ht : eval (.Call (.Attribute o m apos) [] kws pos) X.env = (do
      let ov ← eval o X.env
      standAt apos.atName
      let (f, first) ← holding [ov] (getMethod ov m pl)
      callWith pos f first (backTo pos (starEach [] X.env)) (backToKw pos (keywordEach kws X.env))) := by rfl) : PE X (.Call (.Attribute o m apos) [] kws pos) (tMethK C m ks.length sp app C8.E0 ta tk) := by
  obtain ⟨f, fd, ps, hm, F, hb⟩ := h
  exact pe_methK he c hm F (hr.mono hk) hb C8.pass0 hkw hall hks hpl ht
theorem pe_kk (c : MakK X.prog X.w X.K X.mg X.base k x C ks sp) (hr : Room j X.A) (hk : k + 1 ≤ j) (hg : Gl X x) (hkw : PK X kws tk) (hall : (backToKw pos (keywordEach kws X.env)).all (·.1.isSome) = true := by rfl)
    (hks : (backToKw pos (keywordEach kws X.env)).filterMap (·.1) = ks := by rfl) (hdb : (x == ("__debug__" : Str)) = false := by decide) (hpl : ((backTo pos (starEach [] X.env)).any (·.1) || (backToKw pos (keywordEach kws X.env)).any (·.1.isNone)) = false := by rfl) :
    PE X (.Call (.Name x p) [] kws pos) (tMakeK C 0 ks.length sp app (fun _ _ _ => False) tNil tk) := by
  obtain ⟨f, fd, ps, M, F, hm, hb⟩ := c
  exact pe_makeK0 M F (hr.mono hk) hg hm hb passF hkw hall hks hdb hpl
theorem pe_px (c : Cls X.K C) (h : ProX X.prog X.w X.K X.mg X.base k C x sp) (hr : Room j X.A) (hk : k + 1 ≤ j) (he : PE X e ta) (hb : attributeBase e x X.env (eval e X.env) = eval e X.env := by rfl) : PE X (.Attribute e x pos) (tProp C sp [] C8.E0 ta) := by
  obtain ⟨p, g, fd, ps, hp, F, hbi⟩ := h
  exact pe_prop he c hp F (hr.mono hk) hbi .nil C8.pass0 hb
theorem op_eqx (h : EqX X.prog X.w X.K X.mg X.base k C sp) (hr : Room j X.A) (hk : k ≤ j) : OpR X (compareOp .Eq) (rEqO X.K C fun vs H Q E => sp (vs ++ []) H Q E) := by
  obtain ⟨g, fd, ps, c, F, hb⟩ := h
  exact op_eqO c (F.raw hb .nil) (hr.mono hk) C8.pass0
theorem op_nex (h : EqX X.prog X.w X.K X.mg X.base k C sp) (hr : Room j X.A) (hk : k + 1 ≤ j) : OpR X (compareOp .NotEq) (rNeO X.K C fun vs H Q E => sp (vs ++ []) H Q E) := by
  obtain ⟨g, fd, ps, c, F, hb⟩ := h
  exact op_neO c (F.raw hb .nil) (hr.mono hk) C8.pass0
end
end Uni
set_option Elab.async false
set_option linter.all false
set_option maxRecDepth 100000
set_option maxHeartbeats 2000000
namespace K39
open PySem L2 Uni
abbrev gW (K : PySem.W.Frag) : Addr := He.ga K "World"
/-- an own exception that is made -/
def sp_exc (C : Addr) (f : PySem.Str) : Sp := fun vs H Q _ => ∃ (a : Addr) (y : V), vs = [.ref a, y] ∧ H a = some (exo a C none) ∧ ∀ dx, H dx = none → dx ≠ a → Q .non (upd (upd H dx (exd dx [(f, y)])) a (exo a C (some dx)))
/-- C's exception goes out, y its field -/
def Out (H : Hp) (E : XK) (C : Addr) (f : PySem.Str) (y : V) : Prop := ∀ (d : Addr) (H' : Hp), Ex H H' → H' d = some (.xd [(f, y)]) → E (.ref C) (some d) H'
def sp_check_signs (K : PySem.W.Frag) : Sp := fun vs H Q E => ∃ s r : List Nat, vs = [sv s, sv r] ∧ s.length ≤ 1000 ∧ r.length ≤ 1000 ∧ (okSigns s STEPSL = true → okSigns r ROOTSL = true → Q .non H) ∧
  (okSigns s STEPSL = false → Out H E (He.ga K "BadSteps") "steps" (sv s)) ∧ (okSigns s STEPSL = true → okSigns r ROOTSL = false → Out H E (He.ga K "BadRoots") "roots" (sv r))
/-- what a table of any lists or tuples is -/
structure TabIn (H : Hp) (b l t : V) (tb : Tb) : Prop where
  b : ∃ k, SeqI k H b tb.begins
  l : ∃ k, ∃ a xs, l = .ref a ∧ H a = some (kho k xs) ∧ xs.length = tb.lines.length ∧ ∀ (i : Nat) x row, xs[i]? = some x → tb.lines[i]? = some row → ∃ j, SeqI j H x row
  t : ∃ k, SeqS k H t tb.texts
  few : tb.texts.length ≤ 1000 ∧ tb.lines.length ≤ 1000
  short : ∀ x ∈ tb.texts, x.length ≤ 1000
theorem TabIn.ex {H H' : Hp} {b l t : V} {tb : Tb} (e : Ex H H') (h : TabIn H b l t tb) : TabIn H' b l t tb :=
  ⟨let ⟨k, h⟩ := h.b; ⟨k, h.ex e⟩, let ⟨k, a, xs, e1, e2, e3, e4⟩ := h.l; ⟨k, a, xs, e1, e _ _ e2, e3, fun i x row a b => let ⟨j, h⟩ := e4 i x row a b; ⟨j, h.ex e⟩⟩, let ⟨k, h⟩ := h.t; ⟨k, h.ex e⟩, h.few, h.short⟩
def sp_check_table (K : PySem.W.Frag) : Sp := fun vs H Q E => ∃ (s r : List Nat) (b l t : V) (tb : Tb), vs = [sv s, sv r, b, l, t] ∧ s.length ≤ 1000 ∧ r.length ≤ 1000 ∧ TabIn H b l t tb ∧
  (¬ badMarked tb → ¬ badMoves s.length tb → ¬ badStarts r.length tb → ∀ H', Ex H H' → Q .non H') ∧ (badMarked tb → Out H E (He.ga K "BadWorld") "part" (.str "marked")) ∧
  (¬ badMarked tb → badMoves s.length tb → Out H E (He.ga K "BadWorld") "part" (.str "moves")) ∧ (¬ badMarked tb → ¬ badMoves s.length tb → badStarts r.length tb → Out H E (He.ga K "BadWorld") "part" (.str "starts"))
/-- H' has what H has, but at a -/
def ExB (a : Addr) (H H' : Hp) : Prop := ∀ b o, b ≠ a → H b = some o → H' b = some o
def sp_World_init (K : PySem.W.Frag) : Sp := fun vs H Q E => ∃ (a dx : Addr) (s r : List Nat) (b l t : V) (tb : Tb), vs = [.ref a, sv s, sv r, b, l, t] ∧ H a = some (.ins (gW K) dx []) ∧ s.length ≤ 1000 ∧ r.length ≤ 1000 ∧ TabIn H b l t tb ∧
  (GoodSg s r → GoodTb s.length r.length tb → ∀ H', ExB a H H' → WorldAt (gW K) H' (.ref a) s r tb → Q .non H') ∧ (GoodSg s r → GoodTb s.length r.length tb ∨ badMarked tb ∨ badMoves s.length tb ∨ badStarts r.length tb) ∧
  (okSigns s STEPSL = false → Out H E (He.ga K "BadSteps") "steps" (sv s)) ∧ (okSigns s STEPSL = true → okSigns r ROOTSL = false → Out H E (He.ga K "BadRoots") "roots" (sv r)) ∧
  (GoodSg s r → badMarked tb → Out H E (He.ga K "BadWorld") "part" (.str "marked")) ∧ (GoodSg s r → ¬ badMarked tb → badMoves s.length tb → Out H E (He.ga K "BadWorld") "part" (.str "moves")) ∧
  (GoodSg s r → ¬ badMarked tb → ¬ badMoves s.length tb → badStarts r.length tb → Out H E (He.ga K "BadWorld") "part" (.str "starts"))
/-- a world that was let in -/
structure Wd (K : PySem.W.Frag) (H : Hp) (v : V) (s r : List Nat) (tb : Tb) : Prop where
  at_ : WorldAt (gW K) H v s r tb
  sg : GoodSg s r
  tb : GoodTb s.length r.length tb
theorem Wd.ex {K : PySem.W.Frag} {H H' : Hp} {v : V} {s r : List Nat} {tb : Tb} (e : Ex H H') (h : Wd K H v s r tb) : Wd K H' v s r tb := ⟨h.at_.ex e, h.sg, h.tb⟩
theorem Wd.kt {K : PySem.W.Frag} {H H' : Hp} {v : V} {s r : List Nat} {tb : Tb} (e : KT H H') (h : Wd K H v s r tb) : Wd K H' v s r tb := ⟨h.at_.kt e, h.sg, h.tb⟩
def sp_World_state_behind (K : PySem.W.Frag) : Sp := fun vs H Q _ => ∃ (v : V) (s r row : List Nat) (n : Int) (tb : Tb), vs = [v, .int n, sv row] ∧ Wd K H v s r tb ∧ 0 ≤ n ∧ n < (tb.texts.length : Int) ∧ (∀ d ∈ row, d ∈ s) ∧ Q (.int (wlk s tb.lines n row)) H
def sp_World_state_of (K : PySem.W.Frag) : Sp := fun vs H Q _ => ∃ (v : V) (s r spot : List Nat) (tb : Tb), vs = [v, sv spot] ∧ Wd K H v s r tb ∧ Spot s r spot ∧ spot.length ≤ 1000 ∧ Q (.int (stAt s r tb spot)) H
def hasM (tb : Tb) (n : Int) (m : Nat) : Bool := decide (m ∈ tb.texts.getD n.toNat [])
def sp_World_call (K : PySem.W.Frag) : Sp := fun vs H Q _ => ∃ (v : V) (s r spot : List Nat) (m : Nat) (tb : Tb), vs = [v, sv (m :: spot)] ∧ Wd K H v s r tb ∧ Spot s r spot ∧ spot.length ≤ 1000 ∧ Q (.bl (hasM tb (stAt s r tb spot) m)) H
def sp_World_reached (K : PySem.W.Frag) : Sp := fun vs H Q _ => ∃ (v : V) (s r : List Nat) (tb : Tb), vs = [v] ∧ Wd K H v s r tb ∧ ∀ (q : Addr) (R : List Int) (H' : Hp), Ex H H' → H' q = some (.tup (R.map V.int)) → Qu tb.lines [] tb.begins R → R.length ≤ 400 → Q (.ref q) H'
def sp_World_eq (K : PySem.W.Frag) : Sp := fun vs H Q _ => ∃ (v y : V) (s r : List Nat) (tb : Tb), vs = [v, y] ∧ Wd K H v s r tb ∧
  ((∃ (s' r' : List Nat) (tb' : Tb), Wd K H y s' r' tb' ∧ ∀ k : Bool, (k = true ↔ (s = s' ∧ r = r' ∧ tb = tb')) → Q (.bl k) H) ∨ ∃ t, TyX K H y t ∧ PySem.W.kitOne K t (.ref (gW K)) = some false ∧ Q (.bl false) H)
def sp_law_walks (K : PySem.W.Frag) : Sp := fun vs H Q _ => ∃ (v due : V) (p : Addr) (s r marks : List Nat) (tb : Tb) (spots : List (List Nat)), vs = [v, due, .ref p, sv marks] ∧ Wd K H v s r tb ∧ FieldsAt H due s r tb ∧ H p = some (.lst (spots.map sv)) ∧ (∀ x ∈ spots, Spot s r x ∧ x.length ≤ 900) ∧ marks.length ≤ 1000 ∧
  ∀ H', Ex H H' → Q (.bl true) H'
/-- the digits of a list -/
def DigsAt (H : Hp) (q : Addr) (zs ds : List Int) : Prop := H q = some (.lst (ds.map V.int)) ∧ ds.length = zs.length ∧ ∀ (i : Nat) d z, ds[i]? = some d → zs[i]? = some z → 0 ≤ d ∧ d < z
abbrev MORE : List Int := [3, 26, 400, 399]
abbrev WRONG : List Int := [8, 210, 8, 210, 4, 400, 210, 9, 210, 6, 1000000]
/-- one that differs -/
def Near (H : Hp) (s r : List Nat) (tb : Tb) (x : V) : Prop := ∃ (s' r' : List Nat) (tb' : Tb), FieldsAt H x s' r' tb' ∧ GoodSg s' r' ∧ GoodTb s'.length r'.length tb' ∧ ¬ (s = s' ∧ r = r' ∧ tb = tb')
def sp_law_near (K : PySem.W.Frag) : Sp := fun vs H Q _ => ∃ (due : V) (q : Addr) (ds : List Int) (s r : List Nat) (tb : Tb), vs = [due, .ref q] ∧ FieldsAt H due s r tb ∧ GoodSg s r ∧ GoodTb s.length r.length tb ∧ Small tb ∧ DigsAt H q MORE ds ∧
  ∀ (p : Addr) (xs : List V) (H' : Hp), Ex H H' → H' p = some (.lst xs) → (∀ x ∈ xs, Near H' s r tb x) → Q (.ref p) H'
def sp_law_equalities (K : PySem.W.Frag) : Sp := fun vs H Q _ => ∃ (v u due : V) (p : Addr) (xs : List V) (s r : List Nat) (tb : Tb), vs = [v, u, due, .ref p] ∧ Wd K H v s r tb ∧ Wd K H u s r tb ∧ FieldsAt H due s r tb ∧ H p = some (.lst xs) ∧ (∀ x ∈ xs, Near H s r tb x) ∧ ∀ H', Ex H H' → Q (.bl true) H'
def sp_law_greatest (K : PySem.W.Frag) : Sp := fun vs H Q _ => ∃ (due : V) (q : Addr) (ds : List Int) (s r : List Nat) (tb : Tb), vs = [due, .ref q] ∧ FieldsAt H due s r tb ∧ GoodSg s r ∧ GoodTb s.length r.length tb ∧ DigsAt H q MORE ds ∧ ∀ H', Ex H H' → Q (.bl true) H'
def spx_law_classes (K : PySem.W.Frag) : SpX := fun a D dd vs H Q _ => vs = [.ref a] ∧ (D = He.ga K "BadSteps" ∨ D = He.ga K "BadRoots" ∨ D = He.ga K "BadWorld") ∧ (∃ fs, H dd = some (.xd fs)) ∧ ∀ H', Ex H H' → Q (.bl true) H'
/-- what is due -/
inductive Due (s r : List Nat) (tb : Tb) : PySem.Str → V → Prop where
  | steps (h : okSigns s STEPSL = false) : Due s r tb "steps" (sv s)
  | roots (h : okSigns s STEPSL = true) (h2 : okSigns r ROOTSL = false) : Due s r tb "roots" (sv r)
  | marked (g : GoodSg s r) (h : badMarked tb) : Due s r tb "world" (.str "marked")
  | moves (g : GoodSg s r) (h : ¬ badMarked tb) (h2 : badMoves s.length tb) : Due s r tb "world" (.str "moves")
  | starts (g : GoodSg s r) (h : ¬ badMarked tb) (h2 : ¬ badMoves s.length tb) (h3 : badStarts r.length tb) : Due s r tb "world" (.str "starts")
def sp_law_refusal (K : PySem.W.Frag) : Sp := fun vs H Q _ => ∃ (p : Addr) (s r : List Nat) (b l t : V) (tb : Tb) (x : PySem.Str) (y : V), vs = [.ref p] ∧ H p = some (.lst [sv s, sv r, t, l, b]) ∧ s.length ≤ 1000 ∧ r.length ≤ 1000 ∧ TabIn H b l t tb ∧ Due s r tb x y ∧
  ∀ (q : Addr) (H' : Hp), Ex H H' → H' q = some (.tup [.str x, y, .bl true]) → Q (.ref q) H'
def sp_law_refusals (K : PySem.W.Frag) : Sp := fun vs H Q _ => ∃ (due : V) (q : Addr) (ds : List Int) (s r : List Nat) (tb : Tb), vs = [due, .ref q] ∧ FieldsAt H due s r tb ∧ GoodSg s r ∧ GoodTb s.length r.length tb ∧ Small tb ∧ DigsAt H q WRONG ds ∧ ∀ H', Ex H H' → Q (.bl true) H'
def sp_law (K : PySem.W.Frag) : Sp := fun vs H Q _ => ∃ (a : Addr) (ns : List Int), vs = [.ref a] ∧ SqL K H a (ns.map V.int) ∧ ns.length ≤ 1000 ∧ ∀ H', Ex H H' → Q (.bl true) H'
end K39
set_option Elab.async false
set_option linter.all false
set_option maxRecDepth 100000
set_option maxHeartbeats 4000000
namespace K39
open PySem L2 PySem.Spec PyProof.Rows Uni
structure Ty (K : PySem.W.Frag) (mg : Str → Option Value) : Prop extends Tx K mg where
  ValueError : mg "ValueError" = none
  all : mg "all" = none
  c_BadClaim : mg "BadClaim" = some (.ref (He.ga K "BadClaim"))
  c_BadGrammar : mg "BadGrammar" = some (.ref (He.ga K "BadGrammar"))
  c_BadLine : mg "BadLine" = some (.ref (He.ga K "BadLine"))
  c_BadName : mg "BadName" = some (.ref (He.ga K "BadName"))
  c_BadRoots : mg "BadRoots" = some (.ref (He.ga K "BadRoots"))
  c_BadSpelling : mg "BadSpelling" = some (.ref (He.ga K "BadSpelling"))
  c_BadSteps : mg "BadSteps" = some (.ref (He.ga K "BadSteps"))
  c_BadText : mg "BadText" = some (.ref (He.ga K "BadText"))
  c_BadThing : mg "BadThing" = some (.ref (He.ga K "BadThing"))
  c_BadWorld : mg "BadWorld" = some (.ref (He.ga K "BadWorld"))
  c_LemmaError : mg "LemmaError" = some (.ref (He.ga K "LemmaError"))
  c_ListCanBeTrue : mg "ListCanBeTrue" = some (.ref (He.ga K "ListCanBeTrue"))
  c_MixedClaim : mg "MixedClaim" = some (.ref (He.ga K "MixedClaim"))
  c_NameTaken : mg "NameTaken" = some (.ref (He.ga K "NameTaken"))
  c_NoName : mg "NoName" = some (.ref (He.ga K "NoName"))
  c_NoProof : mg "NoProof" = some (.ref (He.ga K "NoProof"))
  c_NothingToRedo : mg "NothingToRedo" = some (.ref (He.ga K "NothingToRedo"))
  c_NothingToUndo : mg "NothingToUndo" = some (.ref (He.ga K "NothingToUndo"))
  c_StrangeSign : mg "StrangeSign" = some (.ref (He.ga K "StrangeSign"))
  c_TooLong : mg "TooLong" = some (.ref (He.ga K "TooLong"))
  c_TooManyRoots : mg "TooManyRoots" = some (.ref (He.ga K "TooManyRoots"))
  c_TooWide : mg "TooWide" = some (.ref (He.ga K "TooWide"))
  c_World : mg "World" = some (.ref (He.ga K "World"))
  c_WorldsDiffer : mg "WorldsDiffer" = some (.ref (He.ga K "WorldsDiffer"))
  g_check_signs : mg "check_signs" = some (.ref (He.ga K "check_signs"))
  g_check_table : mg "check_table" = some (.ref (He.ga K "check_table"))
  g_law_walks : mg "_law_walks" = some (.ref (He.ga K "_law_walks"))
  g_law_near : mg "_law_near" = some (.ref (He.ga K "_law_near"))
  g_law_equalities : mg "_law_equalities" = some (.ref (He.ga K "_law_equalities"))
  g_law_greatest : mg "_law_greatest" = some (.ref (He.ga K "_law_greatest"))
  g_law_classes : mg "_law_classes" = some (.ref (He.ga K "_law_classes"))
  g_law_refusal : mg "_law_refusal" = some (.ref (He.ga K "_law_refusal"))
  g_law_refusals : mg "_law_refusals" = some (.ref (He.ga K "_law_refusals"))
  g_law : mg "law" = some (.ref (He.ga K "law"))
end K39
set_option Elab.async false
set_option linter.all false
set_option maxRecDepth 100000
set_option maxHeartbeats 4000000
namespace K39
open PySem L2 PySem.Spec PyProof.Rows Uni
/-- BadSteps.__init__ -/
def t_BadSteps_init (K : PySem.W.Frag) : TS :=
  (tOst K "steps" (tVar 0) (tVar 1))
def N_BadSteps_init : List PySem.Str := ["self", "steps"]
/-- BadRoots.__init__ -/
def t_BadRoots_init (K : PySem.W.Frag) : TS :=
  (tOst K "roots" (tVar 0) (tVar 1))
def N_BadRoots_init : List PySem.Str := ["self", "roots"]
/-- BadWorld.__init__ -/
def t_BadWorld_init (K : PySem.W.Frag) : TS :=
  (tOst K "part" (tVar 0) (tVar 1))
def N_BadWorld_init : List PySem.Str := ["self", "part"]
/-- check_signs -/
def t_check_signs (K : PySem.W.Frag) (E : XK) : TS :=
  (tSeq (tIfS (tNot (tB (tCall (sp_lists_signs K) [] E0 (tCons (tVar 0) (tCons (tC (.str "abcdefghijklmnopqrstuvwyz")) tNil))))) (tRaiseO (He.ga K "BadSteps") (sp_exc (He.ga K "BadSteps") "steps") (fun cls d _ H => E cls d H) (tCons (tVar 0) tNil)) tNext) (tIfS (tNot (tB (tCall (sp_lists_signs K) [] E0 (tCons (tVar 1) (tCons (tC (.str "0123456789")) tNil))))) (tRaiseO (He.ga K "BadRoots") (sp_exc (He.ga K "BadRoots") "roots") (fun cls d _ H => E cls d H) (tCons (tVar 1) tNil)) tNext))
def N_check_signs : List PySem.Str := ["steps", "roots"]
/-- check_table -/
def t_check_table (K : PySem.W.Frag) (E : XK) : TS :=
  (tSeq (tAsg (tCB (uLen K) (tCons (tVar 4) tNil)) (gName 5)) (tSeq (tIfS (tOr (tTest (tOp (uEq K) (tVar 5) (tC (.int 0)))) (tNot (tB (tCB (rAll K) (tCons (tLc (iUni K (tVar 4)) (gName 6) tYes (tCall (sp_lists_marks K) [] E0 (tCons (tVar 6) tNil)) [6]) tNil))))) (tRaiseO (He.ga K "BadWorld") (sp_exc (He.ga K "BadWorld") "part") (fun cls d _ H => E cls d H) (tCons (tC (.str "marked")) tNil)) tNext) (tSeq (tIfS (tOr (tTest (tOp (uNe K) (tCB (uLen K) (tCons (tVar 3) tNil)) (tVar 5))) (tNot (tB (tCB (rAll K) (tCons (tLc (iUni K (tVar 3)) (gName 7) tYes (tCall (sp_are_states K) [] E0 (tCons (tVar 7) (tCons (tCB (uLen K) (tCons (tVar 0) tNil)) (tCons (tVar 5) tNil)))) [7]) tNil))))) (tRaiseO (He.ga K "BadWorld") (sp_exc (He.ga K "BadWorld") "part") (fun cls d _ H => E cls d H) (tCons (tC (.str "moves")) tNil)) tNext) (tIfS (tNot (tB (tCall (sp_are_states K) [] E0 (tCons (tVar 2) (tCons (tCB (uLen K) (tCons (tVar 1) tNil)) (tCons (tVar 5) tNil)))))) (tRaiseO (He.ga K "BadWorld") (sp_exc (He.ga K "BadWorld") "part") (fun cls d _ H => E cls d H) (tCons (tC (.str "starts")) tNil)) tNext))))
def N_check_table : List PySem.Str := ["steps", "roots", "starts", "moves", "marked", "many", "text", "row"]
/-- World.__init__ -/
def t_World_init (K : PySem.W.Frag) (E : XK) : TS :=
  (tSeq (tDrop (tCallS (sp_check_signs K) (fun _ => E) (tCons (tVar 1) (tCons (tVar 2) tNil)))) (tSeq (tDrop (tCallS (sp_check_table K) (fun _ => E) (tCons (tVar 1) (tCons (tVar 2) (tCons (tVar 3) (tCons (tVar 4) (tCons (tVar 5) tNil))))))) (tSeq (sFld K (tVar 0) (tVar 1) "steps") (tSeq (sFld K (tVar 0) (tVar 2) "roots") (tSeq (sFld K (tVar 0) (tCB (uTuple K) (tCons (tVar 3) tNil)) "starts") (tSeq (sFld K (tVar 0) (tCB (uTuple K) (tCons (tLc (iUni K (tVar 4)) (gName 6) tYes (tCB (uTuple K) (tCons (tVar 6) tNil)) [6]) tNil)) "moves") (tSeq (sFld K (tVar 0) (tCB (uTuple K) (tCons (tVar 5) tNil)) "marked") (sFld K (tVar 0) (tCall (sp_least_places_of K) [] E0 (tCons (tFld K (tVar 0) "steps") (tCons (tFld K (tVar 0) "roots") (tCons (tFld K (tVar 0) "starts") (tCons (tFld K (tVar 0) "moves") tNil))))) "_places"))))))))
def N_World_init : List PySem.Str := ["self", "steps", "roots", "starts", "moves", "marked", "row"]
/-- World.__eq__ -/
def t_World_eq (K : PySem.W.Frag) : TS :=
  (tRet (tAndV (tCB (rIsi K) (tCons (tVar 1) (tCons (tC (.ref (He.ga K "World"))) tNil))) (tAndV (tOp (uEq K) (tFld K (tVar 0) "steps") (tFld K (tVar 1) "steps")) (tAndV (tOp (uEq K) (tFld K (tVar 0) "roots") (tFld K (tVar 1) "roots")) (tAndV (tOp (uEq K) (tFld K (tVar 0) "starts") (tFld K (tVar 1) "starts")) (tAndV (tOp (uEq K) (tFld K (tVar 0) "moves") (tFld K (tVar 1) "moves")) (tOp (uEq K) (tFld K (tVar 0) "marked") (tFld K (tVar 1) "marked"))))))))
def N_World_eq : List PySem.Str := ["self", "other"]
/-- World.__call__ -/
def t_World_call (K : PySem.W.Frag) : TS :=
  (tRet (tOp (uIn K false) (tOp (uIx K) (tVar 1) (tC (.int 0))) (tOp (uIx K) (tFld K (tVar 0) "marked") (tMeth (He.ga K "World") "state_of" (sp_World_state_of K) [] C8.E0 (tVar 0) (tCons (tSl (uSl K) (tVar 1) (tPart (tC (.int 1))) tNoPart) tNil)))))
def N_World_call : List PySem.Str := ["self", "atom"]
/-- World.state_behind -/
def t_World_state_behind (K : PySem.W.Frag) : TS :=
  (tSeq (tFor (iUni K (tVar 2)) (gName 3) (tAsg (tOp (uIx K) (tOp (uIx K) (tFld K (tVar 0) "moves") (tVar 1)) (tBM K "str" rSIndex (tFld K (tVar 0) "steps") (tCons (tVar 3) tNil))) (gName 1))) (tRet (tVar 1)))
def N_World_state_behind : List PySem.Str := ["self", "state", "row", "step"]
/-- World.state_of -/
def t_World_state_of (K : PySem.W.Frag) : TS :=
  (tRet (tMeth (He.ga K "World") "state_behind" (sp_World_state_behind K) [] C8.E0 (tVar 0) (tCons (tOp (uIx K) (tFld K (tVar 0) "starts") (tBM K "str" rSIndex (tFld K (tVar 0) "roots") (tCons (tOp (uIx K) (tVar 1) (tC (.int 0))) tNil))) (tCons (tSl (uSl K) (tVar 1) (tPart (tC (.int 1))) tNoPart) tNil))))
def N_World_state_of : List PySem.Str := ["self", "place"]
/-- World.reached -/
def t_World_reached (K : PySem.W.Frag) : TS :=
  (tRet (tCB (uTuple K) (tCons (tFld K (tVar 0) "_places") tNil)))
def N_World_reached : List PySem.Str := ["self"]
/-- _law_walks -/
def t_law_walks (K : PySem.W.Frag) : TS :=
  (tSeq (tFor (iUni K (tVar 2)) (gName 4) (tSeq (tAsg (tCall (sp_law_at K) [] E0 (tCons (tVar 1) (tCons (tVar 4) tNil))) (gName 5)) (tSeq (tIfS (tNot (tB (tCall (sp_law_same K) [] E0 (tCons (tMeth (He.ga K "World") "state_of" (sp_World_state_of K) [] C8.E0 (tVar 0) (tCons (tVar 4) tNil)) (tCons (tVar 5) tNil))))) (tRet (tC (.bl false))) tNext) (tFor (iUni K (tVar 3)) (gName 6) (tIfS (tNot (tB (tCall (sp_law_same K) [] E0 (tCons (tCallI (He.ga K "World") (fun vs H Q E => sp_World_call K (vs ++ []) H Q E) C8.E0 (tVar 0) (tCons (tOp (uAdd K) (tVar 6) (tVar 4)) tNil)) (tCons (tOp (uIn K false) (tVar 6) (tOp (uIx K) (tOp (uIx K) (tVar 1) (tC (.int 4))) (tVar 5))) tNil))))) (tRet (tC (.bl false))) tNext))))) (tRet (tC (.bl true))))
def N_law_walks : List PySem.Str := ["world", "due", "spots", "marks", "spot", "state", "mark"]
/-- _law_near -/
def t_law_near (K : PySem.W.Frag) : TS :=
  (tSeq (tAsg (tCB (uLen K) (tCons (tOp (uIx K) (tVar 0) (tC (.int 4))) tNil)) (gName 2)) (tSeq (tAsg (tLc (iUni K (tC (.str "abcdefghijklmnopqrstuvwyz"))) (gName 15) (tTest (tOp (uIn K true) (tVar 15) (tOp (uIx K) (tVar 0) (tC (.int 0))))) (tVar 15) [15]) (gName 3)) (tSeq (tAsg (tLc (iUni K (tC (.str "0123456789"))) (gName 15) (tTest (tOp (uIn K true) (tVar 15) (tOp (uIx K) (tVar 0) (tC (.int 1))))) (tVar 15) [15]) (gName 4)) (tSeq (tAsg (tOp uMod (tOp (uIx K) (tVar 1) (tC (.int 0))) (tCB (uLen K) (tCons (tOp (uIx K) (tVar 0) (tC (.int 0))) tNil))) (gName 5)) (tSeq (tAsg (tM1 (rJoin K) (tC (.str "")) (tCB (uSorted K) (tCons (tCB (uList K) (tCons (tOp (uAdd K) (tOp (uAdd K) (tSl (uSl K) (tOp (uIx K) (tVar 0) (tC (.int 0))) tNoPart (tPart (tVar 5))) (tSl (uSl K) (tOp (uIx K) (tVar 0) (tC (.int 0))) (tPart (tOp (uAdd K) (tVar 5) (tC (.int 1)))) tNoPart)) (tOp (uIx K) (tVar 3) (tOp uMod (tOp (uIx K) (tVar 1) (tC (.int 1))) (tCB (uLen K) (tCons (tVar 3) tNil))))) tNil)) tNil))) (gName 6)) (tSeq (tAsg (tLst (tCons (tTup (tCons (tVar 6) (tCons (tOp (uIx K) (tVar 0) (tC (.int 1))) (tCons (tOp (uIx K) (tVar 0) (tC (.int 2))) (tCons (tOp (uIx K) (tVar 0) (tC (.int 3))) (tCons (tOp (uIx K) (tVar 0) (tC (.int 4))) tNil)))))) tNil)) (gName 7)) (tSeq (tAsg (tOp uMod (tOp (uIx K) (tVar 1) (tC (.int 0))) (tCB (uLen K) (tCons (tOp (uIx K) (tVar 0) (tC (.int 1))) tNil))) (gName 5)) (tSeq (tAsg (tM1 (rJoin K) (tC (.str "")) (tCB (uSorted K) (tCons (tCB (uList K) (tCons (tOp (uAdd K) (tOp (uAdd K) (tSl (uSl K) (tOp (uIx K) (tVar 0) (tC (.int 1))) tNoPart (tPart (tVar 5))) (tSl (uSl K) (tOp (uIx K) (tVar 0) (tC (.int 1))) (tPart (tOp (uAdd K) (tVar 5) (tC (.int 1)))) tNoPart)) (tOp (uIx K) (tVar 4) (tOp uMod (tOp (uIx K) (tVar 1) (tC (.int 1))) (tCB (uLen K) (tCons (tVar 4) tNil))))) tNil)) tNil))) (gName 6)) (tSeq (tDrop (tBM K "list" rAppend (tVar 7) (tCons (tTup (tCons (tOp (uIx K) (tVar 0) (tC (.int 0))) (tCons (tVar 6) (tCons (tOp (uIx K) (tVar 0) (tC (.int 2))) (tCons (tOp (uIx K) (tVar 0) (tC (.int 3))) (tCons (tOp (uIx K) (tVar 0) (tC (.int 4))) tNil)))))) tNil))) (tSeq (tAsg (tOp uMod (tOp (uIx K) (tVar 1) (tC (.int 2))) (tVar 2)) (gName 8)) (C8.tCut (tIfS (tTest (tOp uGt (tVar 2) (tC (.int 1)))) (tSeq (tAsg (tCB (uList K) (tCons (tOp (uIx K) (tVar 0) (tC (.int 2))) tNil)) (gName 12)) (tSeq (tAsg (tOp uMod (tOp (uAdd K) (tOp (uAdd K) (tOp (uIx K) (tVar 12) (tVar 5)) (tC (.int 1))) (tOp uMod (tOp (uIx K) (tVar 1) (tC (.int 3))) (tOp uSub (tVar 2) (tC (.int 1))))) (tVar 2)) (gSub (tVar 12) (tVar 5) rSetL)) (tSeq (tDrop (tBM K "list" rAppend (tVar 7) (tCons (tTup (tCons (tOp (uIx K) (tVar 0) (tC (.int 0))) (tCons (tOp (uIx K) (tVar 0) (tC (.int 1))) (tCons (tCB (uTuple K) (tCons (tVar 12) tNil)) (tCons (tOp (uIx K) (tVar 0) (tC (.int 3))) (tCons (tOp (uIx K) (tVar 0) (tC (.int 4))) tNil)))))) tNil))) (tSeq (tAsg (tLc (iUni K (tOp (uIx K) (tVar 0) (tC (.int 3)))) (gName 14) tYes (tCB (uList K) (tCons (tVar 14) tNil)) [14]) (gName 13)) (tSeq (tAsg (tOp (uIx K) (tVar 13) (tVar 8)) (gName 14)) (tSeq (tAsg (tOp uMod (tOp (uIx K) (tVar 1) (tC (.int 0))) (tCB (uLen K) (tCons (tVar 14) tNil))) (gName 5)) (tSeq (tAsg (tOp uMod (tOp (uAdd K) (tOp (uAdd K) (tOp (uIx K) (tVar 14) (tVar 5)) (tC (.int 1))) (tOp uMod (tOp (uIx K) (tVar 1) (tC (.int 3))) (tOp uSub (tVar 2) (tC (.int 1))))) (tVar 2)) (gSub (tVar 14) (tVar 5) rSetL)) (tDrop (tBM K "list" rAppend (tVar 7) (tCons (tTup (tCons (tOp (uIx K) (tVar 0) (tC (.int 0))) (tCons (tOp (uIx K) (tVar 0) (tC (.int 1))) (tCons (tOp (uIx K) (tVar 0) (tC (.int 2))) (tCons (tCB (uTuple K) (tCons (tLc (iUni K (tVar 13)) (gName 16) tYes (tCB (uTuple K) (tCons (tVar 16) tNil)) [16]) tNil)) (tCons (tOp (uIx K) (tVar 0) (tC (.int 4))) tNil)))))) tNil)))))))))) tNext) (tSeq (tAsg (tOp (uIx K) (tC (.str "ABCDEFGHIJKLMNOPQRSTUVWXYZ")) (tOp (uIx K) (tVar 1) (tC (.int 1)))) (gName 9)) (tSeq (tAsg (tLc (iUni K (tOp (uIx K) (tOp (uIx K) (tVar 0) (tC (.int 4))) (tVar 8))) (gName 15) (tTest (tOp (uNe K) (tVar 15) (tVar 9))) (tVar 15) [15]) (gName 10)) (C8.tCut (tIfS (tTest (tOp (uIn K true) (tVar 9) (tOp (uIx K) (tOp (uIx K) (tVar 0) (tC (.int 4))) (tVar 8)))) (tAsg (tCB (uSorted K) (tCons (tOp (uAdd K) (tVar 10) (tLst (tCons (tVar 9) tNil))) tNil)) (gName 10)) tNext) (tSeq (tAsg (tOp (uAdd K) (tOp (uAdd K) (tSl (uSl K) (tOp (uIx K) (tVar 0) (tC (.int 4))) tNoPart (tPart (tVar 8))) (tTup (tCons (tM1 (rJoin K) (tC (.str "")) (tVar 10)) tNil))) (tSl (uSl K) (tOp (uIx K) (tVar 0) (tC (.int 4))) (tPart (tOp (uAdd K) (tVar 8) (tC (.int 1)))) tNoPart)) (gName 11)) (tSeq (tDrop (tBM K "list" rAppend (tVar 7) (tCons (tTup (tCons (tOp (uIx K) (tVar 0) (tC (.int 0))) (tCons (tOp (uIx K) (tVar 0) (tC (.int 1))) (tCons (tOp (uIx K) (tVar 0) (tC (.int 2))) (tCons (tOp (uIx K) (tVar 0) (tC (.int 3))) (tCons (tVar 11) tNil)))))) tNil))) (tRet (tVar 7))))))))))))))))))
def N_law_near : List PySem.Str := ["due", "row", "many", "ways", "figures", "k", "other", "found", "state", "mark", "text", "texts", "begins", "lines", "line", "sign", "one"]
/-- _law_equalities -/
def t_law_equalities (K : PySem.W.Frag) : TS :=
  (tSeq (tIfS (tOr (tTest (tOp rNotB (tOp (rEqO K (He.ga K "World") fun vs H Q E => sp_World_eq K (vs ++ []) H Q E) (tVar 0) (tVar 1)) (tC (.bl true)))) (tOr (tTest (tOp rNotB (tOp (rNeO K (He.ga K "World") fun vs H Q E => sp_World_eq K (vs ++ []) H Q E) (tVar 0) (tVar 1)) (tC (.bl false)))) (tTest (tOp rNotB (tOp (rEqO K (He.ga K "World") fun vs H Q E => sp_World_eq K (vs ++ []) H Q E) (tVar 1) (tVar 0)) (tC (.bl true)))))) (tRet (tC (.bl false))) tNext) (tSeq (tFor (iUni K (tVar 3)) (gName 4) (tSeq (tAsg (tMake (He.ga K "World") (sp_World_init K) [] (fun _ _ _ => False) (tCons (tOp (uIx K) (tVar 4) (tC (.int 0))) (tCons (tOp (uIx K) (tVar 4) (tC (.int 1))) (tCons (tOp (uIx K) (tVar 4) (tC (.int 2))) (tCons (tOp (uIx K) (tVar 4) (tC (.int 3))) (tCons (tOp (uIx K) (tVar 4) (tC (.int 4))) tNil)))))) (gName 6)) (tSeq (tIfS (tNot (tB (tCall (sp_law_same K) [] E0 (tCons (tCall (sp_law_told_fields K) [] E0 (tCons (tVar 6) tNil)) (tCons (tVar 4) tNil))))) (tRet (tC (.bl false))) tNext) (tIfS (tOr (tTest (tOp rNotB (tOp (rEqO K (He.ga K "World") fun vs H Q E => sp_World_eq K (vs ++ []) H Q E) (tVar 0) (tVar 6)) (tC (.bl false)))) (tOr (tTest (tOp rNotB (tOp (rNeO K (He.ga K "World") fun vs H Q E => sp_World_eq K (vs ++ []) H Q E) (tVar 0) (tVar 6)) (tC (.bl true)))) (tTest (tOp rNotB (tOp (rEqO K (He.ga K "World") fun vs H Q E => sp_World_eq K (vs ++ []) H Q E) (tVar 6) (tVar 1)) (tC (.bl false)))))) (tRet (tC (.bl false))) tNext)))) (tSeq (tFor (iUni K (tLst (tCons (tVar 2) (tCons (tCB (uList K) (tCons (tVar 2) tNil)) (tCons (tOp (uIx K) (tVar 2) (tC (.int 4))) (tCons (tOp (uIx K) (tVar 2) (tC (.int 0))) (tCons (tCB (uLen K) (tCons (tOp (uIx K) (tVar 2) (tC (.int 4))) tNil)) (tCons (tC .non) (tCons (tC (.bl true)) (tCons (tC (.str "")) tNil)))))))))) (gName 5) (tIfS (tOr (tTest (tOp rNotB (tOp (rEqO K (He.ga K "World") fun vs H Q E => sp_World_eq K (vs ++ []) H Q E) (tVar 0) (tVar 5)) (tC (.bl false)))) (tTest (tOp rNotB (tOp (rNeO K (He.ga K "World") fun vs H Q E => sp_World_eq K (vs ++ []) H Q E) (tVar 0) (tVar 5)) (tC (.bl true))))) (tRet (tC (.bl false))) tNext)) (tRet (tC (.bl true))))))
def N_law_equalities : List PySem.Str := ["world", "twin", "due", "near", "fields", "value", "other"]
/-- _law_greatest -/
def t_law_greatest (K : PySem.W.Frag) : TS :=
  (tSeq (tAsg (tCB (uLen K) (tCons (tOp (uIx K) (tVar 0) (tC (.int 4))) tNil)) (gName 2)) (tSeq (tAsg (tCB (uList K) (tCons (tOp (uIx K) (tVar 0) (tC (.int 2))) tNil)) (gName 3)) (tSeq (tAsg (tOp uSub (tVar 2) (tC (.int 1))) (gSub (tVar 3) (tOp uMod (tOp (uIx K) (tVar 1) (tC (.int 0))) (tCB (uLen K) (tCons (tVar 3) tNil))) rSetL)) (tSeq (tAsg (tLc (iUni K (tOp (uIx K) (tVar 0) (tC (.int 3)))) (gName 5) tYes (tCB (uList K) (tCons (tVar 5) tNil)) [5]) (gName 4)) (tSeq (tAsg (tOp (uIx K) (tVar 4) (tOp uMod (tOp (uIx K) (tVar 1) (tC (.int 2))) (tVar 2))) (gName 5)) (tSeq (tAsg (tOp uSub (tVar 2) (tC (.int 1))) (gSub (tVar 5) (tOp uMod (tOp (uIx K) (tVar 1) (tC (.int 0))) (tCB (uLen K) (tCons (tVar 5) tNil))) rSetL)) (tSeq (tAsg (tCB (uList K) (tCons (tOp (uIx K) (tVar 0) (tC (.int 4))) tNil)) (gName 6)) (tSeq (tAsg (tC (.str "ABCDEFGHIJKLMNOPQRSTUVWXYZ")) (gSub (tVar 6) (tOp uMod (tOp (uIx K) (tVar 1) (tC (.int 2))) (tVar 2)) rSetL)) (tSeq (tAsg (tTup (tCons (tOp (uIx K) (tVar 0) (tC (.int 0))) (tCons (tOp (uIx K) (tVar 0) (tC (.int 1))) (tCons (tCB (uTuple K) (tCons (tVar 3) tNil)) (tCons (tCB (uTuple K) (tCons (tLc (iUni K (tVar 4)) (gName 9) tYes (tCB (uTuple K) (tCons (tVar 9) tNil)) [9]) tNil)) (tCons (tCB (uTuple K) (tCons (tVar 6) tNil)) tNil)))))) (gName 7)) (tSeq (tAsg (tMake (He.ga K "World") (sp_World_init K) [] (fun _ _ _ => False) (tCons (tOp (uIx K) (tVar 0) (tC (.int 0))) (tCons (tOp (uIx K) (tVar 0) (tC (.int 1))) (tCons (tVar 3) (tCons (tVar 4) (tCons (tVar 6) tNil)))))) (gName 8)) (tSeq (tIfS (tNot (tB (tCall (sp_law_same K) [] E0 (tCons (tCall (sp_law_told_fields K) [] E0 (tCons (tVar 8) tNil)) (tCons (tVar 7) tNil))))) (tRet (tC (.bl false))) tNext) (tRet (tCall (sp_law_walks K) [] E0 (tCons (tVar 8) (tCons (tVar 7) (tCons (tCall (sp_law_places K) [] E0 (tCons (tVar 7) (tCons (tC (.int 1)) tNil))) (tCons (tC (.str "ABCDEFGHIJKLMNOPQRSTUVWXYZ")) tNil)))))))))))))))))
def N_law_greatest : List PySem.Str := ["due", "row", "many", "begins", "lines", "line", "texts", "fields", "world", "one"]
/-- _law_classes -/
def t_law_classes (K : PySem.W.Frag) (a D dd : Addr) : TS :=
  (tSeq (tAsg (tLst (tCons (tCB (rIsX K a D dd) (tCons (tVar 0) (tCons (tC (.ref (He.ga K "BadClaim"))) tNil))) (tCons (tCB (rIsX K a D dd) (tCons (tVar 0) (tCons (tC (.ref (He.ga K "BadSteps"))) tNil))) (tCons (tCB (rIsX K a D dd) (tCons (tVar 0) (tCons (tC (.ref (He.ga K "BadRoots"))) tNil))) (tCons (tCB (rIsX K a D dd) (tCons (tVar 0) (tCons (tC (.ref (He.ga K "BadName"))) tNil))) tNil))))) (gName 1)) (tSeq (tAsg (tOp (uAdd K) (tVar 1) (tLst (tCons (tCB (rIsX K a D dd) (tCons (tVar 0) (tCons (tC (.ref (He.ga K "NameTaken"))) tNil))) (tCons (tCB (rIsX K a D dd) (tCons (tVar 0) (tCons (tC (.ref (He.ga K "NoName"))) tNil))) (tCons (tCB (rIsX K a D dd) (tCons (tVar 0) (tCons (tC (.ref (He.ga K "MixedClaim"))) tNil))) tNil))))) (gName 1)) (tSeq (tAsg (tOp (uAdd K) (tVar 1) (tLst (tCons (tCB (rIsX K a D dd) (tCons (tVar 0) (tCons (tC (.ref (He.ga K "StrangeSign"))) tNil))) (tCons (tCB (rIsX K a D dd) (tCons (tVar 0) (tCons (tC (.ref (He.ga K "BadThing"))) tNil))) (tCons (tCB (rIsX K a D dd) (tCons (tVar 0) (tCons (tC (.ref (He.ga K "BadGrammar"))) tNil))) tNil))))) (gName 1)) (tSeq (tAsg (tOp (uAdd K) (tVar 1) (tLst (tCons (tCB (rIsX K a D dd) (tCons (tVar 0) (tCons (tC (.ref (He.ga K "ListCanBeTrue"))) tNil))) (tCons (tCB (rIsX K a D dd) (tCons (tVar 0) (tCons (tC (.ref (He.ga K "BadWorld"))) tNil))) (tCons (tCB (rIsX K a D dd) (tCons (tVar 0) (tCons (tC (.ref (He.ga K "WorldsDiffer"))) tNil))) tNil))))) (gName 1)) (tSeq (tAsg (tOp (uAdd K) (tVar 1) (tLst (tCons (tCB (rIsX K a D dd) (tCons (tVar 0) (tCons (tC (.ref (He.ga K "TooWide"))) tNil))) (tCons (tCB (rIsX K a D dd) (tCons (tVar 0) (tCons (tC (.ref (He.ga K "NoProof"))) tNil))) (tCons (tCB (rIsX K a D dd) (tCons (tVar 0) (tCons (tC (.ref (He.ga K "TooLong"))) tNil))) tNil))))) (gName 1)) (tSeq (tAsg (tOp (uAdd K) (tVar 1) (tLst (tCons (tCB (rIsX K a D dd) (tCons (tVar 0) (tCons (tC (.ref (He.ga K "BadSpelling"))) tNil))) (tCons (tCB (rIsX K a D dd) (tCons (tVar 0) (tCons (tC (.ref (He.ga K "BadText"))) tNil))) (tCons (tCB (rIsX K a D dd) (tCons (tVar 0) (tCons (tC (.ref (He.ga K "BadLine"))) tNil))) tNil))))) (gName 1)) (tSeq (tAsg (tOp (uAdd K) (tVar 1) (tLst (tCons (tCB (rIsX K a D dd) (tCons (tVar 0) (tCons (tC (.ref (He.ga K "NothingToUndo"))) tNil))) (tCons (tCB (rIsX K a D dd) (tCons (tVar 0) (tCons (tC (.ref (He.ga K "NothingToRedo"))) tNil))) (tCons (tCB (rIsX K a D dd) (tCons (tVar 0) (tCons (tC (.ref (He.ga K "TooManyRoots"))) tNil))) tNil))))) (gName 1)) (tRet (tAndV (tOp (uEq K) (tBM K "list" (rCountB K) (tVar 1) (tCons (tC (.bl true)) tNil)) (tC (.int 1))) (tAndV (tCB (rIsX K a D dd) (tCons (tVar 0) (tCons (tC (.ref (He.ga K "LemmaError"))) tNil))) (tCB (rIsX K a D dd) (tCons (tVar 0) (tCons (tC (.ty "ValueError")) tNil)))))))))))))
def N_law_classes : List PySem.Str := ["error", "found"]
/-- _law_refusal -/
def t_law_refusal (K : PySem.W.Frag) : TS :=
  (tSeq (fun D σ H => (fun W : WX => ((tDrop (tMakeS (He.ga K "World") (sp_World_init K) (WE W) (tCons (tOp (uIx K) (tVar 0) (tC (.int 0))) (tCons (tOp (uIx K) (tVar 0) (tC (.int 1))) (tCons (tOp (uIx K) (tVar 0) (tC (.int 4))) (tCons (tOp (uIx K) (tVar 0) (tC (.int 3))) (tCons (tOp (uIx K) (tVar 0) (tC (.int 2))) tNil))))))) : TS)) (wCls K (fun _ _ _ _ => False) D [⟨.ref (He.ga K "BadSteps"), (some 1), fun a cls d => (tRet (tTup (tCons (tC (.str "steps")) (tCons (tXf a cls d (He.ga K "BadSteps") "steps" (tVar 1)) (tCons (tCallX a cls d (spx_law_classes K) C8.E0 (tCons (tVar 1) tNil)) tNil)))))⟩, ⟨.ref (He.ga K "BadRoots"), (some 1), fun a cls d => (tRet (tTup (tCons (tC (.str "roots")) (tCons (tXf a cls d (He.ga K "BadRoots") "roots" (tVar 1)) (tCons (tCallX a cls d (spx_law_classes K) C8.E0 (tCons (tVar 1) tNil)) tNil)))))⟩, ⟨.ref (He.ga K "BadWorld"), (some 1), fun a cls d => (tRet (tTup (tCons (tC (.str "world")) (tCons (tXf a cls d (He.ga K "BadWorld") "part" (tVar 1)) (tCons (tCallX a cls d (spx_law_classes K) C8.E0 (tCons (tVar 1) tNil)) tNil)))))⟩, ⟨.ref (He.ga K "LemmaError"), none, fun a cls d => (tRet (tTup (tCons (tC (.str "another")) (tCons (tC (.str "")) (tCons (tC (.bl false)) tNil)))))⟩]) D σ H) (tRet (tTup (tCons (tC (.str "none")) (tCons (tC (.str "")) (tCons (tC (.bl false)) tNil))))))
def N_law_refusal : List PySem.Str := ["arguments", "e"]
/-- _law_refusals -/
def t_law_refusals (K : PySem.W.Frag) : TS :=
  (tSeq (tAsg (tCB (uLen K) (tCons (tOp (uIx K) (tVar 0) (tC (.int 4))) tNil)) (gName 2)) (tSeq (tAsg (tLst (tCons (tOp (uIx K) (tVar 0) (tC (.int 0))) (tCons (tOp (uIx K) (tVar 0) (tC (.int 1))) (tCons (tOp (uIx K) (tVar 0) (tC (.int 4))) (tCons (tOp (uIx K) (tVar 0) (tC (.int 3))) (tCons (tOp (uIx K) (tVar 0) (tC (.int 2))) tNil)))))) (gName 3)) (tSeq (tAsg (tCall (sp_law_wrong_string K) [] E0 (tCons (tOp (uIx K) (tVar 0) (tC (.int 0))) (tCons (tC (.str "abcdefghijklmnopqrstuvwyz")) (tCons (tC (.str "xA0 \n`{X-")) (tCons (tOp (uIx K) (tVar 1) (tC (.int 0))) (tCons (tOp (uIx K) (tVar 1) (tC (.int 1))) tNil)))))) (gName 4)) (tSeq (tAsg (tCall (sp_law_wrong_string K) [] E0 (tCons (tOp (uIx K) (tVar 0) (tC (.int 1))) (tCons (tC (.str "0123456789")) (tCons (tC (.str "a/: \nxP-~")) (tCons (tOp (uIx K) (tVar 1) (tC (.int 2))) (tCons (tOp (uIx K) (tVar 1) (tC (.int 3))) tNil)))))) (gName 5)) (tSeq (tAsg (tCall (sp_law_wrong_marked K) [] E0 (tCons (tOp (uIx K) (tVar 0) (tC (.int 4))) (tCons (tOp (uIx K) (tVar 1) (tC (.int 4))) (tCons (tOp (uIx K) (tVar 1) (tC (.int 5))) (tCons (tOp (uIx K) (tVar 1) (tC (.int 6))) tNil))))) (gName 6)) (tSeq (tAsg (tCall (sp_law_wrong_moves K) [] E0 (tCons (tOp (uIx K) (tVar 0) (tC (.int 3))) (tCons (tOp (uIx K) (tVar 1) (tC (.int 7))) (tCons (tOp (uIx K) (tVar 1) (tC (.int 5))) (tCons (tOp (uIx K) (tVar 1) (tC (.int 8))) tNil))))) (gName 7)) (tSeq (tAsg (tLst (tCons (tVar 4) (tCons (tVar 5) (tCons (tVar 6) (tCons (tVar 7) (tCons (tCall (sp_law_wrong_starts K) [] E0 (tCons (tOp (uIx K) (tVar 0) (tC (.int 2))) (tCons (tVar 2) (tCons (tOp (uIx K) (tVar 1) (tC (.int 9))) (tCons (tOp (uIx K) (tVar 1) (tC (.int 10))) tNil))))) tNil)))))) (gName 8)) (tSeq (tAsg (tLst (tCons (tTup (tCons (tC (.str "steps")) (tCons (tVar 4) (tCons (tC (.bl true)) tNil)))) (tCons (tTup (tCons (tC (.str "roots")) (tCons (tVar 5) (tCons (tC (.bl true)) tNil)))) (tCons (tTup (tCons (tC (.str "world")) (tCons (tC (.str "marked")) (tCons (tC (.bl true)) tNil)))) tNil)))) (gName 9)) (tSeq (tAsg (tOp (uAdd K) (tVar 9) (tLst (tCons (tTup (tCons (tC (.str "world")) (tCons (tC (.str "moves")) (tCons (tC (.bl true)) tNil)))) (tCons (tTup (tCons (tC (.str "world")) (tCons (tC (.str "starts")) (tCons (tC (.bl true)) tNil)))) tNil)))) (gName 9)) (tSeq (tFor (iRng1 (tCons (tC (.int 5)) tNil)) (gName 10) (tFor (iRng2 (tCons (tVar 10) (tCons (tC (.int 5)) tNil))) (gName 11) (tSeq (tAsg (tCB (uList K) (tCons (tVar 3) tNil)) (gName 12)) (tSeq (tAsg (tOp (uIx K) (tVar 8) (tVar 10)) (gSub (tVar 12) (tVar 10) rSetL)) (tSeq (tAsg (tOp (uIx K) (tVar 8) (tVar 11)) (gSub (tVar 12) (tVar 11) rSetL)) (tIfS (tNot (tB (tCall (sp_law_same K) [] E0 (tCons (tCall (sp_law_refusal K) [] E0 (tCons (tVar 12) tNil)) (tCons (tOp (uIx K) (tVar 9) (tVar 10)) tNil))))) (tRet (tC (.bl false))) tNext)))))) (tRet (tCall (sp_law_same K) [] E0 (tCons (tCall (sp_law_refusal K) [] E0 (tCons (tVar 8) tNil)) (tCons (tOp (uIx K) (tVar 9) (tC (.int 0))) tNil))))))))))))))
def N_law_refusals : List PySem.Str := ["due", "row", "many", "right", "ways", "figures", "texts", "lines", "wrong", "dues", "one", "two", "arguments"]
/-- law -/
def t_law (K : PySem.W.Frag) : TS :=
  (tSeq (tAsg (tCall (sp_law_signs K) [] E0 (tCons (tCall (sp_law_cell K) [] E0 (tCons (tVar 0) (tCons (tC (.int 0)) tNil))) tNil)) (gName 1)) (tSeq (tAsg (tCall (sp_law_table K) [] E0 (tCons (tVar 1) (tCons (tCall (sp_law_cell K) [] E0 (tCons (tVar 0) (tCons (tC (.int 1)) tNil))) (tCons (tCall (sp_law_cell K) [] E0 (tCons (tVar 0) (tCons (tC (.int 2)) tNil))) tNil)))) (gName 2)) (tSeq (tAsg (tCall (sp_law_digits K) [] E0 (tCons (tCall (sp_law_cell K) [] E0 (tCons (tVar 0) (tCons (tC (.int 3)) tNil))) (tCons (tLst (tCons (tC (.int 8)) (tCons (tC (.int 16)) (tCons (tC (.int 3)) (tCons (tC (.int 201)) (tCons (tC (.int 3)) (tCons (tC (.int 3)) (tCons (tC (.int 3)) (tCons (tC (.int 26)) tNil))))))))) tNil))) (gName 3)) (tSeq (tAsg (tC (.int 3)) (gName 4)) (C8.tCut (tIfS (tTest (tOp (uEq K) (tOp (uIx K) (tVar 3) (tC (.int 0))) (tC (.int 7)))) (tSeq (tAsg (tCall (sp_law_large K) [] E0 (tCons (tVar 1) (tCons (tCall (sp_law_cell K) [] E0 (tCons (tVar 0) (tCons (tC (.int 1)) tNil))) tNil))) (gName 2)) (tAsg (tC (.int 1)) (gName 4))) tNext) (tSeq (tAsg (tCall (sp_law_fields K) [] E0 (tCons (tVar 1) (tCons (tVar 2) tNil))) (gName 5)) (tSeq (tAsg (tCall (sp_law_hand K) [] E0 (tCons (tVar 2) (tCons (tC (.int 0)) tNil))) (gName 6)) (tSeq (tAsg (tMake (He.ga K "World") (sp_World_init K) [] (fun _ _ _ => False) (tCons (tOp (uIx K) (tVar 1) (tC (.int 0))) (tCons (tOp (uIx K) (tVar 1) (tC (.int 1))) (tCons (tOp (uIx K) (tVar 6) (tC (.int 0))) (tCons (tOp (uIx K) (tVar 6) (tC (.int 1))) (tCons (tOp (uIx K) (tVar 6) (tC (.int 2))) tNil)))))) (gName 7)) (tSeq (tIfS (tOr (tTest (tOp (uNe K) (tVar 6) (tCall (sp_law_hand K) [] E0 (tCons (tVar 2) (tCons (tC (.int 0)) tNil))))) (tNot (tB (tCB (rIsi K) (tCons (tVar 7) (tCons (tC (.ref (He.ga K "World"))) tNil)))))) (tRet (tC (.bl false))) tNext) (tSeq (tDrop (tBM K "list" rAppend (tOp (uIx K) (tVar 6) (tC (.int 0))) (tCons (tC (.int 0)) tNil))) (tSeq (tDrop (tBM K "list" rAppend (tOp (uIx K) (tOp (uIx K) (tVar 6) (tC (.int 1))) (tC (.int 0))) (tCons (tC (.int 0)) tNil))) (tSeq (tDrop (tBM K "list" rAppend (tOp (uIx K) (tVar 6) (tC (.int 1))) (tCons (tLst (tCons (tC (.int 0)) tNil)) tNil))) (tSeq (tAsg (tC (.str "Z")) (gSub (tOp (uIx K) (tVar 6) (tC (.int 2))) (tC (.int 0)) rSetL)) (tSeq (tIfS (tNot (tB (tCall (sp_law_same K) [] E0 (tCons (tCall (sp_law_told_fields K) [] E0 (tCons (tVar 7) tNil)) (tCons (tVar 5) tNil))))) (tRet (tC (.bl false))) tNext) (tSeq (tAsg (tM1 (rJoin K) (tC (.str "")) (tLc (iRng1 (tCons (tOp (uIx K) (tVar 3) (tC (.int 3))) tNil)) (gName 16) tYes (tOp (uIx K) (tOp (uIx K) (tVar 5) (tC (.int 0))) (tOp uMod (tOp (uAdd K) (tOp (uAdd K) (tOp (uIx K) (tVar 3) (tC (.int 4))) (tOp (uMul K) (tVar 16) (tOp (uIx K) (tVar 3) (tC (.int 5))))) (tOp (uMul K) (tOp uFdv (tVar 16) (tC (.int 3))) (tOp (uIx K) (tVar 3) (tC (.int 6))))) (tCB (uLen K) (tCons (tOp (uIx K) (tVar 5) (tC (.int 0))) tNil)))) [16])) (gName 8)) (tSeq (tAsg (tOp (uAdd K) (tCall (sp_law_places K) [] E0 (tCons (tVar 5) (tCons (tVar 4) tNil))) (tLst (tCons (tOp (uAdd K) (tOp (uIx K) (tOp (uIx K) (tVar 5) (tC (.int 1))) (tOp uMod (tOp (uIx K) (tVar 3) (tC (.int 2))) (tCB (uLen K) (tCons (tOp (uIx K) (tVar 5) (tC (.int 1))) tNil)))) (tVar 8)) tNil))) (gName 9)) (tSeq (tAsg (tOp (uAdd K) (tOp (uIx K) (tVar 1) (tC (.int 2))) (tOp (uIx K) (tC (.str "ABCDEFGHIJKLMNOPQRSTUVWXYZ")) (tOp (uIx K) (tVar 3) (tC (.int 7))))) (gName 10)) (tSeq (tIfS (tOr (tNot (tB (tCall (sp_law_walks K) [] E0 (tCons (tVar 7) (tCons (tVar 5) (tCons (tVar 9) (tCons (tVar 10) tNil))))))) (tNot (tB (tCall (sp_law_same K) [] E0 (tCons (tProp (He.ga K "World") (sp_World_reached K) [] C8.E0 (tVar 7)) (tCons (tCall (sp_law_reached K) [] E0 (tCons (tVar 5) tNil)) tNil)))))) (tRet (tC (.bl false))) tNext) (tSeq (tAsg (tCall (sp_law_hand K) [] E0 (tCons (tVar 2) (tCons (tOp (uIx K) (tVar 3) (tC (.int 1))) tNil))) (gName 11)) (tSeq (tAsg (tMakeK (He.ga K "World") 0 (List.length (α := PySem.Str) ["steps", "roots", "starts", "moves", "marked"]) (sp_World_init K) app (fun _ _ _ => False) tNil (tCons (tOp (uIx K) (tVar 1) (tC (.int 0))) (tCons (tOp (uIx K) (tVar 1) (tC (.int 1))) (tCons (tOp (uIx K) (tVar 11) (tC (.int 0))) (tCons (tOp (uIx K) (tVar 11) (tC (.int 1))) (tCons (tOp (uIx K) (tVar 11) (tC (.int 2))) tNil)))))) (gName 12)) (tSeq (tIfS (tOr (tTest (tOp (uNe K) (tVar 11) (tCall (sp_law_hand K) [] E0 (tCons (tVar 2) (tCons (tOp (uIx K) (tVar 3) (tC (.int 1))) tNil))))) (tNot (tB (tCall (sp_law_same K) [] E0 (tCons (tCall (sp_law_told_fields K) [] E0 (tCons (tVar 12) tNil)) (tCons (tVar 5) tNil)))))) (tRet (tC (.bl false))) tNext) (tSeq (tIfS (tNot (tB (tCall (sp_law_same K) [] E0 (tCons (tMethK (He.ga K "World") "state_of" (List.length (α := PySem.Str) ["place"]) (sp_World_state_of K) app C8.E0 (tVar 12) (tCons (tOp (uIx K) (tVar 9) (tUn uNeg (tC (.int 1)))) tNil)) (tCons (tCall (sp_law_at K) [] E0 (tCons (tVar 5) (tCons (tOp (uIx K) (tVar 9) (tUn uNeg (tC (.int 1)))) tNil))) tNil))))) (tRet (tC (.bl false))) tNext) (tSeq (tIfS (tNot (tB (tCall (sp_law_same K) [] E0 (tCons (tCallIK (He.ga K "World") (List.length (α := PySem.Str) ["atom"]) (sp_World_call K) app C8.E0 (tVar 12) (tCons (tOp (uAdd K) (tOp (uIx K) (tVar 10) (tC (.int 0))) (tOp (uIx K) (tVar 9) (tUn uNeg (tC (.int 1))))) tNil)) (tCons (tOp (uIn K false) (tOp (uIx K) (tVar 10) (tC (.int 0))) (tOp (uIx K) (tOp (uIx K) (tVar 5) (tC (.int 4))) (tCall (sp_law_at K) [] E0 (tCons (tVar 5) (tCons (tOp (uIx K) (tVar 9) (tUn uNeg (tC (.int 1)))) tNil))))) tNil))))) (tRet (tC (.bl false))) tNext) (tSeq (tAsg (tCall (sp_law_digits K) [] E0 (tCons (tCall (sp_law_cell K) [] E0 (tCons (tVar 0) (tCons (tC (.int 4)) tNil))) (tCons (tLst (tCons (tC (.int 3)) (tCons (tC (.int 26)) (tCons (tC (.int 400)) (tCons (tC (.int 399)) tNil))))) tNil))) (gName 13)) (tSeq (tIfS (tOr (tNot (tB (tCall (sp_law_equalities K) [] E0 (tCons (tVar 7) (tCons (tVar 12) (tCons (tVar 5) (tCons (tCall (sp_law_near K) [] E0 (tCons (tVar 5) (tCons (tVar 13) tNil))) tNil))))))) (tNot (tB (tCall (sp_law_greatest K) [] E0 (tCons (tVar 5) (tCons (tVar 13) tNil)))))) (tRet (tC (.bl false))) tNext) (tSeq (tAsg (tCall (sp_law_digits K) [] E0 (tCons (tCall (sp_law_cell K) [] E0 (tCons (tVar 0) (tCons (tC (.int 5)) tNil))) (tCons (tLst (tCons (tC (.int 8)) (tCons (tC (.int 210)) (tCons (tC (.int 8)) (tCons (tC (.int 210)) (tCons (tC (.int 4)) (tCons (tC (.int 400)) (tCons (tC (.int 210)) (tCons (tC (.int 9)) (tCons (tC (.int 210)) (tCons (tC (.int 6)) (tCons (tC (.int 1000000)) tNil)))))))))))) tNil))) (gName 14)) (tSeq (tIfS (tNot (tB (tCall (sp_law_refusals K) [] E0 (tCons (tVar 5) (tCons (tVar 14) tNil))))) (tRet (tC (.bl false))) tNext) (tSeq (tAsg (tMake (He.ga K "World") (sp_World_init K) [] (fun _ _ _ => False) (tCons (tOp (uIx K) (tVar 1) (tC (.int 0))) (tCons (tOp (uIx K) (tVar 1) (tC (.int 1))) (tCons (tOp (uIx K) (tVar 11) (tC (.int 0))) (tCons (tOp (uIx K) (tVar 11) (tC (.int 1))) (tCons (tOp (uIx K) (tVar 11) (tC (.int 2))) tNil)))))) (gName 15)) (tSeq (tIfS (tOr (tTest (tOp rNotB (tOp (rEqO K (He.ga K "World") fun vs H Q E => sp_World_eq K (vs ++ []) H Q E) (tVar 15) (tVar 7)) (tC (.bl true)))) (tNot (tB (tCall (sp_law_same K) [] E0 (tCons (tProp (He.ga K "World") (sp_World_reached K) [] C8.E0 (tVar 15)) (tCons (tCall (sp_law_reached K) [] E0 (tCons (tVar 5) tNil)) tNil)))))) (tRet (tC (.bl false))) tNext) (tRet (tAndV (tCall (sp_law_same K) [] E0 (tCons (tCall (sp_law_told_fields K) [] E0 (tCons (tVar 7) tNil)) (tCons (tVar 5) tNil))) (tCall (sp_law_same K) [] E0 (tCons (tProp (He.ga K "World") (sp_World_reached K) [] C8.E0 (tVar 7)) (tCons (tCall (sp_law_reached K) [] E0 (tCons (tVar 5) tNil)) tNil))))))))))))))))))))))))))))))))))
def N_law : List PySem.Str := ["script", "signs", "table", "row", "length", "due", "lists", "world", "run", "spots", "marks", "hand", "twin", "more", "wrong", "last", "k"]
end K39
set_option Elab.async false
set_option linter.all false
set_option maxRecDepth 100000
set_option maxHeartbeats 4000000
namespace K39
open PySem L2 PySem.Spec PyProof.Rows Uni
section
variable {P : Program} {w : World} {K : PySem.W.Frag} {mg : Str → Option Value} {base : Heap}
theorem sc_BadSteps_init : FnScope N_BadSteps_init ["self", "steps"] (defScope (inClass (top 6) 0)) := ⟨rfl, rfl, rfl, by decide +kernel, rfl, by decide +kernel, by decide +kernel⟩
theorem pf_BadSteps_init (T : Ty K mg) (Wc : WCls K) {f : Addr} {cdv : Value} {A : Around} {outer : List Env} {s : Shared} {H : Hp} {E : XK} (hr : Room 0 (A.deeper (envOfC "BadSteps.__init__" (defScope (inClass (top 6) 0)) s.heap.objs.size f cdv))) :
    PSs (cxOf C8.CX0 P w K mg base N_BadSteps_init "BadSteps.__init__" (defScope (inClass (top 6) 0)) f cdv A outer s H E).nox (defBody (inClass (top 6) 0)) (t_BadSteps_init K) := by
  have nd := (sc_BadSteps_init).nd
  exact (pss_one (ps_ost (pv 0) (pv 1)))
theorem sc_BadRoots_init : FnScope N_BadRoots_init ["self", "roots"] (defScope (inClass (top 7) 0)) := ⟨rfl, rfl, rfl, by decide +kernel, rfl, by decide +kernel, by decide +kernel⟩
theorem pf_BadRoots_init (T : Ty K mg) (Wc : WCls K) {f : Addr} {cdv : Value} {A : Around} {outer : List Env} {s : Shared} {H : Hp} {E : XK} (hr : Room 0 (A.deeper (envOfC "BadRoots.__init__" (defScope (inClass (top 7) 0)) s.heap.objs.size f cdv))) :
    PSs (cxOf C8.CX0 P w K mg base N_BadRoots_init "BadRoots.__init__" (defScope (inClass (top 7) 0)) f cdv A outer s H E).nox (defBody (inClass (top 7) 0)) (t_BadRoots_init K) := by
  have nd := (sc_BadRoots_init).nd
  exact (pss_one (ps_ost (pv 0) (pv 1)))
theorem sc_BadWorld_init : FnScope N_BadWorld_init ["self", "part"] (defScope (inClass (top 16) 0)) := ⟨rfl, rfl, rfl, by decide +kernel, rfl, by decide +kernel, by decide +kernel⟩
theorem pf_BadWorld_init (T : Ty K mg) (Wc : WCls K) {f : Addr} {cdv : Value} {A : Around} {outer : List Env} {s : Shared} {H : Hp} {E : XK} (hr : Room 0 (A.deeper (envOfC "BadWorld.__init__" (defScope (inClass (top 16) 0)) s.heap.objs.size f cdv))) :
    PSs (cxOf C8.CX0 P w K mg base N_BadWorld_init "BadWorld.__init__" (defScope (inClass (top 16) 0)) f cdv A outer s H E).nox (defBody (inClass (top 16) 0)) (t_BadWorld_init K) := by
  have nd := (sc_BadWorld_init).nd
  exact (pss_one (ps_ost (pv 0) (pv 1)))
theorem sc_check_signs : FnScope N_check_signs ["steps", "roots"] (defScope (top 31)) := ⟨rfl, rfl, rfl, by decide +kernel, rfl, by decide +kernel, by decide +kernel⟩
theorem pf_check_signs (T : Ty K mg) (Wc : WCls K) (c_lists_signs : C8.Cal P w K mg base 2 "lists_signs" (sp_lists_signs K) []) (x_BadRoots : ExcX P w K mg base 1 "BadRoots" (He.ga K "BadRoots") (sp_exc (He.ga K "BadRoots") "roots")) (x_BadSteps : ExcX P w K mg base 1 "BadSteps" (He.ga K "BadSteps") (sp_exc (He.ga K "BadSteps") "steps")) {f : Addr} {cdv : Value} {A : Around} {outer : List Env} {s : Shared} {H : Hp} {E : XK} (hr : Room 3 (A.deeper (envOfC "check_signs" (defScope (top 31)) s.heap.objs.size f cdv))) :
    PSs (cxOf (L2.CX P w) P w K mg base N_check_signs "check_signs" (defScope (top 31)) f cdv A outer s H E) (defBody (top 31)) (t_check_signs K E) := by
  have nd := (sc_check_signs).nd
  have tk : Takes (cxOf (L2.CX P w) P w K mg base N_check_signs "check_signs" (defScope (top 31)) f cdv A outer s H E) (fun cls d _ H => E cls d H) := takes_of rfl rfl rfl rfl
  exact (pss_cons (ps_if (pt_not (pt_val (C8.pe_c c_lists_signs hr (by decide) (by rfl) (pa_cons (pv 0) (pa_cons (C8.pe_gc (by rfl) T.k_STEPS) pa_nil))))) (pss_one (ps_raiseO x_BadSteps hr (by decide) rfl tk (by rfl) (pa_cons (pv 0) pa_nil))) pss_nil)
      (pss_one (ps_if (pt_not (pt_val (C8.pe_c c_lists_signs hr (by decide) (by rfl) (pa_cons (pv 1) (pa_cons (C8.pe_gc (by rfl) T.k_ROOTS) pa_nil))))) (pss_one (ps_raiseO x_BadRoots hr (by decide) rfl tk (by rfl) (pa_cons (pv 1) pa_nil))) pss_nil)))
theorem sc_check_table : FnScope N_check_table ["steps", "roots", "starts", "moves", "marked"] (defScope (top 35)) := ⟨rfl, rfl, rfl, by decide +kernel, rfl, by decide +kernel, by decide +kernel⟩
theorem pf_check_table (T : Ty K mg) (Wc : WCls K) (c_are_states : C8.Cal P w K mg base 2 "are_states" (sp_are_states K) []) (c_lists_marks : C8.Cal P w K mg base 2 "lists_marks" (sp_lists_marks K) []) (x_BadWorld : ExcX P w K mg base 1 "BadWorld" (He.ga K "BadWorld") (sp_exc (He.ga K "BadWorld") "part")) {f : Addr} {cdv : Value} {A : Around} {outer : List Env} {s : Shared} {H : Hp} {E : XK} (hr : Room 3 (A.deeper (envOfC "check_table" (defScope (top 35)) s.heap.objs.size f cdv))) :
    PSs (cxOf (L2.CX P w) P w K mg base N_check_table "check_table" (defScope (top 35)) f cdv A outer s H E) (defBody (top 35)) (t_check_table K E) := by
  have nd := (sc_check_table).nd
  have tk : Takes (cxOf (L2.CX P w) P w K mg base N_check_table "check_table" (defScope (top 35)) f cdv A outer s H E) (fun cls d _ H => E cls d H) := takes_of rfl rfl rfl rfl
  exact (pss_cons (ps_set (i := 5) nd rfl (by first | exact Or.inl rfl | exact Or.inr rfl) (pe_callB call_uLen (by rfl) T.len (by decide +kernel) (pa_cons (pv 4) pa_nil)))
      (pss_cons (ps_if (PW.pt (pw_or (pt_cmpR (op_uEq hr.units) (pv 5) pe_int (nomark _)) (pw_or1 (pt_not (pt_val (pe_callB (cr_all rfl) (by rfl) T.all (by decide +kernel) (pa_cons (pe_lc (own := [("text", 6)]) rfl nd (pi_uni (pv 4)) (blkOk_by (N := N_check_table) (sc := defScope (top 35)) (by decide +kernel)) (fun _ _ _ _ _ => (pg_name (i := 6) nd rfl (by first | exact Or.inl rfl | exact Or.inr rfl))) (fun _ _ _ _ _ => pts_nil) (fun _ _ _ _ _ => (C8.pe_c c_lists_marks hr (by decide) (by rfl) (pa_cons (pv 6) pa_nil)))) pa_nil))))))) (pss_one (ps_raiseO x_BadWorld hr (by decide) rfl tk (by rfl) (pa_cons pe_str pa_nil))) pss_nil)
      (pss_cons (ps_if (PW.pt (pw_or (pt_cmpR (op_uNe hr.units) (pe_callB call_uLen (by rfl) T.len (by decide +kernel) (pa_cons (pv 3) pa_nil)) (pv 5) (nomark _)) (pw_or1 (pt_not (pt_val (pe_callB (cr_all rfl) (by rfl) T.all (by decide +kernel) (pa_cons (pe_lc (own := [("row", 7)]) rfl nd (pi_uni (pv 3)) (blkOk_by (N := N_check_table) (sc := defScope (top 35)) (by decide +kernel)) (fun _ _ _ _ _ => (pg_name (i := 7) nd rfl (by first | exact Or.inl rfl | exact Or.inr rfl))) (fun _ _ _ _ _ => pts_nil) (fun _ _ _ _ _ => (C8.pe_c c_are_states hr (by decide) (by rfl) (pa_cons (pv 7) (pa_cons (pe_callB call_uLen (by rfl) T.len (by decide +kernel) (pa_cons (pv 0) pa_nil)) (pa_cons (pv 5) pa_nil)))))) pa_nil))))))) (pss_one (ps_raiseO x_BadWorld hr (by decide) rfl tk (by rfl) (pa_cons pe_str pa_nil))) pss_nil)
      (pss_one (ps_if (pt_not (pt_val (C8.pe_c c_are_states hr (by decide) (by rfl) (pa_cons (pv 2) (pa_cons (pe_callB call_uLen (by rfl) T.len (by decide +kernel) (pa_cons (pv 1) pa_nil)) (pa_cons (pv 5) pa_nil)))))) (pss_one (ps_raiseO x_BadWorld hr (by decide) rfl tk (by rfl) (pa_cons pe_str pa_nil))) pss_nil)))))
end
end K39
set_option Elab.async false
set_option linter.all false
set_option maxRecDepth 100000
set_option maxHeartbeats 4000000
namespace K39
open PySem L2 PySem.Spec PyProof.Rows Uni
section
variable {P : Program} {w : World} {K : PySem.W.Frag} {mg : Str → Option Value} {base : Heap}
theorem sc_World_init : FnScope N_World_init ["self", "steps", "roots", "starts", "moves", "marked"] (defScope (inClass (top 37) 0)) := ⟨rfl, rfl, rfl, by decide +kernel, rfl, by decide +kernel, by decide +kernel⟩
theorem pf_World_init (T : Ty K mg) (Wc : WCls K) (c_least_places_of : C8.Cal P w K mg base 2 "least_places_of" (sp_least_places_of K) []) (e_check_signs : CalX P w K mg base (L2.CX P w) 4 "check_signs" (sp_check_signs K)) (e_check_table : CalX P w K mg base (L2.CX P w) 4 "check_table" (sp_check_table K)) {f : Addr} {cdv : Value} {A : Around} {outer : List Env} {s : Shared} {H : Hp} {E : XK} (hr : Room 5 (A.deeper (envOfC "World.__init__" (defScope (inClass (top 37) 0)) s.heap.objs.size f cdv))) :
    PSs (cxOf (L2.CX P w) P w K mg base N_World_init "World.__init__" (defScope (inClass (top 37) 0)) f cdv A outer s H E) (defBody (inClass (top 37) 0)) (t_World_init K E) := by
  have nd := (sc_World_init).nd
  have tk : Takes (cxOf (L2.CX P w) P w K mg base N_World_init "World.__init__" (defScope (inClass (top 37) 0)) f cdv A outer s H E) (fun cls d _ H => E cls d H) := takes_of rfl rfl rfl rfl
  exact (pss_cons (ps_expr (pe_cx e_check_signs hr (by decide) (by rfl) (fun σ => passAt tk σ) (pa_cons (pv 1) (pa_cons (pv 2) pa_nil))))
      (pss_cons (ps_expr (pe_cx e_check_table hr (by decide) (by rfl) (fun σ => passAt tk σ) (pa_cons (pv 1) (pa_cons (pv 2) (pa_cons (pv 3) (pa_cons (pv 4) (pa_cons (pv 5) pa_nil)))))))
      (pss_cons (ps_fld (pv 0) (pv 1) rfl)
      (pss_cons (ps_fld (pv 0) (pv 2) rfl)
      (pss_cons (ps_fld (pv 0) (pe_callTy (call_uTuple rfl) (by rfl) T.tuple (by decide +kernel) (pa_cons (pv 3) pa_nil)) rfl)
      (pss_cons (ps_fld (pv 0) (pe_callTy (call_uTuple rfl) (by rfl) T.tuple (by decide +kernel) (pa_cons (pe_lc (own := [("row", 6)]) rfl nd (pi_uni (pv 4)) (blkOk_by (N := N_World_init) (sc := defScope (inClass (top 37) 0)) (by decide +kernel)) (fun _ _ _ _ _ => (pg_name (i := 6) nd rfl (by first | exact Or.inl rfl | exact Or.inr rfl))) (fun _ _ _ _ _ => pts_nil) (fun _ _ _ _ _ => (pe_callTy (call_uTuple rfl) (by rfl) T.tuple (by decide +kernel) (pa_cons (pv 6) pa_nil)))) pa_nil)) rfl)
      (pss_cons (ps_fld (pv 0) (pe_callTy (call_uTuple rfl) (by rfl) T.tuple (by decide +kernel) (pa_cons (pv 5) pa_nil)) rfl)
      (pss_one (ps_fld (pv 0) (C8.pe_c c_least_places_of hr (by decide) (by rfl) (pa_cons (pe_fld (pv 0) rfl) (pa_cons (pe_fld (pv 0) rfl) (pa_cons (pe_fld (pv 0) rfl) (pa_cons (pe_fld (pv 0) rfl) pa_nil))))) rfl)))))))))
theorem sc_World_eq : FnScope N_World_eq ["self", "other"] (defScope (inClass (top 37) 1)) := ⟨rfl, rfl, rfl, by decide +kernel, rfl, by decide +kernel, by decide +kernel⟩
theorem pf_World_eq (T : Ty K mg) (Wc : WCls K) {f : Addr} {cdv : Value} {A : Around} {outer : List Env} {s : Shared} {H : Hp} {E : XK} (hr : Room 1 (A.deeper (envOfC "World.__eq__" (defScope (inClass (top 37) 1)) s.heap.objs.size f cdv))) :
    PSs (cxOf C8.CX0 P w K mg base N_World_eq "World.__eq__" (defScope (inClass (top 37) 1)) f cdv A outer s H E).nox (defBody (inClass (top 37) 1)) (t_World_eq K) := by
  have nd := (sc_World_eq).nd
  exact (pss_one (ps_ret (pe_and (pe_callB call_isi (by rfl) T.isinstance (by decide +kernel) (pa_cons (pv 1) (pa_cons (C8.pe_gc (by rfl) ⟨_, T.c_World, rfl⟩) pa_nil))) (pe_and (pe_cmpR (op_uEq hr.units) (pe_fld (pv 0) rfl) (pe_fld (pv 1) rfl) (nomark _)) (pe_and (pe_cmpR (op_uEq hr.units) (pe_fld (pv 0) rfl) (pe_fld (pv 1) rfl) (nomark _)) (pe_and (pe_cmpR (op_uEq hr.units) (pe_fld (pv 0) rfl) (pe_fld (pv 1) rfl) (nomark _)) (pe_and (pe_cmpR (op_uEq hr.units) (pe_fld (pv 0) rfl) (pe_fld (pv 1) rfl) (nomark _)) (pe_one (pe_cmpR (op_uEq hr.units) (pe_fld (pv 0) rfl) (pe_fld (pv 1) rfl) (nomark _))))))))))
theorem sc_World_call : FnScope N_World_call ["self", "atom"] (defScope (inClass (top 37) 2)) := ⟨rfl, rfl, rfl, by decide +kernel, rfl, by decide +kernel, by decide +kernel⟩
theorem pf_World_call (T : Ty K mg) (Wc : WCls K) (m_state_of : MetX P w K mg base C8.CX0 2 (He.ga K "World") "state_of" (sp_World_state_of K)) {f : Addr} {cdv : Value} {A : Around} {outer : List Env} {s : Shared} {H : Hp} {E : XK} (hr : Room 2 (A.deeper (envOfC "World.__call__" (defScope (inClass (top 37) 2)) s.heap.objs.size f cdv))) :
    PSs (cxOf C8.CX0 P w K mg base N_World_call "World.__call__" (defScope (inClass (top 37) 2)) f cdv A outer s H E).nox (defBody (inClass (top 37) 2)) (t_World_call K) := by
  have nd := (sc_World_call).nd
  exact (pss_one (ps_ret (pe_cmpR op_uIn (pe_ix ix_u (pv 1) pe_int (fun _ _ => rfl)) (pe_ix ix_u (pe_fld (pv 0) rfl) (pe_mx Wc.cls m_state_of hr (by decide) (pv 0) (pa_cons (pe_slice sl_u (pv 1) (po_some pe_int) po_none) pa_nil)) (fun _ _ => rfl)) (by with_unfolding_all rfl))))
theorem sc_World_state_behind : FnScope N_World_state_behind ["self", "state", "row"] (defScope (inClass (top 37) 3)) := ⟨rfl, rfl, rfl, by decide +kernel, rfl, by decide +kernel, by decide +kernel⟩
theorem pf_World_state_behind (T : Ty K mg) (Wc : WCls K) {f : Addr} {cdv : Value} {A : Around} {outer : List Env} {s : Shared} {H : Hp} {E : XK} (hr : Room 0 (A.deeper (envOfC "World.state_behind" (defScope (inClass (top 37) 3)) s.heap.objs.size f cdv))) :
    PSs (cxOf C8.CX0 P w K mg base N_World_state_behind "World.state_behind" (defScope (inClass (top 37) 3)) f cdv A outer s H E).nox (defBody (inClass (top 37) 3)) (t_World_state_behind K) := by
  have nd := (sc_World_state_behind).nd
  exact (pss_cons (ps_for PassesOwn.never rfl (pi_uni (pv 2)) (pg_name (i := 3) nd rfl (by first | exact Or.inl rfl | exact Or.inr rfl)) (pss_one (ps_set (i := 1) nd rfl (by first | exact Or.inl rfl | exact Or.inr rfl) (pe_ix ix_u (pe_ix ix_u (pe_fld (pv 0) rfl) (pv 1) (fun _ _ => rfl)) (pe_bm PySem.F.plainAttrs_str PySem.F.slot_str_index PySem.F.type_str_index mt_uSIndex (pe_fld (pv 0) rfl) (pa_cons (pv 3) pa_nil)) (fun _ _ => rfl)))))
      (pss_one (ps_ret (pv 1))))
theorem sc_World_state_of : FnScope N_World_state_of ["self", "place"] (defScope (inClass (top 37) 4)) := ⟨rfl, rfl, rfl, by decide +kernel, rfl, by decide +kernel, by decide +kernel⟩
theorem pf_World_state_of (T : Ty K mg) (Wc : WCls K) (m_state_behind : MetX P w K mg base C8.CX0 1 (He.ga K "World") "state_behind" (sp_World_state_behind K)) {f : Addr} {cdv : Value} {A : Around} {outer : List Env} {s : Shared} {H : Hp} {E : XK} (hr : Room 1 (A.deeper (envOfC "World.state_of" (defScope (inClass (top 37) 4)) s.heap.objs.size f cdv))) :
    PSs (cxOf C8.CX0 P w K mg base N_World_state_of "World.state_of" (defScope (inClass (top 37) 4)) f cdv A outer s H E).nox (defBody (inClass (top 37) 4)) (t_World_state_of K) := by
  have nd := (sc_World_state_of).nd
  exact (pss_one (ps_ret (pe_mx Wc.cls m_state_behind hr (by decide) (pv 0) (pa_cons (pe_ix ix_u (pe_fld (pv 0) rfl) (pe_bm PySem.F.plainAttrs_str PySem.F.slot_str_index PySem.F.type_str_index mt_uSIndex (pe_fld (pv 0) rfl) (pa_cons (pe_ix ix_u (pv 1) pe_int (fun _ _ => rfl)) pa_nil)) (fun _ _ => rfl)) (pa_cons (pe_slice sl_u (pv 1) (po_some pe_int) po_none) pa_nil)))))
end
end K39
set_option Elab.async false
set_option linter.all false
set_option maxRecDepth 100000
set_option maxHeartbeats 4000000
namespace K39
open PySem L2 PySem.Spec PyProof.Rows Uni
section
variable {P : Program} {w : World} {K : PySem.W.Frag} {mg : Str → Option Value} {base : Heap}
theorem sc_World_reached : FnScope N_World_reached ["self"] (defScope (inClass (top 37) 6)) := ⟨rfl, rfl, rfl, by decide +kernel, rfl, by decide +kernel, by decide +kernel⟩
theorem pf_World_reached (T : Ty K mg) (Wc : WCls K) {f : Addr} {cdv : Value} {A : Around} {outer : List Env} {s : Shared} {H : Hp} {E : XK} (hr : Room 0 (A.deeper (envOfC "World.reached" (defScope (inClass (top 37) 6)) s.heap.objs.size f cdv))) :
    PSs (cxOf C8.CX0 P w K mg base N_World_reached "World.reached" (defScope (inClass (top 37) 6)) f cdv A outer s H E).nox (defBody (inClass (top 37) 6)) (t_World_reached K) := by
  have nd := (sc_World_reached).nd
  exact (pss_one (ps_ret (pe_callTy (call_uTuple rfl) (by rfl) T.tuple (by decide +kernel) (pa_cons (pe_fld (pv 0) rfl) pa_nil))))
theorem sc_law_walks : FnScope N_law_walks ["world", "due", "spots", "marks"] (defScope (top 53)) := ⟨rfl, rfl, rfl, by decide +kernel, rfl, by decide +kernel, by decide +kernel⟩
theorem pf_law_walks (T : Ty K mg) (Wc : WCls K) (c_law_at : C8.Cal P w K mg base 2 "_law_at" (sp_law_at K) []) (c_law_same : C8.Cal P w K mg base 3 "_law_same" (sp_law_same K) []) (j_call : InsX P w K mg base 3 (He.ga K "World") (sp_World_call K)) (m_state_of : MetX P w K mg base C8.CX0 2 (He.ga K "World") "state_of" (sp_World_state_of K)) {f : Addr} {cdv : Value} {A : Around} {outer : List Env} {s : Shared} {H : Hp} {E : XK} (hr : Room 4 (A.deeper (envOfC "_law_walks" (defScope (top 53)) s.heap.objs.size f cdv))) :
    PSs (cxOf C8.CX0 P w K mg base N_law_walks "_law_walks" (defScope (top 53)) f cdv A outer s H E).nox (defBody (top 53)) (t_law_walks K) := by
  have nd := (sc_law_walks).nd
  exact (pss_cons (ps_for PassesOwn.never rfl (pi_uni (pv 2)) (pg_name (i := 4) nd rfl (by first | exact Or.inl rfl | exact Or.inr rfl)) (pss_cons (ps_set (i := 5) nd rfl (by first | exact Or.inl rfl | exact Or.inr rfl) (C8.pe_c c_law_at hr (by decide) (by rfl) (pa_cons (pv 1) (pa_cons (pv 4) pa_nil))))
      (pss_cons (ps_if (pt_not (pt_val (C8.pe_c c_law_same hr (by decide) (by rfl) (pa_cons (pe_mx Wc.cls m_state_of hr (by decide) (pv 0) (pa_cons (pv 4) pa_nil)) (pa_cons (pv 5) pa_nil))))) (pss_one (ps_ret pe_bl)) pss_nil)
      (pss_one (ps_for PassesOwn.never rfl (pi_uni (pv 3)) (pg_name (i := 6) nd rfl (by first | exact Or.inl rfl | exact Or.inr rfl)) (pss_one (ps_if (pt_not (pt_val (C8.pe_c c_law_same hr (by decide) (by rfl) (pa_cons (pe_ix0 j_call hr (by decide) (pv 0) (pa_cons (pe_op op_uAdd (pv 6) (pv 4)) pa_nil)) (pa_cons (pe_cmpR op_uIn (pv 6) (pe_ix ix_u (pe_ix ix_u (pv 1) pe_int (fun _ _ => rfl)) (pv 5) (fun _ _ => rfl)) (by with_unfolding_all rfl)) pa_nil))))) (pss_one (ps_ret pe_bl)) pss_nil)))))))
      (pss_one (ps_ret pe_bl)))
theorem sc_law_near : FnScope N_law_near ["due", "row"] (defScope (top 54)) := ⟨rfl, rfl, rfl, by decide +kernel, rfl, by decide +kernel, by decide +kernel⟩
theorem pf_law_near (T : Ty K mg) (Wc : WCls K) {f : Addr} {cdv : Value} {A : Around} {outer : List Env} {s : Shared} {H : Hp} {E : XK} (hr : Room 0 (A.deeper (envOfC "_law_near" (defScope (top 54)) s.heap.objs.size f cdv))) :
    PSs (cxOf C8.CX0 P w K mg base N_law_near "_law_near" (defScope (top 54)) f cdv A outer s H E).nox (defBody (top 54)) (t_law_near K) := by
  have nd := (sc_law_near).nd
  exact (pss_cons (ps_set (i := 2) nd rfl (by first | exact Or.inl rfl | exact Or.inr rfl) (pe_callB call_uLen (by rfl) T.len (by decide +kernel) (pa_cons (pe_ix ix_u (pv 0) pe_int (fun _ _ => rfl)) pa_nil)))
      (pss_cons (ps_setLc (i := 3) (own := [("sign", 15)]) rfl nd rfl rfl (sw_true rfl rfl rfl (by decide +kernel)) (pi_uni pe_str) (blkOk_by (N := N_law_near) (sc := defScope (top 54)) (by decide +kernel)) (fun _ _ _ _ _ => (pg_name (i := 15) nd rfl (by first | exact Or.inl rfl | exact Or.inr rfl))) (fun _ _ _ _ _ => (pts_one (pt_cmpR op_uNotIn (pv 15) (pe_ix ix_u (pv 0) pe_int (fun _ _ => rfl)) (by with_unfolding_all rfl)))) (fun _ _ _ _ _ => (pv 15)))
      (pss_cons (ps_setLc (i := 4) (own := [("sign", 15)]) rfl nd rfl rfl (sw_true rfl rfl rfl (by decide +kernel)) (pi_uni pe_str) (blkOk_by (N := N_law_near) (sc := defScope (top 54)) (by decide +kernel)) (fun _ _ _ _ _ => (pg_name (i := 15) nd rfl (by first | exact Or.inl rfl | exact Or.inr rfl))) (fun _ _ _ _ _ => (pts_one (pt_cmpR op_uNotIn (pv 15) (pe_ix ix_u (pv 0) pe_int (fun _ _ => rfl)) (by with_unfolding_all rfl)))) (fun _ _ _ _ _ => (pv 15)))
      (pss_cons (ps_set (i := 5) nd rfl (by first | exact Or.inl rfl | exact Or.inr rfl) (pe_op op_uMod (pe_ix ix_u (pv 1) pe_int (fun _ _ => rfl)) (pe_callB call_uLen (by rfl) T.len (by decide +kernel) (pa_cons (pe_ix ix_u (pv 0) pe_int (fun _ _ => rfl)) pa_nil))))
      (pss_cons (ps_set (i := 6) nd rfl (by first | exact Or.inl rfl | exact Or.inr rfl) (pe_uJoin pe_str (pe_callB call_uSorted (by rfl) T.sorted (by decide +kernel) (pa_cons (pe_callTy (call_uList rfl) (by rfl) T.list (by decide +kernel) (pa_cons (pe_op op_uAdd (pe_op op_uAdd (pe_slice sl_u (pe_ix ix_u (pv 0) pe_int (fun _ _ => rfl)) po_none (po_some (pv 5))) (pe_slice sl_u (pe_ix ix_u (pv 0) pe_int (fun _ _ => rfl)) (po_some (pe_op op_uAdd (pv 5) pe_int)) po_none)) (pe_ix ix_u (pv 3) (pe_op op_uMod (pe_ix ix_u (pv 1) pe_int (fun _ _ => rfl)) (pe_callB call_uLen (by rfl) T.len (by decide +kernel) (pa_cons (pv 3) pa_nil))) (fun _ _ => rfl))) pa_nil)) pa_nil))))
      (pss_cons (ps_set (i := 7) nd rfl (by first | exact Or.inl rfl | exact Or.inr rfl) (pe_lst (pa_cons (pe_tup (pa_cons (pv 6) (pa_cons (pe_ix ix_u (pv 0) pe_int (fun _ _ => rfl)) (pa_cons (pe_ix ix_u (pv 0) pe_int (fun _ _ => rfl)) (pa_cons (pe_ix ix_u (pv 0) pe_int (fun _ _ => rfl)) (pa_cons (pe_ix ix_u (pv 0) pe_int (fun _ _ => rfl)) pa_nil)))))) pa_nil)))
      (pss_cons (ps_set (i := 5) nd rfl (by first | exact Or.inl rfl | exact Or.inr rfl) (pe_op op_uMod (pe_ix ix_u (pv 1) pe_int (fun _ _ => rfl)) (pe_callB call_uLen (by rfl) T.len (by decide +kernel) (pa_cons (pe_ix ix_u (pv 0) pe_int (fun _ _ => rfl)) pa_nil))))
      (pss_cons (ps_set (i := 6) nd rfl (by first | exact Or.inl rfl | exact Or.inr rfl) (pe_uJoin pe_str (pe_callB call_uSorted (by rfl) T.sorted (by decide +kernel) (pa_cons (pe_callTy (call_uList rfl) (by rfl) T.list (by decide +kernel) (pa_cons (pe_op op_uAdd (pe_op op_uAdd (pe_slice sl_u (pe_ix ix_u (pv 0) pe_int (fun _ _ => rfl)) po_none (po_some (pv 5))) (pe_slice sl_u (pe_ix ix_u (pv 0) pe_int (fun _ _ => rfl)) (po_some (pe_op op_uAdd (pv 5) pe_int)) po_none)) (pe_ix ix_u (pv 4) (pe_op op_uMod (pe_ix ix_u (pv 1) pe_int (fun _ _ => rfl)) (pe_callB call_uLen (by rfl) T.len (by decide +kernel) (pa_cons (pv 4) pa_nil))) (fun _ _ => rfl))) pa_nil)) pa_nil))))
      (pss_cons (ps_expr (pe_bm PySem.F.plainAttrs_list PySem.F.slot_list_append PySem.F.type_list_append mt_append (pv 7) (pa_cons (pe_tup (pa_cons (pe_ix ix_u (pv 0) pe_int (fun _ _ => rfl)) (pa_cons (pv 6) (pa_cons (pe_ix ix_u (pv 0) pe_int (fun _ _ => rfl)) (pa_cons (pe_ix ix_u (pv 0) pe_int (fun _ _ => rfl)) (pa_cons (pe_ix ix_u (pv 0) pe_int (fun _ _ => rfl)) pa_nil)))))) pa_nil)))
      (pss_cons (ps_set (i := 8) nd rfl (by first | exact Or.inl rfl | exact Or.inr rfl) (pe_op op_uMod (pe_ix ix_u (pv 1) pe_int (fun _ _ => rfl)) (pv 2)))
      (C8.pss_cut (ps_if (pt_cmpR op_uGt (pv 2) pe_int (nomark _)) (pss_cons (ps_set (i := 12) nd rfl (by first | exact Or.inl rfl | exact Or.inr rfl) (pe_callTy (call_uList rfl) (by rfl) T.list (by decide +kernel) (pa_cons (pe_ix ix_u (pv 0) pe_int (fun _ _ => rfl)) pa_nil)))
      (pss_cons (ps_asg (pe_op op_uMod (pe_op op_uAdd (pe_op op_uAdd (pe_ix ix_u (pv 12) (pv 5) (fun _ _ => rfl)) pe_int) (pe_op op_uMod (pe_ix ix_u (pv 1) pe_int (fun _ _ => rfl)) (pe_op op_uSub (pv 2) pe_int))) (pv 2)) (pg_sub (pv 12) (pv 5) set_list))
      (pss_cons (ps_expr (pe_bm PySem.F.plainAttrs_list PySem.F.slot_list_append PySem.F.type_list_append mt_append (pv 7) (pa_cons (pe_tup (pa_cons (pe_ix ix_u (pv 0) pe_int (fun _ _ => rfl)) (pa_cons (pe_ix ix_u (pv 0) pe_int (fun _ _ => rfl)) (pa_cons (pe_callTy (call_uTuple rfl) (by rfl) T.tuple (by decide +kernel) (pa_cons (pv 12) pa_nil)) (pa_cons (pe_ix ix_u (pv 0) pe_int (fun _ _ => rfl)) (pa_cons (pe_ix ix_u (pv 0) pe_int (fun _ _ => rfl)) pa_nil)))))) pa_nil)))
      (pss_cons (ps_setLc (i := 13) (own := [("line", 14)]) rfl nd rfl rfl (sw_true rfl rfl rfl (by decide +kernel)) (pi_uni (pe_ix ix_u (pv 0) pe_int (fun _ _ => rfl))) (blkOk_by (N := N_law_near) (sc := defScope (top 54)) (by decide +kernel)) (fun _ _ _ _ _ => (pg_name (i := 14) nd rfl (by first | exact Or.inl rfl | exact Or.inr rfl))) (fun _ _ _ _ _ => pts_nil) (fun _ _ _ _ _ => (pe_callTy (call_uList rfl) (by rfl) T.list (by decide +kernel) (pa_cons (pv 14) pa_nil))))
      (pss_cons (ps_set (i := 14) nd rfl (by first | exact Or.inl rfl | exact Or.inr rfl) (pe_ix ix_u (pv 13) (pv 8) (fun _ _ => rfl)))
      (pss_cons (ps_set (i := 5) nd rfl (by first | exact Or.inl rfl | exact Or.inr rfl) (pe_op op_uMod (pe_ix ix_u (pv 1) pe_int (fun _ _ => rfl)) (pe_callB call_uLen (by rfl) T.len (by decide +kernel) (pa_cons (pv 14) pa_nil))))
      (pss_cons (ps_asg (pe_op op_uMod (pe_op op_uAdd (pe_op op_uAdd (pe_ix ix_u (pv 14) (pv 5) (fun _ _ => rfl)) pe_int) (pe_op op_uMod (pe_ix ix_u (pv 1) pe_int (fun _ _ => rfl)) (pe_op op_uSub (pv 2) pe_int))) (pv 2)) (pg_sub (pv 14) (pv 5) set_list))
      (pss_one (ps_expr (pe_bm PySem.F.plainAttrs_list PySem.F.slot_list_append PySem.F.type_list_append mt_append (pv 7) (pa_cons (pe_tup (pa_cons (pe_ix ix_u (pv 0) pe_int (fun _ _ => rfl)) (pa_cons (pe_ix ix_u (pv 0) pe_int (fun _ _ => rfl)) (pa_cons (pe_ix ix_u (pv 0) pe_int (fun _ _ => rfl)) (pa_cons (pe_callTy (call_uTuple rfl) (by rfl) T.tuple (by decide +kernel) (pa_cons (pe_lc (own := [("one", 16)]) rfl nd (pi_uni (pv 13)) (blkOk_by (N := N_law_near) (sc := defScope (top 54)) (by decide +kernel)) (fun _ _ _ _ _ => (pg_name (i := 16) nd rfl (by first | exact Or.inl rfl | exact Or.inr rfl))) (fun _ _ _ _ _ => pts_nil) (fun _ _ _ _ _ => (pe_callTy (call_uTuple rfl) (by rfl) T.tuple (by decide +kernel) (pa_cons (pv 16) pa_nil)))) pa_nil)) (pa_cons (pe_ix ix_u (pv 0) pe_int (fun _ _ => rfl)) pa_nil)))))) pa_nil))))))))))) pss_nil)
      (pss_cons (ps_set (i := 9) nd rfl (by first | exact Or.inl rfl | exact Or.inr rfl) (pe_ix ix_u pe_str (pe_ix ix_u (pv 1) pe_int (fun _ _ => rfl)) (fun _ _ => rfl)))
      (pss_cons (ps_setLc (i := 10) (own := [("sign", 15)]) rfl nd rfl rfl (sw_true rfl rfl rfl (by decide +kernel)) (pi_uni (pe_ix ix_u (pe_ix ix_u (pv 0) pe_int (fun _ _ => rfl)) (pv 8) (fun _ _ => rfl))) (blkOk_by (N := N_law_near) (sc := defScope (top 54)) (by decide +kernel)) (fun _ _ _ _ _ => (pg_name (i := 15) nd rfl (by first | exact Or.inl rfl | exact Or.inr rfl))) (fun _ _ _ _ _ => (pts_one (pt_cmpR (op_uNe hr.units) (pv 15) (pv 9) (nomark _)))) (fun _ _ _ _ _ => (pv 15)))
      (C8.pss_cut (ps_if (pt_cmpR op_uNotIn (pv 9) (pe_ix ix_u (pe_ix ix_u (pv 0) pe_int (fun _ _ => rfl)) (pv 8) (fun _ _ => rfl)) (by with_unfolding_all rfl)) (pss_one (ps_set (i := 10) nd rfl (by first | exact Or.inl rfl | exact Or.inr rfl) (pe_callB call_uSorted (by rfl) T.sorted (by decide +kernel) (pa_cons (pe_op op_uAdd (pv 10) (pe_lst (pa_cons (pv 9) pa_nil))) pa_nil)))) pss_nil)
      (pss_cons (ps_set (i := 11) nd rfl (by first | exact Or.inl rfl | exact Or.inr rfl) (pe_op op_uAdd (pe_op op_uAdd (pe_slice sl_u (pe_ix ix_u (pv 0) pe_int (fun _ _ => rfl)) po_none (po_some (pv 8))) (pe_tup (pa_cons (pe_uJoin pe_str (pv 10)) pa_nil))) (pe_slice sl_u (pe_ix ix_u (pv 0) pe_int (fun _ _ => rfl)) (po_some (pe_op op_uAdd (pv 8) pe_int)) po_none)))
      (pss_cons (ps_expr (pe_bm PySem.F.plainAttrs_list PySem.F.slot_list_append PySem.F.type_list_append mt_append (pv 7) (pa_cons (pe_tup (pa_cons (pe_ix ix_u (pv 0) pe_int (fun _ _ => rfl)) (pa_cons (pe_ix ix_u (pv 0) pe_int (fun _ _ => rfl)) (pa_cons (pe_ix ix_u (pv 0) pe_int (fun _ _ => rfl)) (pa_cons (pe_ix ix_u (pv 0) pe_int (fun _ _ => rfl)) (pa_cons (pv 11) pa_nil)))))) pa_nil)))
      (pss_one (ps_ret (pv 7)))))))))))))))))))
theorem sc_law_equalities : FnScope N_law_equalities ["world", "twin", "due", "near"] (defScope (top 55)) := ⟨rfl, rfl, rfl, by decide +kernel, rfl, by decide +kernel, by decide +kernel⟩
theorem pf_law_equalities (T : Ty K mg) (Wc : WCls K) (c_law_same : C8.Cal P w K mg base 3 "_law_same" (sp_law_same K) []) (c_law_told_fields : C8.Cal P w K mg base 2 "_law_told_fields" (sp_law_told_fields K) []) (c_World : MakX P w K mg base (L2.CX P w) 6 "World" (He.ga K "World") (sp_World_init K)) (q_eq : EqX P w K mg base 2 (He.ga K "World") (sp_World_eq K)) {f : Addr} {cdv : Value} {A : Around} {outer : List Env} {s : Shared} {H : Hp} {E : XK} (hr : Room 8 (A.deeper (envOfC "_law_equalities" (defScope (top 55)) s.heap.objs.size f cdv))) :
    PSs (cxOf C8.CX0 P w K mg base N_law_equalities "_law_equalities" (defScope (top 55)) f cdv A outer s H E).nox (defBody (top 55)) (t_law_equalities K) := by
  have nd := (sc_law_equalities).nd
  exact (pss_cons (ps_if (PW.pt (pw_or (pt_cmpR op_notBl (pe_cmpR (op_eqx q_eq hr (by decide)) (pv 0) (pv 1) (nomark _)) pe_bl (nomark _)) (pw_or (pt_cmpR op_notBl (pe_cmpR (op_nex q_eq hr (by decide)) (pv 0) (pv 1) (nomark _)) pe_bl (nomark _)) (pw_or1 (pt_cmpR op_notBl (pe_cmpR (op_eqx q_eq hr (by decide)) (pv 1) (pv 0) (nomark _)) pe_bl (nomark _)))))) (pss_one (ps_ret pe_bl)) pss_nil)
      (pss_cons (ps_for PassesOwn.never rfl (pi_uni (pv 3)) (pg_name (i := 4) nd rfl (by first | exact Or.inl rfl | exact Or.inr rfl)) (pss_cons (ps_set (i := 6) nd rfl (by first | exact Or.inl rfl | exact Or.inr rfl) (pe_kx c_World hr (by decide) (by rfl) (pa_cons (pe_ix ix_u (pv 4) pe_int (fun _ _ => rfl)) (pa_cons (pe_ix ix_u (pv 4) pe_int (fun _ _ => rfl)) (pa_cons (pe_ix ix_u (pv 4) pe_int (fun _ _ => rfl)) (pa_cons (pe_ix ix_u (pv 4) pe_int (fun _ _ => rfl)) (pa_cons (pe_ix ix_u (pv 4) pe_int (fun _ _ => rfl)) pa_nil)))))))
      (pss_cons (ps_if (pt_not (pt_val (C8.pe_c c_law_same hr (by decide) (by rfl) (pa_cons (C8.pe_c c_law_told_fields hr (by decide) (by rfl) (pa_cons (pv 6) pa_nil)) (pa_cons (pv 4) pa_nil))))) (pss_one (ps_ret pe_bl)) pss_nil)
      (pss_one (ps_if (PW.pt (pw_or (pt_cmpR op_notBl (pe_cmpR (op_eqx q_eq hr (by decide)) (pv 0) (pv 6) (nomark _)) pe_bl (nomark _)) (pw_or (pt_cmpR op_notBl (pe_cmpR (op_nex q_eq hr (by decide)) (pv 0) (pv 6) (nomark _)) pe_bl (nomark _)) (pw_or1 (pt_cmpR op_notBl (pe_cmpR (op_eqx q_eq hr (by decide)) (pv 6) (pv 1) (nomark _)) pe_bl (nomark _)))))) (pss_one (ps_ret pe_bl)) pss_nil)))))
      (pss_cons (ps_for PassesOwn.never rfl (pi_uni (pe_lst (pa_cons (pv 2) (pa_cons (pe_callTy (call_uList rfl) (by rfl) T.list (by decide +kernel) (pa_cons (pv 2) pa_nil)) (pa_cons (pe_ix ix_u (pv 2) pe_int (fun _ _ => rfl)) (pa_cons (pe_ix ix_u (pv 2) pe_int (fun _ _ => rfl)) (pa_cons (pe_callB call_uLen (by rfl) T.len (by decide +kernel) (pa_cons (pe_ix ix_u (pv 2) pe_int (fun _ _ => rfl)) pa_nil)) (pa_cons pe_non (pa_cons pe_bl (pa_cons pe_str pa_nil)))))))))) (pg_name (i := 5) nd rfl (by first | exact Or.inl rfl | exact Or.inr rfl)) (pss_one (ps_if (PW.pt (pw_or (pt_cmpR op_notBl (pe_cmpR (op_eqx q_eq hr (by decide)) (pv 0) (pv 5) (nomark _)) pe_bl (nomark _)) (pw_or1 (pt_cmpR op_notBl (pe_cmpR (op_nex q_eq hr (by decide)) (pv 0) (pv 5) (nomark _)) pe_bl (nomark _))))) (pss_one (ps_ret pe_bl)) pss_nil)))
      (pss_one (ps_ret pe_bl)))))
theorem sc_law_greatest : FnScope N_law_greatest ["due", "row"] (defScope (top 56)) := ⟨rfl, rfl, rfl, by decide +kernel, rfl, by decide +kernel, by decide +kernel⟩
theorem pf_law_greatest (T : Ty K mg) (Wc : WCls K) (c_law_places : C8.Cal P w K mg base 2 "_law_places" (sp_law_places K) []) (c_law_same : C8.Cal P w K mg base 3 "_law_same" (sp_law_same K) []) (c_law_told_fields : C8.Cal P w K mg base 2 "_law_told_fields" (sp_law_told_fields K) []) (c_law_walks : C8.Cal P w K mg base 5 "_law_walks" (sp_law_walks K) []) (c_World : MakX P w K mg base (L2.CX P w) 6 "World" (He.ga K "World") (sp_World_init K)) {f : Addr} {cdv : Value} {A : Around} {outer : List Env} {s : Shared} {H : Hp} {E : XK} (hr : Room 8 (A.deeper (envOfC "_law_greatest" (defScope (top 56)) s.heap.objs.size f cdv))) :
    PSs (cxOf C8.CX0 P w K mg base N_law_greatest "_law_greatest" (defScope (top 56)) f cdv A outer s H E).nox (defBody (top 56)) (t_law_greatest K) := by
  have nd := (sc_law_greatest).nd
  exact (pss_cons (ps_set (i := 2) nd rfl (by first | exact Or.inl rfl | exact Or.inr rfl) (pe_callB call_uLen (by rfl) T.len (by decide +kernel) (pa_cons (pe_ix ix_u (pv 0) pe_int (fun _ _ => rfl)) pa_nil)))
      (pss_cons (ps_set (i := 3) nd rfl (by first | exact Or.inl rfl | exact Or.inr rfl) (pe_callTy (call_uList rfl) (by rfl) T.list (by decide +kernel) (pa_cons (pe_ix ix_u (pv 0) pe_int (fun _ _ => rfl)) pa_nil)))
      (pss_cons (ps_asg (pe_op op_uSub (pv 2) pe_int) (pg_sub (pv 3) (pe_op op_uMod (pe_ix ix_u (pv 1) pe_int (fun _ _ => rfl)) (pe_callB call_uLen (by rfl) T.len (by decide +kernel) (pa_cons (pv 3) pa_nil))) set_list))
      (pss_cons (ps_setLc (i := 4) (own := [("line", 5)]) rfl nd rfl rfl (sw_true rfl rfl rfl (by decide +kernel)) (pi_uni (pe_ix ix_u (pv 0) pe_int (fun _ _ => rfl))) (blkOk_by (N := N_law_greatest) (sc := defScope (top 56)) (by decide +kernel)) (fun _ _ _ _ _ => (pg_name (i := 5) nd rfl (by first | exact Or.inl rfl | exact Or.inr rfl))) (fun _ _ _ _ _ => pts_nil) (fun _ _ _ _ _ => (pe_callTy (call_uList rfl) (by rfl) T.list (by decide +kernel) (pa_cons (pv 5) pa_nil))))
      (pss_cons (ps_set (i := 5) nd rfl (by first | exact Or.inl rfl | exact Or.inr rfl) (pe_ix ix_u (pv 4) (pe_op op_uMod (pe_ix ix_u (pv 1) pe_int (fun _ _ => rfl)) (pv 2)) (fun _ _ => rfl)))
      (pss_cons (ps_asg (pe_op op_uSub (pv 2) pe_int) (pg_sub (pv 5) (pe_op op_uMod (pe_ix ix_u (pv 1) pe_int (fun _ _ => rfl)) (pe_callB call_uLen (by rfl) T.len (by decide +kernel) (pa_cons (pv 5) pa_nil))) set_list))
      (pss_cons (ps_set (i := 6) nd rfl (by first | exact Or.inl rfl | exact Or.inr rfl) (pe_callTy (call_uList rfl) (by rfl) T.list (by decide +kernel) (pa_cons (pe_ix ix_u (pv 0) pe_int (fun _ _ => rfl)) pa_nil)))
      (pss_cons (ps_asg pe_str (pg_sub (pv 6) (pe_op op_uMod (pe_ix ix_u (pv 1) pe_int (fun _ _ => rfl)) (pv 2)) set_list))
      (pss_cons (ps_set (i := 7) nd rfl (by first | exact Or.inl rfl | exact Or.inr rfl) (pe_tup (pa_cons (pe_ix ix_u (pv 0) pe_int (fun _ _ => rfl)) (pa_cons (pe_ix ix_u (pv 0) pe_int (fun _ _ => rfl)) (pa_cons (pe_callTy (call_uTuple rfl) (by rfl) T.tuple (by decide +kernel) (pa_cons (pv 3) pa_nil)) (pa_cons (pe_callTy (call_uTuple rfl) (by rfl) T.tuple (by decide +kernel) (pa_cons (pe_lc (own := [("one", 9)]) rfl nd (pi_uni (pv 4)) (blkOk_by (N := N_law_greatest) (sc := defScope (top 56)) (by decide +kernel)) (fun _ _ _ _ _ => (pg_name (i := 9) nd rfl (by first | exact Or.inl rfl | exact Or.inr rfl))) (fun _ _ _ _ _ => pts_nil) (fun _ _ _ _ _ => (pe_callTy (call_uTuple rfl) (by rfl) T.tuple (by decide +kernel) (pa_cons (pv 9) pa_nil)))) pa_nil)) (pa_cons (pe_callTy (call_uTuple rfl) (by rfl) T.tuple (by decide +kernel) (pa_cons (pv 6) pa_nil)) pa_nil)))))))
      (pss_cons (ps_set (i := 8) nd rfl (by first | exact Or.inl rfl | exact Or.inr rfl) (pe_kx c_World hr (by decide) (by rfl) (pa_cons (pe_ix ix_u (pv 0) pe_int (fun _ _ => rfl)) (pa_cons (pe_ix ix_u (pv 0) pe_int (fun _ _ => rfl)) (pa_cons (pv 3) (pa_cons (pv 4) (pa_cons (pv 6) pa_nil)))))))
      (pss_cons (ps_if (pt_not (pt_val (C8.pe_c c_law_same hr (by decide) (by rfl) (pa_cons (C8.pe_c c_law_told_fields hr (by decide) (by rfl) (pa_cons (pv 8) pa_nil)) (pa_cons (pv 7) pa_nil))))) (pss_one (ps_ret pe_bl)) pss_nil)
      (pss_one (ps_ret (C8.pe_c c_law_walks hr (by decide) (by rfl) (pa_cons (pv 8) (pa_cons (pv 7) (pa_cons (C8.pe_c c_law_places hr (by decide) (by rfl) (pa_cons (pv 7) (pa_cons pe_int pa_nil))) (pa_cons pe_str pa_nil))))))))))))))))))
end
end K39
set_option Elab.async false
set_option linter.all false
set_option maxRecDepth 100000
set_option maxHeartbeats 4000000
namespace K39
open PySem L2 PySem.Spec PyProof.Rows Uni
section
variable {P : Program} {w : World} {K : PySem.W.Frag} {mg : Str → Option Value} {base : Heap}
theorem sc_law_classes : FnScope N_law_classes ["error"] (defScope (top 61)) := ⟨rfl, rfl, rfl, by decide +kernel, rfl, by decide +kernel, by decide +kernel⟩
theorem pf_law_classes (T : Ty K mg) (Wc : WCls K) {f : Addr} {cdv : Value} {A : Around} {outer : List Env} {s : Shared} {H : Hp} {E : XK} {a D dd : Addr} {oe : Obj} (hT : ExcC K D) (hz : Zc (.ref D) (some dd) oe) (hf : ∃ vs, oe.data = .fields vs) (hr : L2H.RoomH 0 (A.deeper (envOfC "_law_classes" (defScope (top 61)) s.heap.objs.size f cdv))) :
    PSs (L2H.cxH C8.CX0 P w K mg base N_law_classes "_law_classes" (defScope (top 61)) f cdv A outer s H E (a, oe)) (defBody (top 61)) (t_law_classes K a D dd) := by
  have nd := (sc_law_classes).nd
  exact (pss_cons (ps_set (i := 1) nd rfl (by first | exact Or.inl rfl | exact Or.inr rfl) (pe_lst (pa_cons (pe_callB (call_isX hT List.mem_cons_self hz hf) (by rfl) T.isinstance (by decide +kernel) (pa_cons (pv 0) (pa_cons (C8.pe_gc (by rfl) ⟨_, T.c_BadClaim, rfl⟩) pa_nil))) (pa_cons (pe_callB (call_isX hT List.mem_cons_self hz hf) (by rfl) T.isinstance (by decide +kernel) (pa_cons (pv 0) (pa_cons (C8.pe_gc (by rfl) ⟨_, T.c_BadSteps, rfl⟩) pa_nil))) (pa_cons (pe_callB (call_isX hT List.mem_cons_self hz hf) (by rfl) T.isinstance (by decide +kernel) (pa_cons (pv 0) (pa_cons (C8.pe_gc (by rfl) ⟨_, T.c_BadRoots, rfl⟩) pa_nil))) (pa_cons (pe_callB (call_isX hT List.mem_cons_self hz hf) (by rfl) T.isinstance (by decide +kernel) (pa_cons (pv 0) (pa_cons (C8.pe_gc (by rfl) ⟨_, T.c_BadName, rfl⟩) pa_nil))) pa_nil))))))
      (pss_cons (ps_set (i := 1) nd rfl (by first | exact Or.inl rfl | exact Or.inr rfl) (pe_op op_uAdd (pv 1) (pe_lst (pa_cons (pe_callB (call_isX hT List.mem_cons_self hz hf) (by rfl) T.isinstance (by decide +kernel) (pa_cons (pv 0) (pa_cons (C8.pe_gc (by rfl) ⟨_, T.c_NameTaken, rfl⟩) pa_nil))) (pa_cons (pe_callB (call_isX hT List.mem_cons_self hz hf) (by rfl) T.isinstance (by decide +kernel) (pa_cons (pv 0) (pa_cons (C8.pe_gc (by rfl) ⟨_, T.c_NoName, rfl⟩) pa_nil))) (pa_cons (pe_callB (call_isX hT List.mem_cons_self hz hf) (by rfl) T.isinstance (by decide +kernel) (pa_cons (pv 0) (pa_cons (C8.pe_gc (by rfl) ⟨_, T.c_MixedClaim, rfl⟩) pa_nil))) pa_nil))))))
      (pss_cons (ps_set (i := 1) nd rfl (by first | exact Or.inl rfl | exact Or.inr rfl) (pe_op op_uAdd (pv 1) (pe_lst (pa_cons (pe_callB (call_isX hT List.mem_cons_self hz hf) (by rfl) T.isinstance (by decide +kernel) (pa_cons (pv 0) (pa_cons (C8.pe_gc (by rfl) ⟨_, T.c_StrangeSign, rfl⟩) pa_nil))) (pa_cons (pe_callB (call_isX hT List.mem_cons_self hz hf) (by rfl) T.isinstance (by decide +kernel) (pa_cons (pv 0) (pa_cons (C8.pe_gc (by rfl) ⟨_, T.c_BadThing, rfl⟩) pa_nil))) (pa_cons (pe_callB (call_isX hT List.mem_cons_self hz hf) (by rfl) T.isinstance (by decide +kernel) (pa_cons (pv 0) (pa_cons (C8.pe_gc (by rfl) ⟨_, T.c_BadGrammar, rfl⟩) pa_nil))) pa_nil))))))
      (pss_cons (ps_set (i := 1) nd rfl (by first | exact Or.inl rfl | exact Or.inr rfl) (pe_op op_uAdd (pv 1) (pe_lst (pa_cons (pe_callB (call_isX hT List.mem_cons_self hz hf) (by rfl) T.isinstance (by decide +kernel) (pa_cons (pv 0) (pa_cons (C8.pe_gc (by rfl) ⟨_, T.c_ListCanBeTrue, rfl⟩) pa_nil))) (pa_cons (pe_callB (call_isX hT List.mem_cons_self hz hf) (by rfl) T.isinstance (by decide +kernel) (pa_cons (pv 0) (pa_cons (C8.pe_gc (by rfl) ⟨_, T.c_BadWorld, rfl⟩) pa_nil))) (pa_cons (pe_callB (call_isX hT List.mem_cons_self hz hf) (by rfl) T.isinstance (by decide +kernel) (pa_cons (pv 0) (pa_cons (C8.pe_gc (by rfl) ⟨_, T.c_WorldsDiffer, rfl⟩) pa_nil))) pa_nil))))))
      (pss_cons (ps_set (i := 1) nd rfl (by first | exact Or.inl rfl | exact Or.inr rfl) (pe_op op_uAdd (pv 1) (pe_lst (pa_cons (pe_callB (call_isX hT List.mem_cons_self hz hf) (by rfl) T.isinstance (by decide +kernel) (pa_cons (pv 0) (pa_cons (C8.pe_gc (by rfl) ⟨_, T.c_TooWide, rfl⟩) pa_nil))) (pa_cons (pe_callB (call_isX hT List.mem_cons_self hz hf) (by rfl) T.isinstance (by decide +kernel) (pa_cons (pv 0) (pa_cons (C8.pe_gc (by rfl) ⟨_, T.c_NoProof, rfl⟩) pa_nil))) (pa_cons (pe_callB (call_isX hT List.mem_cons_self hz hf) (by rfl) T.isinstance (by decide +kernel) (pa_cons (pv 0) (pa_cons (C8.pe_gc (by rfl) ⟨_, T.c_TooLong, rfl⟩) pa_nil))) pa_nil))))))
      (pss_cons (ps_set (i := 1) nd rfl (by first | exact Or.inl rfl | exact Or.inr rfl) (pe_op op_uAdd (pv 1) (pe_lst (pa_cons (pe_callB (call_isX hT List.mem_cons_self hz hf) (by rfl) T.isinstance (by decide +kernel) (pa_cons (pv 0) (pa_cons (C8.pe_gc (by rfl) ⟨_, T.c_BadSpelling, rfl⟩) pa_nil))) (pa_cons (pe_callB (call_isX hT List.mem_cons_self hz hf) (by rfl) T.isinstance (by decide +kernel) (pa_cons (pv 0) (pa_cons (C8.pe_gc (by rfl) ⟨_, T.c_BadText, rfl⟩) pa_nil))) (pa_cons (pe_callB (call_isX hT List.mem_cons_self hz hf) (by rfl) T.isinstance (by decide +kernel) (pa_cons (pv 0) (pa_cons (C8.pe_gc (by rfl) ⟨_, T.c_BadLine, rfl⟩) pa_nil))) pa_nil))))))
      (pss_cons (ps_set (i := 1) nd rfl (by first | exact Or.inl rfl | exact Or.inr rfl) (pe_op op_uAdd (pv 1) (pe_lst (pa_cons (pe_callB (call_isX hT List.mem_cons_self hz hf) (by rfl) T.isinstance (by decide +kernel) (pa_cons (pv 0) (pa_cons (C8.pe_gc (by rfl) ⟨_, T.c_NothingToUndo, rfl⟩) pa_nil))) (pa_cons (pe_callB (call_isX hT List.mem_cons_self hz hf) (by rfl) T.isinstance (by decide +kernel) (pa_cons (pv 0) (pa_cons (C8.pe_gc (by rfl) ⟨_, T.c_NothingToRedo, rfl⟩) pa_nil))) (pa_cons (pe_callB (call_isX hT List.mem_cons_self hz hf) (by rfl) T.isinstance (by decide +kernel) (pa_cons (pv 0) (pa_cons (C8.pe_gc (by rfl) ⟨_, T.c_TooManyRoots, rfl⟩) pa_nil))) pa_nil))))))
      (pss_one (ps_ret (pe_and (pe_cmpR (op_uEq (Uni.L2H.RoomH.units hr)) (pe_bm PySem.F.plainAttrs_list PySem.F.slot_list_count PySem.F.type_list_count mt_uCount (pv 1) (pa_cons pe_bl pa_nil)) pe_int (nomark _)) (pe_and (pe_callB (call_isX hT List.mem_cons_self hz hf) (by rfl) T.isinstance (by decide +kernel) (pa_cons (pv 0) (pa_cons (C8.pe_gc (by rfl) ⟨_, T.c_LemmaError, rfl⟩) pa_nil))) (pe_one (pe_callB (call_isX hT List.mem_cons_self hz hf) (by rfl) T.isinstance (by decide +kernel) (pa_cons (pv 0) (pa_cons (pe_bltn (v := .ty "ValueError") (by rfl) T.ValueError (by decide +kernel) rfl) pa_nil)))))))))))))))
theorem sc_law_refusal : FnScope N_law_refusal ["arguments"] (defScope (top 62)) := ⟨rfl, rfl, rfl, by decide +kernel, rfl, by decide +kernel, by decide +kernel⟩
theorem pf_law_refusal (T : Ty K mg) (Wc : WCls K) (c_World : MakX P w K mg base (L2.CX P w) 6 "World" (He.ga K "World") (sp_World_init K)) (f_BadRoots : XfC K (He.ga K "BadRoots") ∧ PySem.W.findIn K (.ref (He.ga K "BadRoots")) "roots" = some none) (f_BadSteps : XfC K (He.ga K "BadSteps") ∧ PySem.W.findIn K (.ref (He.ga K "BadSteps")) "steps" = some none) (f_BadWorld : XfC K (He.ga K "BadWorld") ∧ PySem.W.findIn K (.ref (He.ga K "BadWorld")) "part" = some none) (z_law_classes : CalP P w K mg base 1 "_law_classes" (spx_law_classes K)) {f : Addr} {cdv : Value} {A : Around} {outer : List Env} {s : Shared} {H : Hp} {E : XK} (hr : Room 8 (A.deeper (envOfC "_law_refusal" (defScope (top 62)) s.heap.objs.size f cdv))) :
    PSs (cxOf C8.CX0 P w K mg base N_law_refusal "_law_refusal" (defScope (top 62)) f cdv A outer s H E).nox (defBody (top 62)) (t_law_refusal K) := by
  have nd := (sc_law_refusal).nd
  exact (pss_cons (ps_try_cls (tb := fun W => (tDrop (tMakeS (He.ga K "World") (sp_World_init K) (WE W) (tCons (tOp (uIx K) (tVar 0) (tC (.int 0))) (tCons (tOp (uIx K) (tVar 0) (tC (.int 1))) (tCons (tOp (uIx K) (tVar 0) (tC (.int 4))) (tCons (tOp (uIx K) (tVar 0) (tC (.int 3))) (tCons (tOp (uIx K) (tVar 0) (tC (.int 2))) tNil)))))))) rfl rfl nd takes0 (fun W pn xe tk _ => pss_one (ps_expr (pe_kxs c_World hr (by decide) (by rfl) (fun σ => passAt tk σ) (pa_cons (pe_ix ix_u (pv 0) pe_int (fun _ _ => rfl)) (pa_cons (pe_ix ix_u (pv 0) pe_int (fun _ _ => rfl)) (pa_cons (pe_ix ix_u (pv 0) pe_int (fun _ _ => rfl)) (pa_cons (pe_ix ix_u (pv 0) pe_int (fun _ _ => rfl)) (pa_cons (pe_ix ix_u (pv 0) pe_int (fun _ _ => rfl)) pa_nil)))))))) (ClsOk.named (i := 1) ⟨by rfl, by decide, Or.inl T.c_BadSteps⟩ rfl rfl (fun a oe cls d pn hz hf => (pss_one (ps_ret (pe_tup (pa_cons pe_str (pa_cons (pe_xf f_BadSteps.1 f_BadSteps.2 hz hf (pv 1)) (pa_cons (pe_cp (j := 8) z_law_classes List.mem_cons_self hz hf ⟨hr.dp, hr.un⟩ (by decide) (by rfl) (pa_cons (pv 1) pa_nil)) pa_nil))))))) (ClsOk.named (i := 1) ⟨by rfl, by decide, Or.inl T.c_BadRoots⟩ rfl rfl (fun a oe cls d pn hz hf => (pss_one (ps_ret (pe_tup (pa_cons pe_str (pa_cons (pe_xf f_BadRoots.1 f_BadRoots.2 hz hf (pv 1)) (pa_cons (pe_cp (j := 8) z_law_classes List.mem_cons_self hz hf ⟨hr.dp, hr.un⟩ (by decide) (by rfl) (pa_cons (pv 1) pa_nil)) pa_nil))))))) (ClsOk.named (i := 1) ⟨by rfl, by decide, Or.inl T.c_BadWorld⟩ rfl rfl (fun a oe cls d pn hz hf => (pss_one (ps_ret (pe_tup (pa_cons pe_str (pa_cons (pe_xf f_BadWorld.1 f_BadWorld.2 hz hf (pv 1)) (pa_cons (pe_cp (j := 8) z_law_classes List.mem_cons_self hz hf ⟨hr.dp, hr.un⟩ (by decide) (by rfl) (pa_cons (pv 1) pa_nil)) pa_nil))))))) (ClsOk.plain ⟨by rfl, by decide, Or.inl T.c_LemmaError⟩ (fun a oe cls d pn hz hf => (pss_one (ps_ret (pe_tup (pa_cons pe_str (pa_cons pe_str (pa_cons pe_bl pa_nil))))))) ClsOk.nil)))))
      (pss_one (ps_ret (pe_tup (pa_cons pe_str (pa_cons pe_str (pa_cons pe_bl pa_nil)))))))
theorem sc_law_refusals : FnScope N_law_refusals ["due", "row"] (defScope (top 63)) := ⟨rfl, rfl, rfl, by decide +kernel, rfl, by decide +kernel, by decide +kernel⟩
theorem pf_law_refusals (T : Ty K mg) (Wc : WCls K) (c_law_refusal : C8.Cal P w K mg base 9 "_law_refusal" (sp_law_refusal K) []) (c_law_same : C8.Cal P w K mg base 3 "_law_same" (sp_law_same K) []) (c_law_wrong_marked : C8.Cal P w K mg base 3 "_law_wrong_marked" (sp_law_wrong_marked K) []) (c_law_wrong_moves : C8.Cal P w K mg base 2 "_law_wrong_moves" (sp_law_wrong_moves K) []) (c_law_wrong_starts : C8.Cal P w K mg base 2 "_law_wrong_starts" (sp_law_wrong_starts K) []) (c_law_wrong_string : C8.Cal P w K mg base 2 "_law_wrong_string" (sp_law_wrong_string K) []) {f : Addr} {cdv : Value} {A : Around} {outer : List Env} {s : Shared} {H : Hp} {E : XK} (hr : Room 10 (A.deeper (envOfC "_law_refusals" (defScope (top 63)) s.heap.objs.size f cdv))) :
    PSs (cxOf C8.CX0 P w K mg base N_law_refusals "_law_refusals" (defScope (top 63)) f cdv A outer s H E).nox (defBody (top 63)) (t_law_refusals K) := by
  have nd := (sc_law_refusals).nd
  exact (pss_cons (ps_set (i := 2) nd rfl (by first | exact Or.inl rfl | exact Or.inr rfl) (pe_callB call_uLen (by rfl) T.len (by decide +kernel) (pa_cons (pe_ix ix_u (pv 0) pe_int (fun _ _ => rfl)) pa_nil)))
      (pss_cons (ps_set (i := 3) nd rfl (by first | exact Or.inl rfl | exact Or.inr rfl) (pe_lst (pa_cons (pe_ix ix_u (pv 0) pe_int (fun _ _ => rfl)) (pa_cons (pe_ix ix_u (pv 0) pe_int (fun _ _ => rfl)) (pa_cons (pe_ix ix_u (pv 0) pe_int (fun _ _ => rfl)) (pa_cons (pe_ix ix_u (pv 0) pe_int (fun _ _ => rfl)) (pa_cons (pe_ix ix_u (pv 0) pe_int (fun _ _ => rfl)) pa_nil)))))))
      (pss_cons (ps_set (i := 4) nd rfl (by first | exact Or.inl rfl | exact Or.inr rfl) (C8.pe_c c_law_wrong_string hr (by decide) (by rfl) (pa_cons (pe_ix ix_u (pv 0) pe_int (fun _ _ => rfl)) (pa_cons pe_str (pa_cons pe_str (pa_cons (pe_ix ix_u (pv 1) pe_int (fun _ _ => rfl)) (pa_cons (pe_ix ix_u (pv 1) pe_int (fun _ _ => rfl)) pa_nil)))))))
      (pss_cons (ps_set (i := 5) nd rfl (by first | exact Or.inl rfl | exact Or.inr rfl) (C8.pe_c c_law_wrong_string hr (by decide) (by rfl) (pa_cons (pe_ix ix_u (pv 0) pe_int (fun _ _ => rfl)) (pa_cons pe_str (pa_cons pe_str (pa_cons (pe_ix ix_u (pv 1) pe_int (fun _ _ => rfl)) (pa_cons (pe_ix ix_u (pv 1) pe_int (fun _ _ => rfl)) pa_nil)))))))
      (pss_cons (ps_set (i := 6) nd rfl (by first | exact Or.inl rfl | exact Or.inr rfl) (C8.pe_c c_law_wrong_marked hr (by decide) (by rfl) (pa_cons (pe_ix ix_u (pv 0) pe_int (fun _ _ => rfl)) (pa_cons (pe_ix ix_u (pv 1) pe_int (fun _ _ => rfl)) (pa_cons (pe_ix ix_u (pv 1) pe_int (fun _ _ => rfl)) (pa_cons (pe_ix ix_u (pv 1) pe_int (fun _ _ => rfl)) pa_nil))))))
      (pss_cons (ps_set (i := 7) nd rfl (by first | exact Or.inl rfl | exact Or.inr rfl) (C8.pe_c c_law_wrong_moves hr (by decide) (by rfl) (pa_cons (pe_ix ix_u (pv 0) pe_int (fun _ _ => rfl)) (pa_cons (pe_ix ix_u (pv 1) pe_int (fun _ _ => rfl)) (pa_cons (pe_ix ix_u (pv 1) pe_int (fun _ _ => rfl)) (pa_cons (pe_ix ix_u (pv 1) pe_int (fun _ _ => rfl)) pa_nil))))))
      (pss_cons (ps_set (i := 8) nd rfl (by first | exact Or.inl rfl | exact Or.inr rfl) (pe_lst (pa_cons (pv 4) (pa_cons (pv 5) (pa_cons (pv 6) (pa_cons (pv 7) (pa_cons (C8.pe_c c_law_wrong_starts hr (by decide) (by rfl) (pa_cons (pe_ix ix_u (pv 0) pe_int (fun _ _ => rfl)) (pa_cons (pv 2) (pa_cons (pe_ix ix_u (pv 1) pe_int (fun _ _ => rfl)) (pa_cons (pe_ix ix_u (pv 1) pe_int (fun _ _ => rfl)) pa_nil))))) pa_nil)))))))
      (pss_cons (ps_set (i := 9) nd rfl (by first | exact Or.inl rfl | exact Or.inr rfl) (pe_lst (pa_cons (pe_tup (pa_cons pe_str (pa_cons (pv 4) (pa_cons pe_bl pa_nil)))) (pa_cons (pe_tup (pa_cons pe_str (pa_cons (pv 5) (pa_cons pe_bl pa_nil)))) (pa_cons (pe_tup (pa_cons pe_str (pa_cons pe_str (pa_cons pe_bl pa_nil)))) pa_nil)))))
      (pss_cons (ps_set (i := 9) nd rfl (by first | exact Or.inl rfl | exact Or.inr rfl) (pe_op op_uAdd (pv 9) (pe_lst (pa_cons (pe_tup (pa_cons pe_str (pa_cons pe_str (pa_cons pe_bl pa_nil)))) (pa_cons (pe_tup (pa_cons pe_str (pa_cons pe_str (pa_cons pe_bl pa_nil)))) pa_nil)))))
      (pss_cons (ps_for PassesOwn.never rfl (pi_range1 (by rfl) T.range (pa_cons pe_int pa_nil)) (pg_name (i := 10) nd rfl (by first | exact Or.inl rfl | exact Or.inr rfl)) (pss_one (ps_for PassesOwn.never rfl (pi_range2 (by rfl) T.range (pa_cons (pv 10) (pa_cons pe_int pa_nil))) (pg_name (i := 11) nd rfl (by first | exact Or.inl rfl | exact Or.inr rfl)) (pss_cons (ps_set (i := 12) nd rfl (by first | exact Or.inl rfl | exact Or.inr rfl) (pe_callTy (call_uList rfl) (by rfl) T.list (by decide +kernel) (pa_cons (pv 3) pa_nil)))
      (pss_cons (ps_asg (pe_ix ix_u (pv 8) (pv 10) (fun _ _ => rfl)) (pg_sub (pv 12) (pv 10) set_list))
      (pss_cons (ps_asg (pe_ix ix_u (pv 8) (pv 11) (fun _ _ => rfl)) (pg_sub (pv 12) (pv 11) set_list))
      (pss_one (ps_if (pt_not (pt_val (C8.pe_c c_law_same hr (by decide) (by rfl) (pa_cons (C8.pe_c c_law_refusal hr (by decide) (by rfl) (pa_cons (pv 12) pa_nil)) (pa_cons (pe_ix ix_u (pv 9) (pv 10) (fun _ _ => rfl)) pa_nil))))) (pss_one (ps_ret pe_bl)) pss_nil))))))))
      (pss_one (ps_ret (C8.pe_c c_law_same hr (by decide) (by rfl) (pa_cons (C8.pe_c c_law_refusal hr (by decide) (by rfl) (pa_cons (pv 8) pa_nil)) (pa_cons (pe_ix ix_u (pv 9) pe_int (fun _ _ => rfl)) pa_nil)))))))))))))))
theorem sc_law : FnScope N_law ["script"] (defScope (top 64)) := ⟨rfl, rfl, rfl, by decide +kernel, rfl, by decide +kernel, by decide +kernel⟩
theorem pf_law (T : Ty K mg) (Wc : WCls K) (c_law_at : C8.Cal P w K mg base 2 "_law_at" (sp_law_at K) []) (c_law_cell : C8.Cal P w K mg base 2 "_law_cell" (sp_law_cell K) []) (c_law_digits : C8.Cal P w K mg base 2 "_law_digits" (sp_law_digits K) []) (c_law_equalities : C8.Cal P w K mg base 9 "_law_equalities" (sp_law_equalities K) []) (c_law_fields : C8.Cal P w K mg base 2 "_law_fields" (sp_law_fields K) []) (c_law_greatest : C8.Cal P w K mg base 9 "_law_greatest" (sp_law_greatest K) []) (c_law_hand : C8.Cal P w K mg base 2 "_law_hand" (sp_law_hand K) []) (c_law_large : C8.Cal P w K mg base 3 "_law_large" (sp_law_large K) []) (c_law_near : C8.Cal P w K mg base 1 "_law_near" (sp_law_near K) []) (c_law_places : C8.Cal P w K mg base 2 "_law_places" (sp_law_places K) []) (c_law_reached : C8.Cal P w K mg base 2 "_law_reached" (sp_law_reached K) []) (c_law_refusals : C8.Cal P w K mg base 11 "_law_refusals" (sp_law_refusals K) []) (c_law_same : C8.Cal P w K mg base 3 "_law_same" (sp_law_same K) []) (c_law_signs : C8.Cal P w K mg base 3 "_law_signs" (sp_law_signs K) []) (c_law_table : C8.Cal P w K mg base 3 "_law_table" (sp_law_table K) []) (c_law_told_fields : C8.Cal P w K mg base 2 "_law_told_fields" (sp_law_told_fields K) []) (c_law_walks : C8.Cal P w K mg base 5 "_law_walks" (sp_law_walks K) []) (c_World : MakX P w K mg base (L2.CX P w) 6 "World" (He.ga K "World") (sp_World_init K)) (jk_call : InsK P w K mg base 3 (He.ga K "World") ["atom"] (sp_World_call K)) (k_World : MakK P w K mg base 6 "World" (He.ga K "World") ["steps", "roots", "starts", "moves", "marked"] (sp_World_init K)) (mk_state_of : MetK P w K mg base 2 (He.ga K "World") "state_of" ["place"] (sp_World_state_of K)) (p_reached : ProX P w K mg base 1 (He.ga K "World") "reached" (sp_World_reached K)) (q_eq : EqX P w K mg base 2 (He.ga K "World") (sp_World_eq K)) {f : Addr} {cdv : Value} {A : Around} {outer : List Env} {s : Shared} {H : Hp} {E : XK} (hr : Room 12 (A.deeper (envOfC "law" (defScope (top 64)) s.heap.objs.size f cdv))) :
    PSs (cxOf C8.CX0 P w K mg base N_law "law" (defScope (top 64)) f cdv A outer s H E).nox (defBody (top 64)) (t_law K) := by
  have nd := (sc_law).nd
  exact (pss_cons (ps_set (i := 1) nd rfl (by first | exact Or.inl rfl | exact Or.inr rfl) (C8.pe_c c_law_signs hr (by decide) (by rfl) (pa_cons (C8.pe_c c_law_cell hr (by decide) (by rfl) (pa_cons (pv 0) (pa_cons pe_int pa_nil))) pa_nil)))
      (pss_cons (ps_set (i := 2) nd rfl (by first | exact Or.inl rfl | exact Or.inr rfl) (C8.pe_c c_law_table hr (by decide) (by rfl) (pa_cons (pv 1) (pa_cons (C8.pe_c c_law_cell hr (by decide) (by rfl) (pa_cons (pv 0) (pa_cons pe_int pa_nil))) (pa_cons (C8.pe_c c_law_cell hr (by decide) (by rfl) (pa_cons (pv 0) (pa_cons pe_int pa_nil))) pa_nil)))))
      (pss_cons (ps_set (i := 3) nd rfl (by first | exact Or.inl rfl | exact Or.inr rfl) (C8.pe_c c_law_digits hr (by decide) (by rfl) (pa_cons (C8.pe_c c_law_cell hr (by decide) (by rfl) (pa_cons (pv 0) (pa_cons pe_int pa_nil))) (pa_cons (pe_lst (pa_cons pe_int (pa_cons pe_int (pa_cons pe_int (pa_cons pe_int (pa_cons pe_int (pa_cons pe_int (pa_cons pe_int (pa_cons pe_int pa_nil))))))))) pa_nil))))
      (pss_cons (ps_set (i := 4) nd rfl (by first | exact Or.inl rfl | exact Or.inr rfl) pe_int)
      (C8.pss_cut (ps_if (pt_cmpR (op_uEq hr.units) (pe_ix ix_u (pv 3) pe_int (fun _ _ => rfl)) pe_int (nomark _)) (pss_cons (ps_set (i := 2) nd rfl (by first | exact Or.inl rfl | exact Or.inr rfl) (C8.pe_c c_law_large hr (by decide) (by rfl) (pa_cons (pv 1) (pa_cons (C8.pe_c c_law_cell hr (by decide) (by rfl) (pa_cons (pv 0) (pa_cons pe_int pa_nil))) pa_nil))))
      (pss_one (ps_set (i := 4) nd rfl (by first | exact Or.inl rfl | exact Or.inr rfl) pe_int))) pss_nil)
      (pss_cons (ps_set (i := 5) nd rfl (by first | exact Or.inl rfl | exact Or.inr rfl) (C8.pe_c c_law_fields hr (by decide) (by rfl) (pa_cons (pv 1) (pa_cons (pv 2) pa_nil))))
      (pss_cons (ps_set (i := 6) nd rfl (by first | exact Or.inl rfl | exact Or.inr rfl) (C8.pe_c c_law_hand hr (by decide) (by rfl) (pa_cons (pv 2) (pa_cons pe_int pa_nil))))
      (pss_cons (ps_set (i := 7) nd rfl (by first | exact Or.inl rfl | exact Or.inr rfl) (pe_kx c_World hr (by decide) (by rfl) (pa_cons (pe_ix ix_u (pv 1) pe_int (fun _ _ => rfl)) (pa_cons (pe_ix ix_u (pv 1) pe_int (fun _ _ => rfl)) (pa_cons (pe_ix ix_u (pv 6) pe_int (fun _ _ => rfl)) (pa_cons (pe_ix ix_u (pv 6) pe_int (fun _ _ => rfl)) (pa_cons (pe_ix ix_u (pv 6) pe_int (fun _ _ => rfl)) pa_nil)))))))
      (pss_cons (ps_if (PW.pt (pw_or (pt_cmpR (op_uNe hr.units) (pv 6) (C8.pe_c c_law_hand hr (by decide) (by rfl) (pa_cons (pv 2) (pa_cons pe_int pa_nil))) (nomark _)) (pw_or1 (pt_not (pt_val (pe_callB call_isi (by rfl) T.isinstance (by decide +kernel) (pa_cons (pv 7) (pa_cons (C8.pe_gc (by rfl) ⟨_, T.c_World, rfl⟩) pa_nil)))))))) (pss_one (ps_ret pe_bl)) pss_nil)
      (pss_cons (ps_expr (pe_bm PySem.F.plainAttrs_list PySem.F.slot_list_append PySem.F.type_list_append mt_append (pe_ix ix_u (pv 6) pe_int (fun _ _ => rfl)) (pa_cons pe_int pa_nil)))
      (pss_cons (ps_expr (pe_bm PySem.F.plainAttrs_list PySem.F.slot_list_append PySem.F.type_list_append mt_append (pe_ix ix_u (pe_ix ix_u (pv 6) pe_int (fun _ _ => rfl)) pe_int (fun _ _ => rfl)) (pa_cons pe_int pa_nil)))
      (pss_cons (ps_expr (pe_bm PySem.F.plainAttrs_list PySem.F.slot_list_append PySem.F.type_list_append mt_append (pe_ix ix_u (pv 6) pe_int (fun _ _ => rfl)) (pa_cons (pe_lst (pa_cons pe_int pa_nil)) pa_nil)))
      (pss_cons (ps_asg pe_str (pg_sub (pe_ix ix_u (pv 6) pe_int (fun _ _ => rfl)) pe_int set_list))
      (pss_cons (ps_if (pt_not (pt_val (C8.pe_c c_law_same hr (by decide) (by rfl) (pa_cons (C8.pe_c c_law_told_fields hr (by decide) (by rfl) (pa_cons (pv 7) pa_nil)) (pa_cons (pv 5) pa_nil))))) (pss_one (ps_ret pe_bl)) pss_nil)
      (pss_cons (ps_set (i := 8) nd rfl (by first | exact Or.inl rfl | exact Or.inr rfl) (pe_uJoin pe_str (pe_lc (own := [("k", 16)]) rfl nd (pi_range1 (by rfl) T.range (pa_cons (pe_ix ix_u (pv 3) pe_int (fun _ _ => rfl)) pa_nil)) (blkOk_by (N := N_law) (sc := defScope (top 64)) (by decide +kernel)) (fun _ _ _ _ _ => (pg_name (i := 16) nd rfl (by first | exact Or.inl rfl | exact Or.inr rfl))) (fun _ _ _ _ _ => pts_nil) (fun _ _ _ _ _ => (pe_ix ix_u (pe_ix ix_u (pv 5) pe_int (fun _ _ => rfl)) (pe_op op_uMod (pe_op op_uAdd (pe_op op_uAdd (pe_ix ix_u (pv 3) pe_int (fun _ _ => rfl)) (pe_op op_uMul (pv 16) (pe_ix ix_u (pv 3) pe_int (fun _ _ => rfl)))) (pe_op op_uMul (pe_op op_uFdv (pv 16) pe_int) (pe_ix ix_u (pv 3) pe_int (fun _ _ => rfl)))) (pe_callB call_uLen (by rfl) T.len (by decide +kernel) (pa_cons (pe_ix ix_u (pv 5) pe_int (fun _ _ => rfl)) pa_nil))) (fun _ _ => rfl))))))
      (pss_cons (ps_set (i := 9) nd rfl (by first | exact Or.inl rfl | exact Or.inr rfl) (pe_op op_uAdd (C8.pe_c c_law_places hr (by decide) (by rfl) (pa_cons (pv 5) (pa_cons (pv 4) pa_nil))) (pe_lst (pa_cons (pe_op op_uAdd (pe_ix ix_u (pe_ix ix_u (pv 5) pe_int (fun _ _ => rfl)) (pe_op op_uMod (pe_ix ix_u (pv 3) pe_int (fun _ _ => rfl)) (pe_callB call_uLen (by rfl) T.len (by decide +kernel) (pa_cons (pe_ix ix_u (pv 5) pe_int (fun _ _ => rfl)) pa_nil))) (fun _ _ => rfl)) (pv 8)) pa_nil))))
      (pss_cons (ps_set (i := 10) nd rfl (by first | exact Or.inl rfl | exact Or.inr rfl) (pe_op op_uAdd (pe_ix ix_u (pv 1) pe_int (fun _ _ => rfl)) (pe_ix ix_u pe_str (pe_ix ix_u (pv 3) pe_int (fun _ _ => rfl)) (fun _ _ => rfl))))
      (pss_cons (ps_if (PW.pt (pw_or (pt_not (pt_val (C8.pe_c c_law_walks hr (by decide) (by rfl) (pa_cons (pv 7) (pa_cons (pv 5) (pa_cons (pv 9) (pa_cons (pv 10) pa_nil))))))) (pw_or1 (pt_not (pt_val (C8.pe_c c_law_same hr (by decide) (by rfl) (pa_cons (pe_px Wc.cls p_reached hr (by decide) (pv 7)) (pa_cons (C8.pe_c c_law_reached hr (by decide) (by rfl) (pa_cons (pv 5) pa_nil)) pa_nil)))))))) (pss_one (ps_ret pe_bl)) pss_nil)
      (pss_cons (ps_set (i := 11) nd rfl (by first | exact Or.inl rfl | exact Or.inr rfl) (C8.pe_c c_law_hand hr (by decide) (by rfl) (pa_cons (pv 2) (pa_cons (pe_ix ix_u (pv 3) pe_int (fun _ _ => rfl)) pa_nil))))
      (pss_cons (ps_set (i := 12) nd rfl (by first | exact Or.inl rfl | exact Or.inr rfl) (pe_kk (ks := ["steps", "roots", "starts", "moves", "marked"]) k_World hr (by decide) (by rfl) (pk_cons (pe_ix ix_u (pv 1) pe_int (fun _ _ => rfl)) (pk_cons (pe_ix ix_u (pv 1) pe_int (fun _ _ => rfl)) (pk_cons (pe_ix ix_u (pv 11) pe_int (fun _ _ => rfl)) (pk_cons (pe_ix ix_u (pv 11) pe_int (fun _ _ => rfl)) (pk_cons (pe_ix ix_u (pv 11) pe_int (fun _ _ => rfl)) pk_nil)))))))
      (pss_cons (ps_if (PW.pt (pw_or (pt_cmpR (op_uNe hr.units) (pv 11) (C8.pe_c c_law_hand hr (by decide) (by rfl) (pa_cons (pv 2) (pa_cons (pe_ix ix_u (pv 3) pe_int (fun _ _ => rfl)) pa_nil))) (nomark _)) (pw_or1 (pt_not (pt_val (C8.pe_c c_law_same hr (by decide) (by rfl) (pa_cons (C8.pe_c c_law_told_fields hr (by decide) (by rfl) (pa_cons (pv 12) pa_nil)) (pa_cons (pv 5) pa_nil)))))))) (pss_one (ps_ret pe_bl)) pss_nil)
      (pss_cons (ps_if (pt_not (pt_val (C8.pe_c c_law_same hr (by decide) (by rfl) (pa_cons (Uni.pe_mk (ks := ["place"]) Wc.cls mk_state_of hr (by decide) (pv 12) (pk_cons (pe_ix ix_u (pv 9) (pe_un un_uNeg pe_int) (fun _ _ => rfl)) pk_nil)) (pa_cons (C8.pe_c c_law_at hr (by decide) (by rfl) (pa_cons (pv 5) (pa_cons (pe_ix ix_u (pv 9) (pe_un un_uNeg pe_int) (fun _ _ => rfl)) pa_nil))) pa_nil))))) (pss_one (ps_ret pe_bl)) pss_nil)
      (pss_cons (ps_if (pt_not (pt_val (C8.pe_c c_law_same hr (by decide) (by rfl) (pa_cons (pe_ik (ks := ["atom"]) jk_call hr (by decide) (pv 12) (pk_cons (pe_op op_uAdd (pe_ix ix_u (pv 10) pe_int (fun _ _ => rfl)) (pe_ix ix_u (pv 9) (pe_un un_uNeg pe_int) (fun _ _ => rfl))) pk_nil)) (pa_cons (pe_cmpR op_uIn (pe_ix ix_u (pv 10) pe_int (fun _ _ => rfl)) (pe_ix ix_u (pe_ix ix_u (pv 5) pe_int (fun _ _ => rfl)) (C8.pe_c c_law_at hr (by decide) (by rfl) (pa_cons (pv 5) (pa_cons (pe_ix ix_u (pv 9) (pe_un un_uNeg pe_int) (fun _ _ => rfl)) pa_nil))) (fun _ _ => rfl)) (by with_unfolding_all rfl)) pa_nil))))) (pss_one (ps_ret pe_bl)) pss_nil)
      (pss_cons (ps_set (i := 13) nd rfl (by first | exact Or.inl rfl | exact Or.inr rfl) (C8.pe_c c_law_digits hr (by decide) (by rfl) (pa_cons (C8.pe_c c_law_cell hr (by decide) (by rfl) (pa_cons (pv 0) (pa_cons pe_int pa_nil))) (pa_cons (pe_lst (pa_cons pe_int (pa_cons pe_int (pa_cons pe_int (pa_cons pe_int pa_nil))))) pa_nil))))
      (pss_cons (ps_if (PW.pt (pw_or (pt_not (pt_val (C8.pe_c c_law_equalities hr (by decide) (by rfl) (pa_cons (pv 7) (pa_cons (pv 12) (pa_cons (pv 5) (pa_cons (C8.pe_c c_law_near hr (by decide) (by rfl) (pa_cons (pv 5) (pa_cons (pv 13) pa_nil))) pa_nil))))))) (pw_or1 (pt_not (pt_val (C8.pe_c c_law_greatest hr (by decide) (by rfl) (pa_cons (pv 5) (pa_cons (pv 13) pa_nil)))))))) (pss_one (ps_ret pe_bl)) pss_nil)
      (pss_cons (ps_set (i := 14) nd rfl (by first | exact Or.inl rfl | exact Or.inr rfl) (C8.pe_c c_law_digits hr (by decide) (by rfl) (pa_cons (C8.pe_c c_law_cell hr (by decide) (by rfl) (pa_cons (pv 0) (pa_cons pe_int pa_nil))) (pa_cons (pe_lst (pa_cons pe_int (pa_cons pe_int (pa_cons pe_int (pa_cons pe_int (pa_cons pe_int (pa_cons pe_int (pa_cons pe_int (pa_cons pe_int (pa_cons pe_int (pa_cons pe_int (pa_cons pe_int pa_nil)))))))))))) pa_nil))))
      (pss_cons (ps_if (pt_not (pt_val (C8.pe_c c_law_refusals hr (by decide) (by rfl) (pa_cons (pv 5) (pa_cons (pv 14) pa_nil))))) (pss_one (ps_ret pe_bl)) pss_nil)
      (pss_cons (ps_set (i := 15) nd rfl (by first | exact Or.inl rfl | exact Or.inr rfl) (pe_kx c_World hr (by decide) (by rfl) (pa_cons (pe_ix ix_u (pv 1) pe_int (fun _ _ => rfl)) (pa_cons (pe_ix ix_u (pv 1) pe_int (fun _ _ => rfl)) (pa_cons (pe_ix ix_u (pv 11) pe_int (fun _ _ => rfl)) (pa_cons (pe_ix ix_u (pv 11) pe_int (fun _ _ => rfl)) (pa_cons (pe_ix ix_u (pv 11) pe_int (fun _ _ => rfl)) pa_nil)))))))
      (pss_cons (ps_if (PW.pt (pw_or (pt_cmpR op_notBl (pe_cmpR (op_eqx q_eq hr (by decide)) (pv 15) (pv 7) (nomark _)) pe_bl (nomark _)) (pw_or1 (pt_not (pt_val (C8.pe_c c_law_same hr (by decide) (by rfl) (pa_cons (pe_px Wc.cls p_reached hr (by decide) (pv 15)) (pa_cons (C8.pe_c c_law_reached hr (by decide) (by rfl) (pa_cons (pv 5) pa_nil)) pa_nil)))))))) (pss_one (ps_ret pe_bl)) pss_nil)
      (pss_one (ps_ret (pe_and (C8.pe_c c_law_same hr (by decide) (by rfl) (pa_cons (C8.pe_c c_law_told_fields hr (by decide) (by rfl) (pa_cons (pv 7) pa_nil)) (pa_cons (pv 5) pa_nil))) (pe_one (C8.pe_c c_law_same hr (by decide) (by rfl) (pa_cons (pe_px Wc.cls p_reached hr (by decide) (pv 7)) (pa_cons (C8.pe_c c_law_reached hr (by decide) (by rfl) (pa_cons (pv 5) pa_nil)) pa_nil))))))))))))))))))))))))))))))))))))
end
end K39
set_option Elab.async false
set_option linter.all false
set_option maxRecDepth 100000
set_option maxHeartbeats 2000000
namespace K39
open PySem L2 Uni
local macro_rules | `(tactic| walk_at "rd") => `(tactic| (repeat (first
  | (with_reducible refine u_var (by with_unfolding_all exact rfl) ?_) | (with_reducible refine u_seq ?_) | (with_reducible refine u_asg ?_) | (with_reducible refine u_gname ?_) | (with_reducible refine u_drop ?_) | (with_reducible refine u_ret ?_) | (with_reducible refine u_retN ?_) | (with_reducible refine u_next ?_) | (with_reducible refine u_break ?_) | (with_reducible refine u_cont ?_) | (with_reducible refine u_if ?_) | (with_reducible refine u_c ?_) | (with_reducible refine u_op ?_) | (with_reducible refine u_un ?_) | (with_reducible refine u_test ?_) | (with_reducible refine u_tb ?_) | (with_reducible refine u_bl ?_) | (with_reducible refine u_not ?_) | (with_reducible refine u_and ?_) | (with_reducible refine u_or ?_) | (with_reducible refine u_chain ?_) | (with_reducible refine u_ifE ?_) | (with_reducible refine u_andV ?_) | (with_reducible refine u_orV ?_) | (with_reducible refine u_notV ?_) | (with_reducible refine u_blE ?_) | (with_reducible refine u_nil ?_) | (with_reducible refine u_cons ?_) | (with_reducible refine u_tup ?_) | (with_reducible refine u_lst ?_) | (with_reducible refine u_cb ?_) | (with_reducible refine u_call ?_) | (with_reducible refine u_bm ?_) | (with_reducible refine u_bm0 ?_) | (with_reducible refine u_m1 ?_) | (with_reducible refine u_sl ?_) | (with_reducible refine u_nopart ?_) | (with_reducible refine u_part ?_) | (with_reducible refine u_int ?_) | (with_reducible refine u_yes ?_) | (with_reducible refine u_add ?_) | (with_reducible refine u_sub ?_) | (with_reducible refine u_neg ?_) | (with_reducible refine u_le ?_) | (with_reducible refine u_gt ?_) | (with_reducible refine u_ge ?_) | (with_reducible refine u_lt ?_) | (with_reducible refine u_ltS ?_) | (with_reducible refine u_eqI ?_) | (with_reducible refine u_neI ?_) | (with_reducible refine u_eqS ?_) | (with_reducible refine u_neS ?_) | (with_reducible refine u_eqB ?_) | (with_reducible refine u_neB ?_) | (with_reducible refine u_inS ?_) | (with_reducible refine u_ninS ?_) | (with_reducible refine u_intI ?_) | (with_reducible refine u_intB ?_) | (with_reducible refine u_for ?_) | (with_reducible refine u_iR1 ?_) | (with_reducible refine u_iR2 ?_)
  | (with_reducible refine iteT ?_) | (with_reducible refine iteF ?_) | (with_reducible refine iteNT ?_) | (with_reducible refine iteNF ?_))))
theorem pu_law_whole (K : PySem.W.Frag) (vs : List V) (H : Hp) (Q : VK) (E : XK) (h : sp_law_whole K vs H Q E) : t_law_whole K { nx := fun _ H' => Q .non H', rt := Q } (start N_law_whole vs) H := by
  obtain ⟨n, rfl, k⟩ := h
  unfold t_law_whole
  walk_at "rd"
  refine u_isi (.base (.int n)) (b := true) (by decide +kernel) ?_
  walk_at "rd"
  walk_at "rd"
  refine u_isi (.base (.int n)) (b := false) (by decide +kernel) ?_
  walk_at "rd"
  exact k
theorem pu_lists_signs (K : PySem.W.Frag) (vs : List V) (H : Hp) (Q : VK) (E : XK) (h : sp_lists_signs K vs H Q E) : t_lists_signs K { nx := fun _ H' => Q .non H', rt := Q } (start N_lists_signs vs) H := by
  obtain ⟨t, al, rfl, hz, k⟩ := h
  unfold t_lists_signs
  walk_at "rd"
  refine u_lenS (szOf (by omega)) ?_
  walk_at "rd"
  have fl : ∀ q : ¬ (1 ≤ t.length ∧ t.length ≤ 3 ∧ (∀ c ∈ t, c ∈ al) ∧ t.Pairwise (· < ·)), Q (.bl false) H := fun q => by
    have e : okSigns t al = false := decide_eq_false q
    rw [← e]; exact k
  refine iteD (fun c1 => ?_) (fun c1 => ?_)
  · walk_at "rd"
    refine iteND (fun c2 => ?_) (fun c2 => ?_)
    · walk_at "rd"
      exact fl fun q => c2 (by omega)
    · walk_at "rd"
      refine u_lenS (szOf (by omega)) ?_
      walk_at "rd"
      refine ⟨_, rfl, by omega, by omega, ?_⟩
      refine for_r0 (n := t.length) (by omega) (fun i σ' H' => ∃ v, σ' = [some (sv t), some (sv al), v] ∧ H' = H ∧ Up t al i) ⟨none, rfl, rfl, fun j c hj => absurd hj (Nat.not_lt_zero _)⟩ ?_ ?_
      · rintro i σ H hi ⟨v, rfl, rfl, up⟩
        have hc := List.getElem?_eq_getElem hi
        generalize t[i] = c at hc
        have fl2 : (c ∈ al → ∃ a, 0 < i ∧ t[i - 1]? = some a ∧ ¬ a < c) → Q (.bl false) H := fun q => fl fun ⟨_, _, q1, q2⟩ => by
          obtain ⟨a, h0, ha, n⟩ := q (q1 c (List.mem_of_getElem? hc))
          exact n (adj_of_pw q2 ha (by rw [Nat.sub_add_cancel h0]; exact hc))
        walk_at "rd"
        refine u_ixS (szOf (by omega)) (at_i rfl hc) ?_
        walk_at "rd"
        refine iteND (fun m => ?_) (fun m => ?_)
        · walk_at "rd"
          exact fl2 fun q => absurd q m
        · walk_at "rd"
          refine iteD (fun h0 => ?_) (fun h0 => ?_)
          · have h0 : 0 < i := by omega
            have ha : t[i - 1]? = some t[i - 1] := List.getElem?_eq_getElem (by omega)
            generalize t[i - 1] = a at ha
            walk_at "rd"
            refine u_ixS (szOf (by omega)) (at_i (n := i - 1) (by omega) ha) ?_
            walk_at "rd"
            refine u_ixS (szOf (by omega)) (at_i rfl hc) ?_
            walk_at "rd"
            refine iteND (fun l => ?_) (fun l => ?_)
            · walk_at "rd"
              exact fl2 fun _ => ⟨a, h0, ha, fun q => l (lt1.mpr q)⟩
            · walk_at "rd"
              refine ⟨_, rfl, rfl, fun j c' hj hc' => ?_⟩
              rcases Nat.lt_succ_iff_lt_or_eq.mp hj with hj | rfl
              · exact up j c' hj hc'
              · rw [hc] at hc'
                cases hc'
                exact ⟨m, fun b hb _ => by rw [ha] at hb; cases hb; exact lt1.mp l⟩
          · walk_at "rd"
            refine ⟨_, rfl, rfl, fun j c' hj hc' => ?_⟩
            rcases Nat.lt_succ_iff_lt_or_eq.mp hj with hj | rfl
            · exact up j c' hj hc'
            · rw [hc] at hc'
              cases hc'
              exact ⟨m, fun b hb q => absurd q (by omega)⟩
      · rintro σ H ⟨v, rfl, rfl, up⟩
        walk_at "rd"
        have e : okSigns t al = true := decide_eq_true ⟨by omega, by omega, up_end up⟩
        rw [← e]; exact k
  · walk_at "rd"
    exact fl fun q => c1 (by omega)
end K39
set_option Elab.async false
set_option linter.all false
set_option maxRecDepth 100000
set_option maxHeartbeats 2000000
namespace K39
open PySem L2 Uni
local macro_rules | `(tactic| walk_at "rd") => `(tactic| (repeat (first
  | (with_reducible refine u_var (by with_unfolding_all exact rfl) ?_) | (with_reducible refine u_seq ?_) | (with_reducible refine u_asg ?_) | (with_reducible refine u_gname ?_) | (with_reducible refine u_drop ?_) | (with_reducible refine u_ret ?_) | (with_reducible refine u_retN ?_) | (with_reducible refine u_next ?_) | (with_reducible refine u_break ?_) | (with_reducible refine u_cont ?_) | (with_reducible refine u_if ?_) | (with_reducible refine u_c ?_) | (with_reducible refine u_op ?_) | (with_reducible refine u_un ?_) | (with_reducible refine u_test ?_) | (with_reducible refine u_tb ?_) | (with_reducible refine u_bl ?_) | (with_reducible refine u_not ?_) | (with_reducible refine u_and ?_) | (with_reducible refine u_or ?_) | (with_reducible refine u_chain ?_) | (with_reducible refine u_ifE ?_) | (with_reducible refine u_andV ?_) | (with_reducible refine u_orV ?_) | (with_reducible refine u_notV ?_) | (with_reducible refine u_blE ?_) | (with_reducible refine u_nil ?_) | (with_reducible refine u_cons ?_) | (with_reducible refine u_tup ?_) | (with_reducible refine u_lst ?_) | (with_reducible refine u_cb ?_) | (with_reducible refine u_call ?_) | (with_reducible refine u_bm ?_) | (with_reducible refine u_bm0 ?_) | (with_reducible refine u_m1 ?_) | (with_reducible refine u_sl ?_) | (with_reducible refine u_nopart ?_) | (with_reducible refine u_part ?_) | (with_reducible refine u_int ?_) | (with_reducible refine u_yes ?_) | (with_reducible refine u_add ?_) | (with_reducible refine u_sub ?_) | (with_reducible refine u_neg ?_) | (with_reducible refine u_le ?_) | (with_reducible refine u_gt ?_) | (with_reducible refine u_ge ?_) | (with_reducible refine u_lt ?_) | (with_reducible refine u_ltS ?_) | (with_reducible refine u_eqI ?_) | (with_reducible refine u_neI ?_) | (with_reducible refine u_eqS ?_) | (with_reducible refine u_neS ?_) | (with_reducible refine u_eqB ?_) | (with_reducible refine u_neB ?_) | (with_reducible refine u_inS ?_) | (with_reducible refine u_ninS ?_) | (with_reducible refine u_intI ?_) | (with_reducible refine u_intB ?_) | (with_reducible refine u_for ?_) | (with_reducible refine u_iR1 ?_) | (with_reducible refine u_iR2 ?_) | (with_reducible refine u_uni ?_) | (with_reducible refine u_lc ?_)
  | (with_reducible refine iteT ?_) | (with_reducible refine iteF ?_) | (with_reducible refine iteNT ?_) | (with_reducible refine iteNF ?_))))
theorem pu_lists_marks (K : PySem.W.Frag) (vs : List V) (H : Hp) (Q : VK) (E : XK) (h : sp_lists_marks K vs H Q E) : t_lists_marks K { nx := fun _ H' => Q .non H', rt := Q } (start N_lists_marks vs) H := by
  obtain ⟨t, rfl, hz, k⟩ := h
  unfold t_lists_marks
  have fl : ∀ q : ¬ ((∀ c ∈ t, c ∈ MARKSL) ∧ t.Pairwise (· < ·)), Q (.bl false) H := fun q => by
    have e : okMarks t = false := decide_eq_false q
    rw [← e]; exact k
  walk_at "rd"
  refine u_lenS (szOf (by omega)) ?_
  walk_at "rd"
  refine ⟨_, rfl, by omega, by omega, ?_⟩
  refine for_r0 (n := t.length) (by omega) (fun i σ' H' => ∃ v, σ' = [some (sv t), v] ∧ H' = H ∧ Up t MARKSL i) ⟨none, rfl, rfl, fun j c hj => absurd hj (Nat.not_lt_zero _)⟩ ?_ ?_
  · rintro i σ H hi ⟨v, rfl, rfl, up⟩
    have hc := List.getElem?_eq_getElem hi
    generalize t[i] = c at hc
    have fl2 : (c ∈ MARKSL → ∃ a, 0 < i ∧ t[i - 1]? = some a ∧ ¬ a < c) → Q (.bl false) H := fun q => fl fun ⟨q1, q2⟩ => by
      obtain ⟨a, h0, ha, n⟩ := q (q1 c (List.mem_of_getElem? hc))
      exact n (adj_of_pw q2 ha (by rw [Nat.sub_add_cancel h0]; exact hc))
    walk_at "rd"
    refine u_ixS (szOf (by omega)) (at_i rfl hc) ?_
    walk_at "rd"
    rw [lit_marks]
    walk_at "rd"
    refine iteND (fun m => ?_) (fun m => ?_)
    · walk_at "rd"
      exact fl2 fun q => absurd q m
    · walk_at "rd"
      refine iteD (fun h0 => ?_) (fun h0 => ?_)
      · have h0 : 0 < i := by omega
        have ha : t[i - 1]? = some t[i - 1] := List.getElem?_eq_getElem (by omega)
        generalize t[i - 1] = a at ha
        walk_at "rd"
        refine u_ixS (szOf (by omega)) (at_i (n := i - 1) (by omega) ha) ?_
        walk_at "rd"
        refine u_ixS (szOf (by omega)) (at_i rfl hc) ?_
        walk_at "rd"
        refine iteND (fun l => ?_) (fun l => ?_)
        · walk_at "rd"
          exact fl2 fun _ => ⟨a, h0, ha, fun q => l (lt1.mpr q)⟩
        · walk_at "rd"
          refine ⟨_, rfl, rfl, fun j c' hj hc' => ?_⟩
          rcases Nat.lt_succ_iff_lt_or_eq.mp hj with hj | rfl
          · exact up j c' hj hc'
          · rw [hc] at hc'
            cases hc'
            exact ⟨m, fun b hb _ => by rw [ha] at hb; cases hb; exact lt1.mp l⟩
      · walk_at "rd"
        refine ⟨_, rfl, rfl, fun j c' hj hc' => ?_⟩
        rcases Nat.lt_succ_iff_lt_or_eq.mp hj with hj | rfl
        · exact up j c' hj hc'
        · rw [hc] at hc'
          cases hc'
          exact ⟨m, fun b hb q => absurd q (by omega)⟩
  · rintro σ H ⟨v, rfl, rfl, up⟩
    walk_at "rd"
    have e : okMarks t = true := decide_eq_true (up_end up)
    rw [← e]; exact k
theorem pu_are_states (K : PySem.W.Frag) (vs : List V) (H : Hp) (Q : VK) (E : XK) (h : sp_are_states K vs H Q E) : t_are_states K { nx := fun _ H' => Q .non H', rt := Q } (start N_are_states vs) H := by
  obtain ⟨kk, v, ns, c, m, rfl, ⟨a, rfl, ha⟩, k⟩ := h
  unfold t_are_states
  have fl : ∀ q : ¬ (ns.length = c ∧ ∀ n ∈ ns, 0 ≤ n ∧ n < (m : Int)), Q (.bl false) H := fun q => by
    have e : okStates ns c m = false := decide_eq_false q
    rw [← e]; exact k
  walk_at "rd"
  refine u_lenK (Kd.of ha) ?_
  rw [List.length_map]
  walk_at "rd"
  refine iteND (fun q => ?_) (fun q => ?_)
  · walk_at "rd"
    exact fl fun z => q (by omega)
  · walk_at "rd"
    refine u_uF (Kd.of ha) ?_
    refine for_k (xs := ns.map V.int) (fun i σ' H' => ∃ v, σ' = [some (.ref a), some (.int c), some (.int m), v] ∧ H' = H ∧ ∀ j n, j < i → ns[j]? = some n → 0 ≤ n ∧ n < (m : Int)) ⟨none, rfl, rfl, fun j n hj => absurd hj (Nat.not_lt_zero _)⟩ ?_ ?_ ?_
    · rintro i σ H' _ ⟨v, _, rfl, _⟩
      exact Kd.of ha
    · rintro i x σ H' hx ⟨v, rfl, rfl, ok⟩
      rw [List.getElem?_map] at hx
      obtain ⟨n, hn, rfl⟩ := Option.map_eq_some_iff.mp hx
      have next : 0 ≤ n ∧ n < (m : Int) → ∀ (j : Nat) (n' : Int), j < i + 1 → ns[j]? = some n' → 0 ≤ n' ∧ n' < (m : Int) := fun hn2 j n' hj h' => by
        rcases Nat.lt_succ_iff_lt_or_eq.mp hj with hj | rfl
        · exact ok j n' hj h'
        · rw [hn] at h'; cases h'; exact hn2
      walk_at "rd"
      refine iteD (fun h0 => ?_) (fun h0 => ?_)
      · walk_at "rd"
        refine iteND (fun h1 => ?_) (fun h1 => ?_)
        · walk_at "rd"
          exact fl fun ⟨_, z⟩ => h1 (z n (List.mem_of_getElem? hn)).2
        · walk_at "rd"
          exact ⟨_, rfl, rfl, next ⟨h0, h1⟩⟩
      · walk_at "rd"
        exact fl fun ⟨_, z⟩ => h0 (z n (List.mem_of_getElem? hn)).1
    · rintro σ H' ⟨v, rfl, rfl, ok⟩
      walk_at "rd"
      have e : okStates ns c m = true := decide_eq_true ⟨by omega, fun n hn => by
        obtain ⟨j, hj, e⟩ := List.mem_iff_getElem.mp hn
        exact ok j n (by rw [List.length_map]; exact hj) (by rw [List.getElem?_eq_getElem hj, e])⟩
      rw [← e]; exact k
theorem pu_law_cell (K : PySem.W.Frag) (vs : List V) (H : Hp) (Q : VK) (E : XK) (h : sp_law_cell K vs H Q E) : t_law_cell K { nx := fun _ H' => Q .non H', rt := Q } (start N_law_cell vs) H := by
  obtain ⟨a, ns, n, rfl, ha, hl, hn, k⟩ := h
  unfold t_law_cell
  walk_at "rd"
  refine u_lenL ha ?_
  rw [List.length_map]
  walk_at "rd"
  refine iteD (fun h0 => ?_) (fun h0 => ?_)
  · have hi : n < ns.length := by omega
    have hx : (ns.map V.int)[n]? = some (.int ns[n]) := by rw [List.getElem?_map, List.getElem?_eq_getElem hi] <;> rfl
    walk_at "rd"
    refine u_ixL ha (at_i rfl hx) ?_
    walk_at "rd"
    exact k _
  · walk_at "rd"
    refine u_uF (k := false) ha ?_
    refine for_k (k := false) (xs := ns.map V.int) (fun i σ' H' => ∃ z v, σ' = [some (.ref a), some (.int n), some (.int z), v] ∧ H' = H ∧ 0 ≤ z ∧ z < 1000003) ⟨17, none, rfl, rfl, by decide, by decide⟩ ?_ ?_ ?_
    · rintro i σ H' _ ⟨z, v, _, rfl, _⟩
      exact ha
    · rintro i x σ H' hx ⟨z, v, rfl, rfl, z0, z1⟩
      rw [List.getElem?_map] at hx
      obtain ⟨m, hm, rfl⟩ := Option.map_eq_some_iff.mp hx
      walk_at "rd"
      refine u_mul (Or.inl ⟨by omega, by omega⟩) ?_
      walk_at "rd"
      refine u_mod (by decide) ?_
      walk_at "rd"
      refine u_mod (by decide) ?_
      walk_at "rd"
      exact ⟨_, _, rfl, rfl, Int.emod_nonneg _ (by decide), Int.emod_lt_of_pos _ (by decide)⟩
    · rintro σ H' ⟨z, v, rfl, rfl, z0, z1⟩
      walk_at "rd"
      refine u_mul (Or.inl ⟨by omega, by omega⟩) ?_
      walk_at "rd"
      refine u_mul (Or.inr ⟨by omega, by omega⟩) ?_
      walk_at "rd"
      refine u_mod (by decide) ?_
      walk_at "rd"
      exact k _

end K39
set_option Elab.async false
set_option linter.all false
set_option maxRecDepth 100000
set_option maxHeartbeats 2000000
namespace K39
open PySem L2 Uni
local macro_rules | `(tactic| walk_at "rd") => `(tactic| (repeat (first
  | (with_reducible refine u_var (by with_unfolding_all exact rfl) ?_) | (with_reducible refine u_seq ?_) | (with_reducible refine u_asg ?_) | (with_reducible refine u_gname ?_) | (with_reducible refine u_drop ?_) | (with_reducible refine u_ret ?_) | (with_reducible refine u_retN ?_) | (with_reducible refine u_next ?_) | (with_reducible refine u_break ?_) | (with_reducible refine u_cont ?_) | (with_reducible refine u_if ?_) | (with_reducible refine u_c ?_) | (with_reducible refine u_op ?_) | (with_reducible refine u_un ?_) | (with_reducible refine u_test ?_) | (with_reducible refine u_tb ?_) | (with_reducible refine u_bl ?_) | (with_reducible refine u_not ?_) | (with_reducible refine u_and ?_) | (with_reducible refine u_or ?_) | (with_reducible refine u_chain ?_) | (with_reducible refine u_ifE ?_) | (with_reducible refine u_andV ?_) | (with_reducible refine u_orV ?_) | (with_reducible refine u_notV ?_) | (with_reducible refine u_blE ?_) | (with_reducible refine u_nil ?_) | (with_reducible refine u_cons ?_) | (with_reducible refine u_tup ?_) | (with_reducible refine u_lst ?_) | (with_reducible refine u_cb ?_) | (with_reducible refine u_call ?_) | (with_reducible refine u_bm ?_) | (with_reducible refine u_bm0 ?_) | (with_reducible refine u_m1 ?_) | (with_reducible refine u_sl ?_) | (with_reducible refine u_nopart ?_) | (with_reducible refine u_part ?_) | (with_reducible refine u_int ?_) | (with_reducible refine u_yes ?_) | (with_reducible refine u_add ?_) | (with_reducible refine u_sub ?_) | (with_reducible refine u_neg ?_) | (with_reducible refine u_le ?_) | (with_reducible refine u_gt ?_) | (with_reducible refine u_ge ?_) | (with_reducible refine u_lt ?_) | (with_reducible refine u_ltS ?_) | (with_reducible refine u_eqI ?_) | (with_reducible refine u_neI ?_) | (with_reducible refine u_eqS ?_) | (with_reducible refine u_neS ?_) | (with_reducible refine u_eqB ?_) | (with_reducible refine u_neB ?_) | (with_reducible refine u_inS ?_) | (with_reducible refine u_ninS ?_) | (with_reducible refine u_intI ?_) | (with_reducible refine u_intB ?_) | (with_reducible refine u_for ?_) | (with_reducible refine u_iR1 ?_) | (with_reducible refine u_iR2 ?_) | (with_reducible refine u_uni ?_) | (with_reducible refine u_lc ?_)
  | (with_reducible refine iteT ?_) | (with_reducible refine iteF ?_) | (with_reducible refine iteNT ?_) | (with_reducible refine iteNF ?_))))
theorem getm {α β : Type} {l : List α} {f : α → β} {i : Nat} {y : β} (h : (l.map f)[i]? = some y) : ∃ x, l[i]? = some x ∧ y = f x := by
  rw [List.getElem?_map] at h
  obtain ⟨n, hn, e⟩ := Option.map_eq_some_iff.mp h
  exact ⟨n, hn, e.symm⟩
theorem mapm {α β : Type} {l : List α} {f : α → β} {i : Nat} {x : α} (h : l[i]? = some x) : (l.map f)[i]? = some (f x) := by
  rw [List.getElem?_map, h] <;> rfl
/-- digits so far -/
def Digs (zs ds : List Int) : Prop := ∀ (i : Nat) d z, ds[i]? = some d → zs[i]? = some z → 0 ≤ d ∧ d < z
theorem Digs.snoc {zs ds : List Int} {d z : Int} (h : Digs zs ds) (hz : zs[ds.length]? = some z) (h0 : 0 ≤ d) (h1 : d < z) : Digs zs (ds ++ [d]) := fun i d' z' hd hz' => by
  by_cases hi : i < ds.length
  · rw [List.getElem?_append_left hi] at hd
    exact h i d' z' hd hz'
  · rw [List.getElem?_append_right (by omega)] at hd
    have e : i - ds.length = 0 := by
      have := (List.getElem?_eq_some_iff.mp hd).1
      simp at this; omega
    rw [e] at hd
    cases hd
    have ei : i = ds.length := by omega
    rw [ei, hz] at hz'
    cases hz'
    exact ⟨h0, h1⟩
theorem pu_law_digits (K : PySem.W.Frag) (vs : List V) (H : Hp) (Q : VK) (E : XK) (h : sp_law_digits K vs H Q E) : t_law_digits K { nx := fun _ H' => Q .non H', rt := Q } (start N_law_digits vs) H := by
  obtain ⟨n, p, zs, rfl, hp, hl, hz, k⟩ := h
  unfold t_law_digits
  walk_at "rd"
  refine ⟨Nat.zero_le _, fun q hq => ?_⟩
  have e0 : Ex H (upd H q (.lst [])) := Ex.new hq
  walk_at "rd"
  refine u_pow ⟨by decide, by decide, by decide⟩ ?_
  walk_at "rd"
  refine iteD (fun h0 => ?_) (fun h0 => ?_)
  · walk_at "rd"
    refine u_pow ⟨by decide, by decide, by decide⟩ ?_
    walk_at "rd"
    refine u_uF (k := false) (sql (e0 p _ hp)) ?_
    refine for_k (k := false) (xs := zs.map V.int) (fun i σ' H' => ∃ (r : Int) (v : Option V) (ds : List Int), σ' = [some (.int n), some (.ref p), some (.ref q), some (.int r), none, none, v, none] ∧ Ex H H' ∧ H' q = some (.lst (ds.map V.int)) ∧ ds.length = i ∧ Digs zs ds)
      ⟨_, none, [], rfl, e0, upd_same, rfl, fun i d z hd => by simp at hd⟩ (fun i σ' H' _ ⟨_, _, _, _, e, _⟩ => sql (e p _ hp)) ?_ ?_
    · rintro i x σ' H' hx ⟨r, v, ds, rfl, e, hds, el, dg⟩
      obtain ⟨z, hzi, rfl⟩ := getm hx
      have zz := hz z (List.mem_of_getElem? hzi)
      have il := (List.getElem?_eq_some_iff.mp hzi).1
      walk_at "rd"
      refine u_tyL (sql hds) ?_
      walk_at "rd"
      refine u_mod zz.1 ?_
      walk_at "rd"
      refine u_append hds (by rw [List.length_map]; exact szLt (by omega)) ?_
      walk_at "rd"
      refine u_fdv zz ?_
      walk_at "rd"
      refine ⟨_, _, ds ++ [r % z], rfl, e.mut hq, by rw [upd_same, List.map_append] <;> rfl, by rw [List.length_append, List.length_singleton, el], ?_⟩
      exact dg.snoc (by rw [el]; exact hzi) (Int.emod_nonneg _ (by omega)) (Int.emod_lt_of_pos _ zz.1)
    · rintro σ' H' ⟨r, v, ds, rfl, e, hds, el, dg⟩
      walk_at "rd"
      exact k ds q H' e hq hds (by rw [el, List.length_map]) dg
  · walk_at "rd"
    refine u_mod (by decide) ?_
    walk_at "rd"
    refine u_lenL (sql (e0 p _ hp)) ?_
    rw [List.length_map]
    walk_at "rd"
    refine ⟨_, rfl, by omega, by omega, ?_⟩
    refine for_r0 (n := zs.length) (by omega) (fun i σ' H' => ∃ (r : Int) (v u : Option V) (ds : List Int), σ' = [some (.int n), some (.ref p), some (.ref q), some (.int n), some (.int r), v, none, u] ∧ 0 ≤ r ∧ r < 2147483647 ∧ Ex H H' ∧ H' q = some (.lst (ds.map V.int)) ∧ ds.length = i ∧ Digs zs ds)
      ⟨_, none, none, [], rfl, Int.emod_nonneg _ (by decide), Int.lt_trans (Int.emod_lt_of_pos _ (by decide)) (by decide), e0, upd_same, rfl, fun i d z hd => by simp at hd⟩ ?_ ?_
    · rintro i σ' H' hi ⟨r, v, u, ds, rfl, r0, r1, e, hds, el, dg⟩
      have hzi := List.getElem?_eq_getElem hi
      generalize zs[i] = z at hzi
      have zz := hz z (List.mem_of_getElem? hzi)
      walk_at "rd"
      refine u_mul (Or.inl ⟨by omega, by omega⟩) ?_
      walk_at "rd"
      refine u_mul (Or.inl ⟨by omega, by omega⟩) ?_
      walk_at "rd"
      refine u_mod (by decide) ?_
      walk_at "rd"
      generalize hr2 : (r * 48271 + 974711 * (i : Int) + 12345) % 2147483647 = r2
      have r20 : 0 ≤ r2 := by rw [← hr2]; exact Int.emod_nonneg _ (by decide)
      have r21 : r2 < 2147483647 := by rw [← hr2]; exact Int.emod_lt_of_pos _ (by decide)
      refine u_fdv ⟨by decide, by decide⟩ ?_
      walk_at "rd"
      refine u_mul (Or.inl ⟨by omega, by omega⟩) ?_
      walk_at "rd"
      refine u_mod (by decide) ?_
      walk_at "rd"
      refine u_tyL (sql hds) ?_
      walk_at "rd"
      refine u_fdv ⟨by decide, by decide⟩ ?_
      walk_at "rd"
      refine u_ixL (sql (e p _ hp)) (at_i rfl (mapm hzi)) ?_
      walk_at "rd"
      refine u_mod zz.1 ?_
      walk_at "rd"
      refine u_append hds (by rw [List.length_map]; exact szLt (by omega)) ?_
      walk_at "rd"
      refine ⟨r2, _, _, ds ++ [r2 * (r2 / 65537 + 3) % 2147483629 / 19 % z], rfl, r20, r21, e.mut hq, by rw [upd_same, List.map_append] <;> rfl, by rw [List.length_append, List.length_singleton, el], ?_⟩
      exact dg.snoc (by rw [el]; exact hzi) (Int.emod_nonneg _ (by omega)) (Int.emod_lt_of_pos _ zz.1)
    · rintro σ' H' ⟨r, v, u, ds, rfl, r0, r1, e, hds, el, dg⟩
      walk_at "rd"
      exact k ds q H' e hq hds el dg

end K39
set_option Elab.async false
set_option linter.all false
set_option maxRecDepth 100000
set_option maxHeartbeats 2000000
namespace K39
open PySem L2 Uni
local macro_rules | `(tactic| walk_at "rd") => `(tactic| (repeat (first
  | (with_reducible refine u_var (by with_unfolding_all exact rfl) ?_) | (with_reducible refine u_seq ?_) | (with_reducible refine u_asg ?_) | (with_reducible refine u_gname ?_) | (with_reducible refine u_drop ?_) | (with_reducible refine u_ret ?_) | (with_reducible refine u_retN ?_) | (with_reducible refine u_next ?_) | (with_reducible refine u_break ?_) | (with_reducible refine u_cont ?_) | (with_reducible refine u_if ?_) | (with_reducible refine u_c ?_) | (with_reducible refine u_op ?_) | (with_reducible refine u_un ?_) | (with_reducible refine u_test ?_) | (with_reducible refine u_tb ?_) | (with_reducible refine u_bl ?_) | (with_reducible refine u_not ?_) | (with_reducible refine u_and ?_) | (with_reducible refine u_or ?_) | (with_reducible refine u_chain ?_) | (with_reducible refine u_ifE ?_) | (with_reducible refine u_andV ?_) | (with_reducible refine u_orV ?_) | (with_reducible refine u_notV ?_) | (with_reducible refine u_blE ?_) | (with_reducible refine u_nil ?_) | (with_reducible refine u_cons ?_) | (with_reducible refine u_tup ?_) | (with_reducible refine u_lst ?_) | (with_reducible refine u_cb ?_) | (with_reducible refine u_call ?_) | (with_reducible refine u_bm ?_) | (with_reducible refine u_bm0 ?_) | (with_reducible refine u_m1 ?_) | (with_reducible refine u_sl ?_) | (with_reducible refine u_nopart ?_) | (with_reducible refine u_part ?_) | (with_reducible refine u_int ?_) | (with_reducible refine u_yes ?_) | (with_reducible refine u_add ?_) | (with_reducible refine u_sub ?_) | (with_reducible refine u_neg ?_) | (with_reducible refine u_le ?_) | (with_reducible refine u_gt ?_) | (with_reducible refine u_ge ?_) | (with_reducible refine u_lt ?_) | (with_reducible refine u_ltS ?_) | (with_reducible refine u_eqI ?_) | (with_reducible refine u_neI ?_) | (with_reducible refine u_eqS ?_) | (with_reducible refine u_neS ?_) | (with_reducible refine u_eqB ?_) | (with_reducible refine u_neB ?_) | (with_reducible refine u_inS ?_) | (with_reducible refine u_ninS ?_) | (with_reducible refine u_intI ?_) | (with_reducible refine u_intB ?_) | (with_reducible refine u_for ?_) | (with_reducible refine u_iR1 ?_) | (with_reducible refine u_iR2 ?_) | (with_reducible refine u_uni ?_) | (with_reducible refine u_lc ?_)
  | (with_reducible refine iteT ?_) | (with_reducible refine iteF ?_) | (with_reducible refine iteNT ?_) | (with_reducible refine iteNF ?_))))
theorem pu_law_marks (K : PySem.W.Frag) (vs : List V) (H : Hp) (Q : VK) (E : XK) (h : sp_law_marks K vs H Q E) : t_law_marks K { nx := fun _ H' => Q .non H', rt := Q } (start N_law_marks vs) H := by
  obtain ⟨m, b, rfl, hm, k⟩ := h
  unfold t_law_marks
  walk_at "rd"
  refine ⟨⟨_, rfl⟩, ?_⟩
  walk_at "rd"
  refine ⟨_, rfl, by decide, by decide, ?_⟩
  refine lc_inv (walk_rX (n := 4)) (fun _ _ => trivial) (by decide) (fun D i acc H' => ∃ t : List Nat, acc = (t.map fun c => sv [c]) ∧ t.Sublist (m.take i)) (fun D _ => ⟨[], rfl, List.nil_sublist _⟩) ?_ ?_
  · rintro D i x acc H' hi rfl hD hacc e hl ⟨t, rfl, ht⟩ N hN
    have hz : ∃ z : Int, atI [V.int 1, V.int 2, V.int 4, V.int 8] (i : Int) = some (.int z) ∧ 0 < z ∧ z < 1073741824 := by
      have : i = 0 ∨ i = 1 ∨ i = 2 ∨ i = 3 := by omega
      rcases this with rfl | rfl | rfl | rfl
      · exact ⟨1, rfl, by decide, by decide⟩
      · exact ⟨2, rfl, by decide, by decide⟩
      · exact ⟨4, rfl, by decide, by decide⟩
      · exact ⟨8, rfl, by decide, by decide⟩
    obtain ⟨z, az, z0, z1⟩ := hz
    have hi' : i < m.length := by omega
    have hc := List.getElem?_eq_getElem hi'
    have tk : m.take (i + 1) = m.take i ++ [m[i]] := List.take_succ_eq_append_getElem hi'
    generalize m[i] = c at hc tk
    walk_at "rd"
    refine ⟨rfl, ?_⟩
    walk_at "rd"
    refine ⟨by decide, fun p hp => ?_⟩
    have hDp : D ≠ p := ne_of_none hacc hp
    walk_at "rd"
    refine u_ixL (sql upd_same) az ?_
    refine u_fdv ⟨z0, z1⟩ ?_
    walk_at "rd"
    refine u_mod (by decide) ?_
    walk_at "rd"
    refine iteD (fun q => ?_) (fun q => ?_)
    · walk_at "rd"
      refine u_ixS (szOf (by omega)) (at_i rfl hc) ?_
      refine ⟨_, (Ex.new hp) _ _ hacc, szLt (by rw [List.length_map] at hl ⊢; omega), hN _ _ upd_same ((e.up hp).mut hD) (by rw [List.length_append, List.length_singleton]; omega) ⟨t ++ [c], by rw [List.map_append] <;> rfl, ?_⟩⟩
      rw [tk]
      exact ht.append (List.Sublist.refl _)
    · refine hN _ _ ((Ex.new hp) _ _ hacc) (e.up hp) (by omega) ⟨t, rfl, ?_⟩
      rw [tk]
      exact ht.trans (List.sublist_append_left _ _)
  · rintro D acc H' hD hacc e hl ⟨t, rfl, ht⟩
    refine u_join1 (k := false) (sql hacc) (by rw [List.length_map] at hl; omega) ?_
    exact k t H' e (by rw [List.take_of_length_le (by omega)] at ht; exact ht)
theorem erase_perm : ∀ (l : List Nat) (j : Nat) (h : j < l.length), (l[j] :: l.eraseIdx j).Perm l
  | a :: r, 0, _ => List.Perm.refl _
  | a :: r, j + 1, h => (List.Perm.swap a (r[j]'(Nat.lt_of_succ_lt_succ h)) (r.eraseIdx j)).trans ((erase_perm r j (Nat.lt_of_succ_lt_succ h)).cons a)
/-- what was popped and what is left -/
theorem pop_perm {t rest all : List Nat} {j c : Nat} (h : (t ++ rest).Perm all) (hc : rest[j]? = some c) : ((t ++ [c]) ++ rest.eraseIdx j).Perm all := by
  refine List.Perm.trans ?_ h
  rw [List.append_assoc]
  refine List.Perm.append_left t ?_
  obtain ⟨hj, e⟩ := List.getElem?_eq_some_iff.mp hc
  rw [← e]
  exact erase_perm rest j hj
theorem ok_of_pops {t rest all t' : List Nat} (h : (t ++ rest).Perm all) (nd : all.Nodup) (hp : t'.Perm t) (hs : t'.Pairwise (· ≤ ·)) : (∀ c ∈ t', c ∈ all) ∧ t'.Pairwise (· < ·) := by
  refine ⟨fun c hc => h.mem_iff.mp (List.mem_append_left _ (hp.mem_iff.mp hc)), lt_of_le_nodup hs ?_⟩
  have n1 : (t ++ rest).Nodup := h.nodup_iff.mpr nd
  exact hp.nodup_iff.mpr (List.nodup_append.mp n1).1
theorem eraseMap {α β : Type} (f : α → β) (l : List α) (j : Nat) : (l.map f).eraseIdx j = (l.eraseIdx j).map f := by
  induction l generalizing j with
  | nil => simp
  | cons a r ih =>
    cases j with
    | zero => simp
    | succ j => simp [ih]
/-- one of the three comprehensions: n signs popped by digits -/
theorem pops {K : PySem.W.Frag} {σ : L2.St} {H1 : Hp} {Q : VK} {lc base : Nat} {l p : Addr} {ds : List Int} {all : List Nat} {n : Nat} {z : Int} (ez : z.toNat = n) (hσ1 : ∀ k : V, ((wipe σ [8]).set 8 (some k))[lc]? = some (some (.ref l))) (hσ2 : ∀ k : V, ((wipe σ [8]).set 8 (some k))[1]? = some (some (.ref p))) (hσ3 : ∀ k : V, ((wipe σ [8]).set 8 (some k))[8]? = some (some k))
    (hw : ∀ k : V, wipe ((wipe σ [8]).set 8 (some k)) [8] = wipe σ [8]) (hp : H1 p = some (.lst (ds.map V.int))) (hl : H1 l = some (.lst (all.map fun c => sv [c]))) (hlp : l ≠ p) (hall : all.length ≤ 100) (hn : n ≤ all.length)
    (hds : ∀ i, i < n → ∃ d : Int, ds[base + i]? = some d ∧ 0 ≤ d ∧ d < (all.length : Int) - i)
    (hq : ∀ (D : Addr) (t rest : List Nat) (H' : Hp), H1 D = none → H' D = some (.lst (t.map fun c => sv [c])) → (∀ a o, a ≠ l → H1 a = some o → H' a = some o) → (t ++ rest).Perm all → t.length = n → Q (.ref D) H') :
    ∀ D, H1 D = none → LcW (Itr 0 z.toNat) (gName 8) tYes (tBM K "list" rPopAt (tVar lc) (tCons (tOp (uIx K) (tVar 1) (tOp (uAdd K) (tC (.int base)) (tVar 8))) tNil)) [8] σ H1 Q D := by
  intro D hD
  rw [ez]
  refine lc_it (walk_rX (n := n)) (fun i H' => ∃ t rest : List Nat, H' D = some (.lst (t.map fun c => sv [c])) ∧ H' l = some (.lst (rest.map fun c => sv [c])) ∧ (∀ a o, a ≠ l → H1 a = some o → H' a = some o) ∧ (t ++ rest).Perm all ∧ t.length = i) ⟨[], all, upd_same, old hD hl, fun a o _ e => old hD e, List.Perm.refl _, rfl⟩ (fun _ _ _ _ => trivial) ?_ ?_
  · rintro i x H H' hi ⟨t, rest, hDt, hlr, e, pm, el⟩ ⟨rfl, rfl⟩
    obtain ⟨d, hd, d0, d1⟩ := hds i hi
    have rl : t.length + rest.length = all.length := by rw [← List.length_append]; exact pm.length_eq
    have hj : d.toNat < rest.length := by omega
    have hc := List.getElem?_eq_getElem hj
    generalize rest[d.toNat] = c at hc
    have hDl : D ≠ l := fun z => by rw [z, hl] at hD; cases hD
    refine u_gname ?_
    refine ⟨hw _, ?_⟩
    refine u_yes (iteT ?_)
    refine u_bm (u_var (hσ1 _) (u_tyL (sql hlr) ?_))
    refine u_cons (u_op (u_var (hσ2 _) (u_op (u_c (u_var (hσ3 _) (u_add ?_))))))
    refine u_ixL (sql (e p _ (Ne.symm hlp) hp)) (at_i (n := base + i) (by omega) (by rw [List.getElem?_map, hd] <;> rfl)) ?_
    refine u_nil ?_
    refine u_popAt (n := d.toNat) (y := sv [c]) (by omega) hlr (by rw [List.getElem?_map, hc] <;> rfl) (by omega) ?_
    refine ⟨_, off hDl hDt, szLt (by rw [List.length_map]; omega), t ++ [c], rest.eraseIdx d.toNat, by rw [upd_same, List.map_append] <;> rfl, ?_, ?_, pop_perm pm hc, by rw [List.length_append, List.length_singleton, el]⟩
    · rw [upd_ne (Ne.symm hDl), upd_same, eraseMap]
    · intro a o hal ha
      have haD : a ≠ D := ne_of_none ha hD
      rw [upd_ne haD, upd_ne hal]
      exact e a o hal ha
  · rintro H ⟨t, rest, hDt, hlr, e, pm, el⟩
    exact hq D t rest H hD hDt e pm el

theorem pu_law_signs (K : PySem.W.Frag) (vs : List V) (H : Hp) (Q : VK) (E : XK) (h : sp_law_signs K vs H Q E) : t_law_signs K { nx := fun _ H' => Q .non H', rt := Q } (start N_law_signs vs) H := by
  obtain ⟨n, rfl, k⟩ := h
  unfold t_law_signs
  walk_at "rd"
  refine ⟨by decide, fun z0 hz0 => ?_⟩
  walk_at "rd"
  refine ⟨n, z0, [3, 25, 24, 23, 3, 10, 9, 8, 26, 25, 24, 23], rfl, upd_same, by decide, by decide, ?_⟩
  intro ds p H1 e1 hp0 hp hlen hb
  have e01 : Ex H H1 := (Ex.new hz0).trans e1
  have dg : ∀ (i : Nat) (z : Int), ([3, 25, 24, 23, 3, 10, 9, 8, 26, 25, 24, 23] : List Int)[i]? = some z → ∃ d, ds[i]? = some d ∧ 0 ≤ d ∧ d < z := fun i z hz => by
    have hi : i < ds.length := by
      have := (List.getElem?_eq_some_iff.mp hz).1
      rw [hlen]; exact this
    exact ⟨ds[i], List.getElem?_eq_getElem hi, hb i _ z (List.getElem?_eq_getElem hi) hz⟩
  obtain ⟨d0, hd0, d00, d01⟩ := dg 0 3 rfl
  obtain ⟨d4, hd4, d40, d41⟩ := dg 4 3 rfl
  rw [lit_steps, lit_roots, lit_marks]
  walk_at "rd"
  refine u_listS (by decide) fun l hl => ?_
  have e2 := Ex.new (o := .lst (STEPSL.map fun c => sv [c])) hl
  walk_at "rd"
  refine u_listS (by decide) fun g hg => ?_
  have e3 := Ex.new (o := .lst (ROOTSL.map fun c => sv [c])) hg
  walk_at "rd"
  refine u_listS (by decide) fun m hm => ?_
  have e4 := Ex.new (o := .lst (MARKSL.map fun c => sv [c])) hm
  have q1 := e4 _ _ (e3 _ _ (upd_same (H := H1) (a := l) (o := .lst (STEPSL.map fun c => sv [c]))))
  have q2 := e4 _ _ (upd_same (H := upd H1 l (.lst (STEPSL.map fun c => sv [c]))) (a := g) (o := .lst (ROOTSL.map fun c => sv [c])))
  have q3 := upd_same (H := upd (upd H1 l (.lst (STEPSL.map fun c => sv [c]))) g (.lst (ROOTSL.map fun c => sv [c]))) (a := m) (o := .lst (MARKSL.map fun c => sv [c]))
  have q4 := e4 _ _ (e3 _ _ (e2 _ _ hp))
  have e05 : Ex H1 _ := (e2.trans e3).trans e4
  have lp : l ≠ p := Ne.symm (ne_of_none hp hl)
  have gp : g ≠ p := Ne.symm (ne_of_none (e2 _ _ hp) hg)
  have mp : m ≠ p := Ne.symm (ne_of_none (e3 _ _ (e2 _ _ hp)) hm)
  have gl : g ≠ l := fun z => by subst z; rw [upd_same] at hg; cases hg
  have ml : m ≠ l := fun z => by
    subst z
    have := e3 _ _ (upd_same (H := H1) (a := m) (o := .lst (STEPSL.map fun c => sv [c])))
    rw [this] at hm; cases hm
  have mg : m ≠ g := fun z => by subst z; rw [upd_same] at hm; cases hm
  have f1 : ∀ {a o}, H a = some o → a ≠ l ∧ a ≠ g ∧ a ≠ m := fun {a o} ha => ⟨ne_of_none (e01 _ _ ha) hl, ne_of_none (e2 _ _ (e01 _ _ ha)) hg, ne_of_none (e3 _ _ (e2 _ _ (e01 _ _ ha))) hm⟩
  have e06 := e01.trans e05
  generalize upd (upd (upd H1 l (.lst (STEPSL.map fun c => sv [c]))) g (.lst (ROOTSL.map fun c => sv [c]))) m (.lst (MARKSL.map fun c => sv [c])) = H2 at q1 q2 q3 q4 e05 e06
  walk_at "rd"
  refine u_ixL (sql q4) (at_i (n := 0) rfl (mapm hd0)) ?_
  walk_at "rd"
  refine ⟨_, rfl, by omega, by omega, ?_⟩
  refine pops (n := 1 + d0.toNat) (base := 1) (ds := ds) (all := STEPSL) (by omega) (fun _ => rfl) (fun _ => rfl) (fun _ => rfl) (fun _ => rfl) q4 q1 lp (by decide) (by show 1 + d0.toNat ≤ 25; omega) ?_ ?_
  · intro i hi
    have : i = 0 ∨ i = 1 ∨ i = 2 := by omega
    rcases this with rfl | rfl | rfl
    · exact dg 1 25 rfl
    · exact dg 2 24 rfl
    · exact dg 3 23 rfl
  intro D1 t1 r1 H3 hD1 hD1t k3 pm1 tl1
  walk_at "rd"
  refine u_ixL (sql (k3 _ _ (Ne.symm lp) q4)) (at_i (n := 4) rfl (mapm hd4)) ?_
  walk_at "rd"
  refine ⟨_, rfl, by omega, by omega, ?_⟩
  refine pops (n := 1 + d4.toNat) (base := 5) (ds := ds) (all := ROOTSL) (by omega) (fun _ => rfl) (fun _ => rfl) (fun _ => rfl) (fun _ => rfl) (k3 _ _ (Ne.symm lp) q4) (k3 _ _ gl q2) gp (by decide) (by show 1 + d4.toNat ≤ 10; omega) ?_ ?_
  · intro i hi
    have : i = 0 ∨ i = 1 ∨ i = 2 := by omega
    rcases this with rfl | rfl | rfl
    · exact dg 5 10 rfl
    · exact dg 6 9 rfl
    · exact dg 7 8 rfl
  intro D2 t2 r2 H4 hD2 hD2t k4 pm2 tl2
  walk_at "rd"
  refine ⟨_, rfl, by decide, by decide, ?_⟩
  refine pops (n := 4) (base := 8) (ds := ds) (all := MARKSL) (by decide) (fun _ => rfl) (fun _ => rfl) (fun _ => rfl) (fun _ => rfl) (k4 _ _ (Ne.symm gp) (k3 _ _ (Ne.symm lp) q4)) (k4 _ _ mg (k3 _ _ ml q3)) mp (by decide) (by decide) ?_ ?_
  · intro i hi
    have : i = 0 ∨ i = 1 ∨ i = 2 ∨ i = 3 := by omega
    rcases this with rfl | rfl | rfl | rfl
    · exact dg 8 26 rfl
    · exact dg 9 25 rfl
    · exact dg 10 24 rfl
    · exact dg 11 23 rfl
  intro D3 t3 r3 H5 hD3 hD3t k5 pm3 tl3
  have nD1 : D1 ≠ g := fun z => by rw [z, q2] at hD1; cases hD1
  have nD2 : D2 ≠ m := fun z => by rw [z, k3 _ _ ml q3] at hD2; cases hD2
  have nD1m : D1 ≠ m := fun z => by rw [z, q3] at hD1; cases hD1
  have hD1' := k5 _ _ nD1m (k4 _ _ nD1 hD1t)
  have hD2' := k5 _ _ nD2 hD2t
  have eH : Ex H H5 := fun a o ha => by
    obtain ⟨n1, n2, n3⟩ := f1 ha
    exact k5 _ _ n3 (k4 _ _ n2 (k3 _ _ n1 (e06 _ _ ha)))
  walk_at "rd"
  refine ⟨⟨_, rfl⟩, ?_⟩
  walk_at "rd"
  refine u_sorted1 (k := false) (sql hD1') (by omega) fun t1' p1 pm1' s1 hp1 => ?_
  refine u_join1 (k := false) (sql upd_same) (by rw [pm1'.length_eq]; omega) ?_
  walk_at "rd"
  refine ⟨⟨_, rfl⟩, ?_⟩
  walk_at "rd"
  refine u_sorted1 (k := false) (sql (old hp1 hD2')) (by omega) fun t2' p2 pm2' s2 hp2 => ?_
  refine u_join1 (k := false) (sql upd_same) (by rw [pm2'.length_eq]; omega) ?_
  walk_at "rd"
  refine ⟨⟨_, rfl⟩, ?_⟩
  walk_at "rd"
  refine u_sorted1 (k := false) (sql (old hp2 (old hp1 hD3t))) (by omega) fun t3' p3 pm3' s3 hp3 => ?_
  refine u_join1 (k := false) (sql upd_same) (by rw [pm3'.length_eq]; omega) ?_
  walk_at "rd"
  refine ⟨by show 3 ≤ _; exact szOf (by decide), fun q hq => ?_⟩
  have ok1 := ok_of_pops pm1 (by decide) pm1' s1
  have ok2 := ok_of_pops pm2 (by decide) pm2' s2
  have ok3 := ok_of_pops pm3 (by decide) pm3' s3
  have eF3 := ((eH.up (o := .lst (t1'.map fun c => sv [c])) hp1).up (o := .lst (t2'.map fun c => sv [c])) hp2).up (o := .lst (t3'.map fun c => sv [c])) hp3
  refine k q t1' t2' t3' _ (eF3.up hq) (eF3.free hq) upd_same ⟨?_, ?_⟩ ⟨by rw [pm3'.length_eq]; exact tl3, ok3.1, ok3.2⟩
  · exact decide_eq_true ⟨by rw [pm1'.length_eq]; omega, by rw [pm1'.length_eq]; omega, ok1.1, ok1.2⟩
  · exact decide_eq_true ⟨by rw [pm2'.length_eq]; omega, by rw [pm2'.length_eq]; omega, ok2.1, ok2.2⟩

end K39
set_option Elab.async false
set_option linter.all false
set_option maxRecDepth 100000
set_option maxHeartbeats 2000000
namespace K39
open PySem L2 Uni
local macro_rules | `(tactic| walk_at "rd") => `(tactic| (repeat (first
  | (with_reducible refine u_var (by with_unfolding_all exact rfl) ?_) | (with_reducible refine u_seq ?_) | (with_reducible refine u_asg ?_) | (with_reducible refine u_gname ?_) | (with_reducible refine u_drop ?_) | (with_reducible refine u_ret ?_) | (with_reducible refine u_retN ?_) | (with_reducible refine u_next ?_) | (with_reducible refine u_break ?_) | (with_reducible refine u_cont ?_) | (with_reducible refine u_if ?_) | (with_reducible refine u_c ?_) | (with_reducible refine u_op ?_) | (with_reducible refine u_un ?_) | (with_reducible refine u_test ?_) | (with_reducible refine u_tb ?_) | (with_reducible refine u_bl ?_) | (with_reducible refine u_not ?_) | (with_reducible refine u_and ?_) | (with_reducible refine u_or ?_) | (with_reducible refine u_chain ?_) | (with_reducible refine u_ifE ?_) | (with_reducible refine u_andV ?_) | (with_reducible refine u_orV ?_) | (with_reducible refine u_notV ?_) | (with_reducible refine u_blE ?_) | (with_reducible refine u_nil ?_) | (with_reducible refine u_cons ?_) | (with_reducible refine u_tup ?_) | (with_reducible refine u_lst ?_) | (with_reducible refine u_cb ?_) | (with_reducible refine u_call ?_) | (with_reducible refine u_bm ?_) | (with_reducible refine u_bm0 ?_) | (with_reducible refine u_m1 ?_) | (with_reducible refine u_sl ?_) | (with_reducible refine u_nopart ?_) | (with_reducible refine u_part ?_) | (with_reducible refine u_int ?_) | (with_reducible refine u_yes ?_) | (with_reducible refine u_add ?_) | (with_reducible refine u_sub ?_) | (with_reducible refine u_neg ?_) | (with_reducible refine u_le ?_) | (with_reducible refine u_gt ?_) | (with_reducible refine u_ge ?_) | (with_reducible refine u_lt ?_) | (with_reducible refine u_ltS ?_) | (with_reducible refine u_eqI ?_) | (with_reducible refine u_neI ?_) | (with_reducible refine u_eqS ?_) | (with_reducible refine u_neS ?_) | (with_reducible refine u_eqB ?_) | (with_reducible refine u_neB ?_) | (with_reducible refine u_inS ?_) | (with_reducible refine u_ninS ?_) | (with_reducible refine u_intI ?_) | (with_reducible refine u_intB ?_) | (with_reducible refine u_for ?_) | (with_reducible refine u_iR1 ?_) | (with_reducible refine u_iR2 ?_) | (with_reducible refine u_uni ?_) | (with_reducible refine u_lc ?_)
  | (with_reducible refine iteT ?_) | (with_reducible refine iteF ?_) | (with_reducible refine iteNT ?_) | (with_reducible refine iteNF ?_))))
/-- rows of new objects at l, none of them at b -/
def LinesAt (k j : Bool) (H0 : Hp) (b : Addr) (H : Hp) (l : Addr) (rows : List (List Int)) : Prop := ∃ xs, H l = some (kho k xs) ∧ xs.length = rows.length ∧ (∀ (i : Nat) x row, xs[i]? = some x → rows[i]? = some row → SeqI j H x row) ∧ ∀ x ∈ xs, ∃ a, x = .ref a ∧ H0 a = none ∧ a ≠ b
theorem LinesAt.ex {k j : Bool} {H0 H H' : Hp} {b l : Addr} {rows : List (List Int)} (e : Ex H H') (h : LinesAt k j H0 b H l rows) : LinesAt k j H0 b H' l rows :=
  let ⟨xs, h1, h2, h3, h4⟩ := h; ⟨xs, e _ _ h1, h2, fun i x row a c => (h3 i x row a c).ex e, h4⟩
/-- [f(line) for line in ..], f list or tuple: new rows -/
theorem copies {K : PySem.W.Frag} {σ : L2.St} {H0 H1 : Hp} {Q : VK} {a b : Addr} {xs : List V} {rows : List (List Int)} {k j m : Bool} {i : Nat} {te : TE} {tr : V → Hp → VK → Prop}
    (hσ : ∀ v : V, ((wipe σ [i]).set i (some v))[i]? = some (some v)) (hw : ∀ v : V, wipe ((wipe σ [i]).set i (some v)) [i] = wipe σ [i])
    (hte : ∀ (v : V) (H : Hp) (Q : VK), tr v H Q → te ((wipe σ [i]).set i (some v)) H Q)
    (htr : ∀ (c : Addr) (ns : List Int) (H : Hp) (Q : VK), H c = some (kho j (ns.map V.int)) → (∀ p H', New H H' p (kho m (ns.map V.int)) → Q (.ref p) H') → tr (.ref c) H Q)
    (e01 : Ex H0 H1) (hb : ∃ o, H1 b = some o) (ha : H1 a = some (kho k xs)) (hlen : xs.length = rows.length) (hn : rows.length ≤ 1000) (hr : ∀ (i : Nat) (x : V) (row : List Int), xs[i]? = some x → rows[i]? = some row → SeqI j H1 x row)
    (hq : ∀ (D : Addr) (H' : Hp), H1 D = none → Ex H1 H' → LinesAt false m H0 b H' D rows → Q (.ref D) H') : ∀ D, H1 D = none → LcW (Jk K k a) (gName i) tYes te [i] σ H1 Q D := by
  refine lc_map walk_kX (fun H e => (Kd.of ha).ex e) (szLt (by omega)) (fun D n v H => ∃ (c : Addr) (ns : List Int), v = .ref c ∧ rows[n]? = some ns ∧ H c = some (kho m (ns.map V.int)) ∧ H0 c = none ∧ c ≠ b ∧ c ≠ D) ?_ ?_ ?_
  · rintro D n v H H' e ⟨c, ns, e1, e2, e3, e4, e5, e6⟩
    exact ⟨c, ns, e1, e2, e c _ e6 e3, e4, e5, e6⟩
  · rintro D n v H hi hx hD ⟨acc, hacc⟩ e N N' hN
    refine u_gname ?_
    refine ⟨hw _, u_yes (iteT (hte _ _ _ ?_))⟩
    have hr1 : rows[n]? = some rows[n] := List.getElem?_eq_getElem (by omega)
    generalize rows[n] = ns at hr1
    obtain ⟨c, rfl, hc⟩ := hr n v ns hx hr1
    obtain ⟨ob, hob⟩ := hb
    refine htr c ns H N (e _ _ hc) fun p H' nw => hN _ H' nw.2.1 ⟨p, ns, rfl, hr1, nw.2.2.1, e01.free (e.free nw.1), Ne.symm (ne_of_none (e _ _ hob) nw.1), Ne.symm (ne_of_none hacc nw.1)⟩
  · intro D ys H hD hDy e hl hy
    refine hq D H hD e ⟨ys, hDy, by omega, fun n x row h1 h2 => ?_, fun x hx => ?_⟩
    · obtain ⟨c, ns, e1, e2, e3, _⟩ := hy n x h1
      rw [h2] at e2
      cases e2
      exact ⟨c, e1, e3⟩
    · obtain ⟨n, hn, e⟩ := List.mem_iff_getElem.mp hx
      obtain ⟨c, ns, e1, e2, e3, e4, e5, e6⟩ := hy n x (by rw [List.getElem?_eq_getElem hn, e])
      exact ⟨c, e1, e4, e5⟩
theorem way_dec (w j d : Nat) (hd : d = 2 ^ j) : decide ((w : Int) / (d : Int) % 2 = 1) = wayB w j := by
  subst hd
  unfold wayB
  refine decide_eq_decide.mpr ?_
  omega
theorem pu_law_hand (K : PySem.W.Frag) (vs : List V) (H : Hp) (Q : VK) (E : XK) (h : sp_law_hand K vs H Q E) : t_law_hand K { nx := fun _ H' => Q .non H', rt := Q } (start N_law_hand vs) H := by
  obtain ⟨v, w, tb, rfl, ⟨q0, b0, l0, t0, rfl, hq0, ⟨b0', rfl, hb0⟩, ⟨l0', xs0, rfl, hl0, hxl, hx0⟩, ⟨t0', rfl, ht0⟩⟩, hn, k⟩ := h
  unfold t_law_hand
  walk_at "rd"
  refine u_ixL (sql hq0) (at_i (n := 0) rfl rfl) ?_
  walk_at "rd"
  refine n_listK (k := false) (sql hb0) fun b H1 nb => ?_
  have e1 := nb.2.1
  walk_at "rd"
  refine u_ixL (sql (e1 _ _ hq0)) (at_i (n := 1) rfl rfl) ?_
  walk_at "rd"
  refine u_uC (k := false) (sql (e1 _ _ hl0)) ?_
  refine copies (H0 := H) (b := b) (j := false) (m := false) (xs := xs0) (rows := tb.lines) (tr := fun v H Q => uList K [v] H Q) (fun _ => rfl) (fun _ => rfl) (fun v H Q h => ?_) (fun c ns H Q hc hQ => n_listK (k := false) (sql hc) hQ) e1 ⟨_, nb.2.2.1⟩ (e1 _ _ hl0) hxl hn (fun i x row a c => (hx0 i x row a c).ex e1) fun l H2 hl e2 L2 => ?_
  · walk_at "rd"
    exact h
  have e02 := e1.trans e2
  walk_at "rd"
  refine u_ixL (sql (e02 _ _ hq0)) (at_i (n := 2) rfl rfl) ?_
  walk_at "rd"
  refine n_listK (k := false) (sql (e02 _ _ ht0)) fun t H3 nt => ?_
  have e3 := nt.2.1
  have e03 := e02.trans e3
  walk_at "rd"
  have base : H b = none ∧ H l = none ∧ H t = none := ⟨nb.1, e1.free hl, e02.free nt.1⟩
  have hb3 := e3 _ _ (e2 _ _ nb.2.2.1)
  have ht3 := nt.2.2.1
  have L3 := L2.ex e3
  -- the rows
  refine u_cut (fun σ' H' => ∃ (l : Addr) (o : Option V), σ' = [some (.ref q0), some (.int w), some (.ref b), some (.ref l), some (.ref t), o] ∧ Ex H H' ∧ H l = none ∧ H' b = some (.lst (tb.begins.map V.int)) ∧ H' t = some (.lst (tb.texts.map sv)) ∧ LinesAt false (wayB w 1) H b H' l tb.lines) ?_ ?_
  · walk_at "rd"
    refine u_fdv ⟨by decide, by decide⟩ ?_
    walk_at "rd"
    refine u_mod (by decide) ?_
    walk_at "rd"
    have wd := way_dec w 1 2 rfl
    have wd : decide ((w : Int) / 2 % 2 = 1) = wayB w 1 := wd
    rw [wd]
    refine iteB (fun c => ?_) (fun c => ?_)
    · walk_at "rd"
      obtain ⟨xs, a1, a2, a3, a4⟩ := L3
      refine u_uC (k := false) (sql a1) ?_
      refine copies (H0 := H) (b := b) (j := false) (m := true) (xs := xs) (rows := tb.lines) (tr := fun v H Q => uTuple K [v] H Q) (fun _ => rfl) (fun _ => rfl) (fun v H Q h => ?_) (fun c ns H Q hc hQ => n_tupL (sql hc) hQ) e03 ⟨_, hb3⟩ a1 a2 hn a3 fun D H4 hD e4 L4 => ?_
      · walk_at "rd"
        exact h
      walk_at "rd"
      exact ⟨D, _, rfl, e03.trans e4, e03.free hD, e4 _ _ hb3, e4 _ _ ht3, by rw [c]; exact L4⟩
    · walk_at "rd"
      exact ⟨l, _, rfl, e03, base.2.1, hb3, ht3, by rw [c]; exact L3⟩
  clear e03 e02 e3 L3 L2 hb3 ht3
  rintro σ' H' ⟨l, o, rfl, e, hl0, hb, ht, L⟩
  refine u_cut (fun σ' H' => ∃ (l : Addr) (o : Option V), σ' = [some (.ref q0), some (.int w), some (.ref b), some (.ref l), some (.ref t), o] ∧ Ex H H' ∧ H l = none ∧ H' b = some (.lst (tb.begins.map V.int)) ∧ H' t = some (.lst (tb.texts.map sv)) ∧ LinesAt (wayB w 2) (wayB w 1) H b H' l tb.lines) ?_ ?_
  · walk_at "rd"
    refine u_fdv ⟨by decide, by decide⟩ ?_
    walk_at "rd"
    refine u_mod (by decide) ?_
    walk_at "rd"
    have wd := way_dec w 2 4 rfl
    have wd : decide ((w : Int) / 4 % 2 = 1) = wayB w 2 := wd
    rw [wd]
    refine iteB (fun c => ?_) (fun c => ?_)
    · walk_at "rd"
      obtain ⟨xs, a1, a2, a3, a4⟩ := L
      refine n_tupL (sql a1) fun p H4 n4 => ?_
      walk_at "rd"
      have e4 := n4.2.1
      exact ⟨p, _, rfl, e.trans e4, e.free n4.1, e4 _ _ hb, e4 _ _ ht, xs, by rw [c]; exact n4.2.2.1, a2, fun i x row h1 h2 => (a3 i x row h1 h2).ex e4, a4⟩
    · walk_at "rd"
      exact ⟨l, _, rfl, e, hl0, hb, ht, by rw [c]; exact L⟩
  clear hb ht L e hl0 H'
  rintro σ' H' ⟨l, o, rfl, e, hl0, hb, ht, L⟩
  refine u_cut (fun σ' H' => ∃ (b : Addr) (o : Option V), σ' = [some (.ref q0), some (.int w), some (.ref b), some (.ref l), some (.ref t), o] ∧ Ex H H' ∧ H b = none ∧ H' b = some (kho (wayB w 0) (tb.begins.map V.int)) ∧ H' t = some (.lst (tb.texts.map sv)) ∧ LinesAt (wayB w 2) (wayB w 1) H b H' l tb.lines) ?_ ?_
  · walk_at "rd"
    refine u_mod (by decide) ?_
    walk_at "rd"
    have wd : decide ((w : Int) % 2 = 1) = wayB w 0 := by
      unfold wayB
      refine decide_eq_decide.mpr ?_
      simp
      omega
    rw [wd]
    refine iteB (fun c => ?_) (fun c => ?_)
    · walk_at "rd"
      refine n_tupL (sql hb) fun p H4 n4 => ?_
      walk_at "rd"
      have e4 := n4.2.1
      obtain ⟨xs, a1, a2, a3, a4⟩ := L
      refine ⟨p, _, rfl, e.trans e4, e.free n4.1, by rw [c]; exact n4.2.2.1, e4 _ _ ht, xs, e4 _ _ a1, a2, fun i x row h1 h2 => (a3 i x row h1 h2).ex e4, fun x hx => ?_⟩
      obtain ⟨a, ea, ha, _⟩ := a4 x hx
      obtain ⟨i, hi, ei⟩ := List.mem_iff_getElem.mp hx
      obtain ⟨a', ea', ha'⟩ := a3 i x (tb.lines[i]'(by omega)) (by rw [List.getElem?_eq_getElem hi, ei]) (List.getElem?_eq_getElem _)
      rw [ea] at ea'
      cases ea'
      exact ⟨a, ea, ha, ne_of_none ha' n4.1⟩
    · walk_at "rd"
      exact ⟨b, _, rfl, e, base.1, by rw [c]; exact hb, ht, L⟩
  clear hb ht L e H'
  rintro σ' H' ⟨b, o, rfl, e, hb0, hb, ht, L⟩
  refine u_cut (fun σ' H' => ∃ (t : Addr) (o : Option V), σ' = [some (.ref q0), some (.int w), some (.ref b), some (.ref l), some (.ref t), o] ∧ Ex H H' ∧ H t = none ∧ H' b = some (kho (wayB w 0) (tb.begins.map V.int)) ∧ H' t = some (kho (wayB w 3) (tb.texts.map sv)) ∧ LinesAt (wayB w 2) (wayB w 1) H b H' l tb.lines) ?_ ?_
  · walk_at "rd"
    refine u_fdv ⟨by decide, by decide⟩ ?_
    walk_at "rd"
    refine u_mod (by decide) ?_
    walk_at "rd"
    have wd := way_dec w 3 8 rfl
    have wd : decide ((w : Int) / 8 % 2 = 1) = wayB w 3 := wd
    rw [wd]
    refine iteB (fun c => ?_) (fun c => ?_)
    · walk_at "rd"
      refine n_tupL (sql ht) fun p H4 n4 => ?_
      walk_at "rd"
      have e4 := n4.2.1
      exact ⟨p, _, rfl, e.trans e4, e.free n4.1, e4 _ _ hb, by rw [c]; exact n4.2.2.1, L.ex e4⟩
    · walk_at "rd"
      exact ⟨t, _, rfl, e, base.2.2, hb, by rw [c]; exact ht, L⟩
  clear hb ht L e H'
  rintro σ' H' ⟨t, o, rfl, e, ht0, hb, ht, L⟩
  walk_at "rd"
  refine ⟨by show 3 ≤ _; exact szOf (by decide), fun q hq => ?_⟩
  have nq := New.mk (o := .lst [V.ref b, V.ref l, V.ref t]) hq
  have e4 := nq.2.1
  obtain ⟨xs, a1, a2, a3, a4⟩ := L
  exact k q b l t xs _ (e.trans e4) (e.free hq) hb0 hl0 ht0 a4 nq.2.2.1 (e4 _ _ hb) (e4 _ _ a1) ⟨l, xs, rfl, e4 _ _ a1, a2, fun i x row h1 h2 => (a3 i x row h1 h2).ex e4⟩ (e4 _ _ ht)

end K39
set_option Elab.async false
set_option linter.all false
set_option maxRecDepth 100000
set_option maxHeartbeats 2000000
namespace K39
open PySem L2 Uni
local macro_rules | `(tactic| walk_at "rd") => `(tactic| (repeat (first
  | (with_reducible refine u_var (by with_unfolding_all exact rfl) ?_) | (with_reducible refine u_seq ?_) | (with_reducible refine u_asg ?_) | (with_reducible refine u_gname ?_) | (with_reducible refine u_drop ?_) | (with_reducible refine u_ret ?_) | (with_reducible refine u_retN ?_) | (with_reducible refine u_next ?_) | (with_reducible refine u_break ?_) | (with_reducible refine u_cont ?_) | (with_reducible refine u_if ?_) | (with_reducible refine u_c ?_) | (with_reducible refine u_op ?_) | (with_reducible refine u_un ?_) | (with_reducible refine u_test ?_) | (with_reducible refine u_tb ?_) | (with_reducible refine u_bl ?_) | (with_reducible refine u_not ?_) | (with_reducible refine u_and ?_) | (with_reducible refine u_or ?_) | (with_reducible refine u_chain ?_) | (with_reducible refine u_ifE ?_) | (with_reducible refine u_andV ?_) | (with_reducible refine u_orV ?_) | (with_reducible refine u_notV ?_) | (with_reducible refine u_blE ?_) | (with_reducible refine u_nil ?_) | (with_reducible refine u_cons ?_) | (with_reducible refine u_tup ?_) | (with_reducible refine u_lst ?_) | (with_reducible refine u_cb ?_) | (with_reducible refine u_call ?_) | (with_reducible refine u_bm ?_) | (with_reducible refine u_bm0 ?_) | (with_reducible refine u_m1 ?_) | (with_reducible refine u_sl ?_) | (with_reducible refine u_nopart ?_) | (with_reducible refine u_part ?_) | (with_reducible refine u_int ?_) | (with_reducible refine u_yes ?_) | (with_reducible refine u_add ?_) | (with_reducible refine u_sub ?_) | (with_reducible refine u_neg ?_) | (with_reducible refine u_le ?_) | (with_reducible refine u_gt ?_) | (with_reducible refine u_ge ?_) | (with_reducible refine u_lt ?_) | (with_reducible refine u_ltS ?_) | (with_reducible refine u_eqI ?_) | (with_reducible refine u_neI ?_) | (with_reducible refine u_eqS ?_) | (with_reducible refine u_neS ?_) | (with_reducible refine u_eqB ?_) | (with_reducible refine u_neB ?_) | (with_reducible refine u_inS ?_) | (with_reducible refine u_ninS ?_) | (with_reducible refine u_intI ?_) | (with_reducible refine u_intB ?_) | (with_reducible refine u_for ?_) | (with_reducible refine u_iR1 ?_) | (with_reducible refine u_iR2 ?_) | (with_reducible refine u_uni ?_) | (with_reducible refine u_lc ?_)
  | (with_reducible refine iteT ?_) | (with_reducible refine iteF ?_) | (with_reducible refine iteNT ?_) | (with_reducible refine iteNF ?_))))
/-! ### what a good table gives -/
theorem okStates_len {ns : List Int} {c m : Nat} (h : okStates ns c m = true) : ns.length = c := (of_decide_eq_true h).1
theorem okStates_mem {ns : List Int} {c m : Nat} (h : okStates ns c m = true) {n : Int} (hn : n ∈ ns) : 0 ≤ n ∧ n < (m : Int) := (of_decide_eq_true h).2 n hn
theorem okStates_at {ns : List Int} {c m i : Nat} (h : okStates ns c m = true) (hi : i < c) : ns[i]? = some (ns.getD i 0) ∧ 0 ≤ ns.getD i 0 ∧ ns.getD i 0 < (m : Int) := by
  have hl := okStates_len h
  have e := List.getElem?_eq_getElem (l := ns) (i := i) (by omega)
  have e2 : ns.getD i 0 = ns[i]'(by omega) := by rw [List.getD_eq_getElem?_getD, e] <;> rfl
  rw [e2]
  exact ⟨e, okStates_mem h (List.getElem_mem _)⟩
theorem GoodTb.beg {ns nr : Nat} {tb : Tb} (g : GoodTb ns nr tb) : okStates tb.begins nr tb.texts.length = true := by
  have := g.starts
  unfold badStarts at this
  simpa using this
theorem GoodTb.llen {ns nr : Nat} {tb : Tb} (g : GoodTb ns nr tb) : tb.lines.length = tb.texts.length := by
  have := g.moves
  unfold badMoves at this
  by_cases h : tb.lines.length = tb.texts.length
  · exact h
  · exact absurd (Or.inl h) this
theorem GoodTb.lin {ns nr : Nat} {tb : Tb} (g : GoodTb ns nr tb) {l : List Int} (h : l ∈ tb.lines) : okStates l ns tb.texts.length = true := by
  have := g.moves
  unfold badMoves at this
  cases e : okStates l ns tb.texts.length with
  | true => rfl
  | false => exact absurd (Or.inr ⟨l, h, e⟩) this
theorem GoodTb.many {ns nr : Nat} {tb : Tb} (g : GoodTb ns nr tb) : 1 ≤ tb.texts.length := by
  have := g.marked
  unfold badMarked at this
  cases e : tb.texts with
  | nil => exact absurd (Or.inl e) this
  | cons a r => rw [List.length_cons]; omega
theorem GoodTb.txt {ns nr : Nat} {tb : Tb} (g : GoodTb ns nr tb) {t : List Nat} (h : t ∈ tb.texts) : okMarks t = true := by
  have := g.marked
  unfold badMarked at this
  cases e : okMarks t with
  | true => rfl
  | false => exact absurd (Or.inr ⟨t, h, e⟩) this
theorem GoodTb.row {ns nr : Nat} {tb : Tb} (g : GoodTb ns nr tb) {n : Int} (h0 : 0 ≤ n) (h1 : n < (tb.texts.length : Int)) : tb.lines[n.toNat]? = some (targets tb.lines n) ∧ okStates (targets tb.lines n) ns tb.texts.length = true := by
  have hl := g.llen
  have e := List.getElem?_eq_getElem (l := tb.lines) (i := n.toNat) (by omega)
  have e2 : targets tb.lines n = tb.lines[n.toNat]'(by omega) := by unfold targets; rw [List.getD_eq_getElem?_getD, e] <;> rfl
  rw [e2]
  exact ⟨e, g.lin (List.getElem_mem _)⟩
theorem GoodSg.sl {s r : List Nat} (g : GoodSg s r) : 1 ≤ s.length ∧ s.length ≤ 3 ∧ 1 ≤ r.length ∧ r.length ≤ 3 := by
  have a := of_decide_eq_true g.s
  have b := of_decide_eq_true g.r
  exact ⟨a.1, a.2.1, b.1, b.2.1⟩
theorem GoodTb.stp {s r : List Nat} {tb : Tb} (g : GoodTb s.length r.length tb) {n : Int} (h0 : 0 ≤ n) (h1 : n < (tb.texts.length : Int)) {c : Nat} (hc : c ∈ s) :
    (targets tb.lines n)[ixs s c]? = some (stp s tb.lines n c) ∧ 0 ≤ stp s tb.lines n c ∧ stp s tb.lines n c < (tb.texts.length : Int) := by
  obtain ⟨_, _, hi⟩ := ixs_ok hc
  exact okStates_at (g.row h0 h1).2 hi
theorem GoodTb.wlk {s r : List Nat} {tb : Tb} (g : GoodTb s.length r.length tb) : ∀ (row : List Nat) (n : Int), 0 ≤ n → n < (tb.texts.length : Int) → (∀ d ∈ row, d ∈ s) → 0 ≤ wlk s tb.lines n row ∧ wlk s tb.lines n row < (tb.texts.length : Int)
  | [], n, h0, h1, _ => ⟨h0, h1⟩
  | d :: row, n, h0, h1, hr => by
    have h := g.stp h0 h1 (hr d List.mem_cons_self)
    exact GoodTb.wlk g row _ h.2.1 h.2.2 fun e he => hr e (List.mem_cons_of_mem _ he)
theorem GoodTb.fst {s r : List Nat} {tb : Tb} (g : GoodTb s.length r.length tb) {c : Nat} (hc : c ∈ r) : tb.begins[ixs r c]? = some (tb.begins.getD (ixs r c) 0) ∧ 0 ≤ tb.begins.getD (ixs r c) 0 ∧ tb.begins.getD (ixs r c) 0 < (tb.texts.length : Int) := by
  obtain ⟨_, _, hi⟩ := ixs_ok hc
  exact okStates_at g.beg hi
theorem GoodTb.at {s r : List Nat} {tb : Tb} (g : GoodTb s.length r.length tb) {spot : List Nat} (hs : Spot s r spot) : 0 ≤ stAt s r tb spot ∧ stAt s r tb spot < (tb.texts.length : Int) := by
  obtain ⟨c, row, rfl, hc, hr⟩ := hs
  exact g.wlk row _ (g.fst hc).2.1 (g.fst hc).2.2 hr
/-! ### the defs -/
theorem pu_law_fields (K : PySem.W.Frag) (vs : List V) (H : Hp) (Q : VK) (E : XK) (h : sp_law_fields K vs H Q E) : t_law_fields K { nx := fun _ H' => Q .non H', rt := Q } (start N_law_fields vs) H := by
  obtain ⟨p, v, s, r, m, tb, rfl, hp, ⟨q0, b0, l0, t0, rfl, hq0, ⟨b0', rfl, hb0⟩, ⟨l0', xs0, rfl, hl0, hxl, hx0⟩, ⟨t0', rfl, ht0⟩⟩, hn, k⟩ := h
  unfold t_law_fields
  walk_at "rd"
  refine u_ixL (sql hp) (at_i (n := 0) rfl rfl) ?_
  walk_at "rd"
  refine u_ixL (sql hp) (at_i (n := 1) rfl rfl) ?_
  walk_at "rd"
  refine u_ixL (sql hq0) (at_i (n := 0) rfl rfl) ?_
  walk_at "rd"
  refine n_tupL (sql hb0) fun b H1 nb => ?_
  have e1 := nb.2.1
  walk_at "rd"
  refine u_ixL (sql (e1 _ _ hq0)) (at_i (n := 1) rfl rfl) ?_
  walk_at "rd"
  refine u_uC (k := false) (sql (e1 _ _ hl0)) ?_
  refine copies (H0 := H) (b := b) (j := false) (m := true) (xs := xs0) (rows := tb.lines) (tr := fun v H Q => uTuple K [v] H Q) (fun _ => rfl) (fun _ => rfl) (fun v H Q h => ?_) (fun c ns H Q hc hQ => n_tupL (sql hc) hQ) e1 ⟨_, nb.2.2.1⟩ (e1 _ _ hl0) hxl hn (fun i x row a c => (hx0 i x row a c).ex e1) fun l H2 hl e2 L2 => ?_
  · walk_at "rd"
    exact h
  have e02 := e1.trans e2
  obtain ⟨xs, a1, a2, a3, a4⟩ := L2
  walk_at "rd"
  refine n_tupL (sql a1) fun l2 H3 nl => ?_
  have e3 := nl.2.1
  have e03 := e02.trans e3
  walk_at "rd"
  refine u_ixL (sql (e03 _ _ hq0)) (at_i (n := 2) rfl rfl) ?_
  walk_at "rd"
  refine n_tupL (sql (e03 _ _ ht0)) fun t H4 nt => ?_
  have e4 := nt.2.1
  walk_at "rd"
  refine ⟨by show 5 ≤ _; exact szOf (by decide), fun u hu => ?_⟩
  have e5 : Ex H4 (upd H4 u (.tup [sv s, sv r, .ref b, .ref l2, .ref t])) := Ex.new hu
  exact k _ _ ((e03.trans e4).trans e5) ⟨u, .ref b, .ref l2, .ref t, rfl, upd_same, ⟨b, rfl, e5 _ _ (e4 _ _ (e3 _ _ (e2 _ _ nb.2.2.1)))⟩,
    ⟨l2, xs, rfl, e5 _ _ (e4 _ _ nl.2.2.1), a2, fun i x row h1 h2 => (a3 i x row h1 h2).ex ((e3.trans e4).trans e5)⟩, ⟨t, rfl, e5 _ _ nt.2.2.1⟩⟩
theorem u_fld {K : PySem.W.Frag} {σ : L2.St} {H : Hp} {Q : VK} {ta : TE} {f : Str} (h : ta σ H fun x H1 => ∃ a C dx fs v, x = .ref a ∧ H1 a = some (.ins C dx fs) ∧ Cls K C ∧ NoAttr K C f ∧ fs.lookup f = some v ∧ Q v H1) : tFld K ta f σ H Q := h
theorem pu_law_told_fields (K : PySem.W.Frag) (W : WCls K) (vs : List V) (H : Hp) (Q : VK) (E : XK) (h : sp_law_told_fields K vs H Q E) : t_law_told_fields K { nx := fun _ H' => Q .non H', rt := Q } (start N_law_told_fields vs) H := by
  obtain ⟨C, v, s, r, tb, rfl, rfl, ⟨a, dx, b, l, t, d, kvs, R, rfl, ha, hb, hl, ht, _⟩, k⟩ := h
  unfold t_law_told_fields
  walk_at "rd"
  refine u_fld ?_
  walk_at "rd"
  refine ⟨a, _, dx, _, _, rfl, ha, W.cls, W.steps, rfl, ?_⟩
  walk_at "rd"
  refine u_fld ?_
  walk_at "rd"
  refine ⟨a, _, dx, _, _, rfl, ha, W.cls, W.roots, rfl, ?_⟩
  walk_at "rd"
  refine u_fld ?_
  walk_at "rd"
  refine ⟨a, _, dx, _, _, rfl, ha, W.cls, W.starts, rfl, ?_⟩
  walk_at "rd"
  refine u_fld ?_
  walk_at "rd"
  refine ⟨a, _, dx, _, _, rfl, ha, W.cls, W.moves, rfl, ?_⟩
  walk_at "rd"
  refine u_fld ?_
  walk_at "rd"
  refine ⟨a, _, dx, _, _, rfl, ha, W.cls, W.marked, rfl, ?_⟩
  walk_at "rd"
  refine ⟨by show 5 ≤ _; exact szOf (by decide), fun u hu => ?_⟩
  have e5 : Ex H (upd H u (.tup [sv s, sv r, b, l, t])) := Ex.new hu
  exact k _ _ e5 ⟨u, b, l, t, rfl, upd_same, hb.ex e5, hl.ex e5, ht.ex e5⟩
theorem take_foldl {α β : Type} {f : β → α → β} {b : β} {l : List α} {i : Nat} {c : α} (h : l[i]? = some c) : (l.take (i + 1)).foldl f b = f ((l.take i).foldl f b) c := by
  rw [List.take_add_one, h, List.foldl_append] <;> rfl
theorem pu_law_at (K : PySem.W.Frag) (vs : List V) (H : Hp) (Q : VK) (E : XK) (h : sp_law_at K vs H Q E) : t_law_at K { nx := fun _ H' => Q .non H', rt := Q } (start N_law_at vs) H := by
  obtain ⟨v, s, r, tb, spot, rfl, ⟨a, b, l, t, rfl, ha, ⟨b', rfl, hb⟩, ⟨l', xs, rfl, hl, hxl, hx⟩, ht⟩, gs, gt, ⟨c, row, rfl, hc, hr⟩, hlen, k⟩ := h
  rw [List.length_cons] at hlen
  have sl := gs.sl
  unfold t_law_at
  walk_at "rd"
  refine u_ixT (sqt ha) (at_i (n := 2) rfl rfl) ?_
  walk_at "rd"
  refine u_ixT (sqt ha) (at_i (n := 1) rfl rfl) ?_
  refine ⟨rfl, ?_⟩
  walk_at "rd"
  refine u_ixS (szOf (by rw [List.length_cons]; omega)) (at_i (n := 0) rfl rfl) ?_
  walk_at "rd"
  refine u_sindex hc ?_
  obtain ⟨f1, f2, f3⟩ := gt.fst hc
  refine u_ixT (sqt hb) (at_i rfl (mapm f1)) ?_
  walk_at "rd"
  refine u_slS (cutL_from _ (n := 1) rfl) (by rw [List.length_cons]; omega) ?_
  show ForW (Its (S row)) _ _ _ _ _
  refine for_text (z := row) (fun i σ H' => H' = H ∧ ∃ o, σ = [some (.ref a), some (sv (c :: row)), some (.int (wlk s tb.lines (tb.begins.getD (ixs r c) 0) (row.take i))), o]) ⟨rfl, _, rfl⟩ ?_ ?_
  · rintro i d σ H' hi ⟨rfl, o, rfl⟩
    have hd : d ∈ s := hr d (List.mem_of_getElem? hi)
    obtain ⟨w1, w2⟩ := gt.wlk (row.take i) _ f2 f3 fun e he => hr e (List.mem_of_mem_take he)
    have es : wlk s tb.lines (tb.begins.getD (ixs r c) 0) (row.take (i + 1)) = stp s tb.lines (wlk s tb.lines (tb.begins.getD (ixs r c) 0) (row.take i)) d := take_foldl hi
    rw [es]
    generalize wlk s tb.lines (tb.begins.getD (ixs r c) 0) (row.take i) = n at w1 w2
    obtain ⟨g1, g2⟩ := gt.row w1 w2
    obtain ⟨q1, q2, q3⟩ := gt.stp w1 w2 hd
    have ll := gt.llen
    have hxi := List.getElem?_eq_getElem (l := xs) (i := n.toNat) (by omega)
    generalize xs[n.toNat]'(by omega) = x at hxi
    obtain ⟨c2, rfl, hc2⟩ := hx _ _ _ hxi g1
    walk_at "rd"
    refine u_ixT (sqt ha) (at_i (n := 3) rfl rfl) ?_
    walk_at "rd"
    refine u_ixT (sqt hl) (at_i (n := n.toNat) (by omega) hxi) ?_
    walk_at "rd"
    refine u_ixT (sqt ha) (at_i (n := 0) rfl rfl) ?_
    refine ⟨rfl, ?_⟩
    walk_at "rd"
    refine u_sindex hd ?_
    refine u_ixT (sqt hc2) (at_i rfl (mapm q1)) ?_
    walk_at "rd"
    exact ⟨rfl, _, rfl⟩
  · rintro σ H' ⟨rfl, o, rfl⟩
    walk_at "rd"
    rw [List.take_of_length_le (Nat.le_refl _)]
    exact k

end K39
set_option Elab.async false
set_option linter.all false
set_option maxRecDepth 100000
set_option maxHeartbeats 2000000
namespace K39
open PySem L2 Uni
local macro_rules | `(tactic| walk_at "rd") => `(tactic| (repeat (first
  | (with_reducible refine u_var (by with_unfolding_all exact rfl) ?_) | (with_reducible refine u_seq ?_) | (with_reducible refine u_asg ?_) | (with_reducible refine u_gname ?_) | (with_reducible refine u_drop ?_) | (with_reducible refine u_ret ?_) | (with_reducible refine u_retN ?_) | (with_reducible refine u_next ?_) | (with_reducible refine u_break ?_) | (with_reducible refine u_cont ?_) | (with_reducible refine u_if ?_) | (with_reducible refine u_c ?_) | (with_reducible refine u_op ?_) | (with_reducible refine u_un ?_) | (with_reducible refine u_test ?_) | (with_reducible refine u_tb ?_) | (with_reducible refine u_bl ?_) | (with_reducible refine u_not ?_) | (with_reducible refine u_and ?_) | (with_reducible refine u_or ?_) | (with_reducible refine u_chain ?_) | (with_reducible refine u_ifE ?_) | (with_reducible refine u_andV ?_) | (with_reducible refine u_orV ?_) | (with_reducible refine u_notV ?_) | (with_reducible refine u_blE ?_) | (with_reducible refine u_nil ?_) | (with_reducible refine u_cons ?_) | (with_reducible refine u_tup ?_) | (with_reducible refine u_lst ?_) | (with_reducible refine u_cb ?_) | (with_reducible refine u_call ?_) | (with_reducible refine u_bm ?_) | (with_reducible refine u_bm0 ?_) | (with_reducible refine u_m1 ?_) | (with_reducible refine u_sl ?_) | (with_reducible refine u_nopart ?_) | (with_reducible refine u_part ?_) | (with_reducible refine u_int ?_) | (with_reducible refine u_yes ?_) | (with_reducible refine u_add ?_) | (with_reducible refine u_sub ?_) | (with_reducible refine u_neg ?_) | (with_reducible refine u_le ?_) | (with_reducible refine u_gt ?_) | (with_reducible refine u_ge ?_) | (with_reducible refine u_lt ?_) | (with_reducible refine u_ltS ?_) | (with_reducible refine u_eqI ?_) | (with_reducible refine u_neI ?_) | (with_reducible refine u_eqS ?_) | (with_reducible refine u_neS ?_) | (with_reducible refine u_eqB ?_) | (with_reducible refine u_neB ?_) | (with_reducible refine u_inS ?_) | (with_reducible refine u_ninS ?_) | (with_reducible refine u_intI ?_) | (with_reducible refine u_intB ?_) | (with_reducible refine u_for ?_) | (with_reducible refine u_iR1 ?_) | (with_reducible refine u_iR2 ?_) | (with_reducible refine u_uni ?_) | (with_reducible refine u_lc ?_)
  | (with_reducible refine iteT ?_) | (with_reducible refine iteF ?_) | (with_reducible refine iteNT ?_) | (with_reducible refine iteNF ?_))))
theorem mem_snoc {α : Type} {P : α → Prop} {l : List α} {a : α} (h : ∀ x ∈ l, P x) (ha : P a) : ∀ x ∈ l ++ [a], P x := fun x hx => by
  rcases List.mem_append.mp hx with hx | hx
  · exact h x hx
  · rw [List.mem_singleton.mp hx]; exact ha
theorem mem_app {α : Type} {P : α → Prop} {l m : List α} (h : ∀ x ∈ l, P x) (h' : ∀ x ∈ m, P x) : ∀ x ∈ l ++ m, P x := fun x hx => by
  rcases List.mem_append.mp hx with hx | hx
  · exact h x hx
  · exact h' x hx
theorem Spot.snoc {s r p : List Nat} {c : Nat} (h : Spot s r p) (hc : c ∈ s) : Spot s r (p ++ [c]) := by
  obtain ⟨d, row, rfl, hd, hr⟩ := h
  exact ⟨d, row ++ [c], rfl, hd, mem_snoc hr hc⟩
theorem pu_law_places (K : PySem.W.Frag) (vs : List V) (H : Hp) (Q : VK) (E : XK) (h : sp_law_places K vs H Q E) : t_law_places K { nx := fun _ H' => Q .non H', rt := Q } (start N_law_places vs) H := by
  obtain ⟨v, s, r, tb, n, rfl, ⟨a, b, l, t, rfl, ha, _⟩, gs, hn, k⟩ := h
  have sl := gs.sl
  have e1 : (r.map fun c => sv [c]) = (r.map fun c => [c]).map sv := by rw [List.map_map] <;> rfl
  have p1 : ∀ p ∈ r.map (fun c => [c]), Spot s r p ∧ p.length ≤ 0 + 1 := fun p hp => by
    obtain ⟨c, hc, rfl⟩ := List.mem_map.mp hp
    exact ⟨⟨c, [], rfl, hc, fun _ h => nomatch h⟩, Nat.le_refl _⟩
  unfold t_law_places
  walk_at "rd"
  refine u_ixT (sqt ha) (at_i (n := 1) rfl rfl) ?_
  walk_at "rd"
  refine n_listS (szOf (by omega)) fun f H1 nf => ?_
  rw [e1] at nf
  walk_at "rd"
  refine u_ixT (sqt (nf.2.1 _ _ ha)) (at_i (n := 1) rfl rfl) ?_
  walk_at "rd"
  refine n_listS (szOf (by omega)) fun l1 H2 nl => ?_
  rw [e1] at nl
  walk_at "rd"
  refine ⟨n, rfl, by omega, by omega, ?_⟩
  refine for_r0 (n := n) (by omega) (fun i σ H' => ∃ (f l : Addr) (F L : List (List Nat)) (o4 o5 o6 o7 : Option V), σ = [some (.ref a), some (.int n), some (.ref f), some (.ref l), o4, o5, o6, o7] ∧ Ex H H' ∧ H f = none ∧
    H' f = some (.lst (F.map sv)) ∧ H' l = some (.lst (L.map sv)) ∧ (∀ p ∈ F, Spot s r p ∧ p.length ≤ i + 1) ∧ (∀ p ∈ L, Spot s r p ∧ p.length ≤ i + 1) ∧ L.length ≤ F.length ∧ F.length ≤ 3 * 4 ^ i)
    ⟨f, l1, _, _, _, _, _, _, rfl, nf.2.1.trans nl.2.1, nf.1, nl.2.1 _ _ nf.2.2.1, nl.2.2.1, p1, p1, Nat.le_refl _, by rw [List.length_map]; omega⟩ ?_ ?_
  · rintro i σ H' hi ⟨f, l, F, L, o4, o5, o6, o7, rfl, e, hf0, hf, hl, pF, pL, c1, c2⟩
    have c3 : (4 : Nat) ^ i ≤ 16 := by
      have : i = 0 ∨ i = 1 ∨ i = 2 := by omega
      rcases this with rfl | rfl | rfl <;> decide
    walk_at "rd"
    refine ⟨by decide, fun g hg => ?_⟩
    walk_at "rd"
    have eg := Ex.new (o := .lst []) hg
    refine u_uF (k := false) (sql (eg _ _ hl)) ?_
    refine for_k (xs := L.map sv) (fun j σ H'' => ∃ (g : Addr) (G : List (List Nat)) (o4 o6 o7 : Option V), σ = [some (.ref a), some (.int n), some (.ref f), some (.ref l), o4, some (.ref g), o6, o7] ∧ Ex H' H'' ∧ H g = none ∧
      H'' g = some (.lst (G.map sv)) ∧ (∀ p ∈ G, Spot s r p ∧ p.length ≤ i + 1 + 1) ∧ G.length ≤ 3 * j) ⟨g, [], _, _, _, rfl, eg, e.free hg, upd_same, fun _ h => (nomatch h), Nat.zero_le _⟩ (fun j σ H'' _ ⟨_, _, _, _, _, _, e', _⟩ => sql (e' _ _ hl)) ?_ ?_
    · rintro j x σ H'' hx ⟨g, G, o4, o6, o7, rfl, e', hg0, hgG, pG, cG⟩
      obtain ⟨p, hp, rfl⟩ := getm hx
      have pp := pL p (List.mem_of_getElem? hp)
      have hj := (List.getElem?_eq_some_iff.mp hp).1
      walk_at "rd"
      refine u_ixT (sqt (e' _ _ (e _ _ ha))) (at_i (n := 0) rfl rfl) ?_
      show ∀ D, H'' D = none → LcW (Its (S s)) _ _ _ _ _ _ _ D
      refine lc_map walk_tX (fun _ _ => trivial) (szLt (by omega)) (fun D j y H => ∃ c, s[j]? = some c ∧ y = sv (p ++ [c])) (fun _ _ _ _ _ _ h => h) ?_ ?_
      · rintro D m x H3 hm ⟨c, hc, rfl⟩ hD hacc e3 N N' hN
        walk_at "rd"
        refine ⟨rfl, ?_⟩
        walk_at "rd"
        exact u_addS (szOf (by rw [List.length_singleton]; omega)) (hN _ _ (Ex.refl _) ⟨c, hc, rfl⟩)
      · intro D ys H3 hD hDy e3 hl3 hy
        have hys : ∃ ts : List (List Nat), ys = ts.map sv ∧ (∀ t ∈ ts, Spot s r t ∧ t.length ≤ i + 1 + 1) := by
          refine ⟨s.map fun c => p ++ [c], List.ext_getElem? fun m => ?_, fun t ht => ?_⟩
          · by_cases hm : m < s.length
            · obtain ⟨c, hc, ey⟩ := hy m (ys[m]'(by omega)) (List.getElem?_eq_getElem _)
              rw [List.getElem?_eq_getElem (by omega), ey, List.getElem?_map, List.getElem?_map, hc] <;> rfl
            · rw [List.getElem?_eq_none (by omega), List.getElem?_eq_none (by rw [List.length_map, List.length_map]; omega)]
          · obtain ⟨c, hc, rfl⟩ := List.mem_map.mp ht
            exact ⟨pp.1.snoc hc, by rw [List.length_append, List.length_singleton]; omega⟩
        obtain ⟨ts, rfl, pts⟩ := hys
        rw [List.length_map] at hl3
        refine n_addL (e3 _ _ hgG) hDy (szOf (by rw [List.length_map, List.length_map]; omega)) fun g2 H4 n4 => ?_
        walk_at "rd"
        have e4 := n4.2.1
        refine ⟨g2, G ++ ts, _, _, _, rfl, (e'.trans e3).trans e4, e.free (e'.free (e3.free n4.1)), by rw [List.map_append]; exact n4.2.2.1, mem_app pG pts, by rw [List.length_append]; omega⟩
    · rintro σ H'' ⟨g, G, o4, o6, o7, rfl, e', hg0, hgG, pG, cG⟩
      rw [List.length_map] at cG
      walk_at "rd"
      refine n_addL (e' _ _ hf) hgG (szOf (by rw [List.length_map, List.length_map]; omega)) fun f2 H3 n3 => ?_
      walk_at "rd"
      have e3 := n3.2.1
      refine ⟨f2, g, F ++ G, G, _, _, _, _, rfl, (e.trans e').trans e3, e.free (e'.free n3.1), by rw [List.map_append]; exact n3.2.2.1, e3 _ _ hgG, ?_, pG, by rw [List.length_append]; omega, by rw [List.length_append, Nat.pow_succ]; omega⟩
      exact mem_app (fun p hp => ⟨(pF p hp).1, by have := (pF p hp).2; omega⟩) pG
  · rintro σ H' ⟨f, l, F, L, o4, o5, o6, o7, rfl, e, hf0, hf, hl, pF, pL, c1, c2⟩
    have c3 : (4 : Nat) ^ n ≤ 64 := by
      have : n = 0 ∨ n = 1 ∨ n = 2 ∨ n = 3 := by omega
      rcases this with rfl | rfl | rfl | rfl <;> decide
    walk_at "rd"
    exact k f F H' e hf0 hf (fun p hp => ⟨(pF p hp).1, by have := (pF p hp).2; omega⟩) (by omega)
/-! ### the reached states -/
/-- found O, waiting P: order at o, known at d -/
structure RI (tb : Tb) (d o : Addr) (H0 : Hp) (O P : List Int) (H : Hp) : Prop where
  e : Ex H0 H
  k : ∃ kvs, H d = some (.dK kvs) ∧ kvs.map (·.1) = O.map Sum.inl ∧ kvs.length = O.length
  o : H o = some (.lst (O.map V.int))
  nd : O.Nodup
  bd : ∀ n ∈ O, 0 ≤ n ∧ n < (tb.texts.length : Int)
  q : ∀ R, Qu tb.lines O P R → Qu tb.lines [] tb.begins R
theorem RI.few {tb : Tb} {d o : Addr} {H0 H : Hp} {O P : List Int} {ns nr : Nat} (g : GoodTb ns nr tb) (h : RI tb d o H0 O P H) : O.length ≤ 400 := Nat.le_trans (few_of h.nd h.bd) g.few
theorem reach_step {K : PySem.W.Frag} {tb : Tb} {ns nr : Nat} (g : GoodTb ns nr tb) {d o : Addr} {H0 H : Hp} {O P : List Int} {n : Int} {D : Ends} {x4 v0 : Option V} (h0 : 0 ≤ n) (h1 : n < (tb.texts.length : Int)) (hd0 : H0 d = none) (ho0 : H0 o = none) (hdo : d ≠ o)
    (h : RI tb d o H0 O (n :: P) H) (q : ∀ Y H', RI tb d o H0 (O ++ Y) (P ++ Y.flatMap (targets tb.lines)) H' → D.nx [v0, some (.ref d), some (.ref o), some (.int n), x4] H') :
    (tIfS (tB (tDNotIn (tVar 3) (tVar 1))) (tSeq (sDPut (tVar 1) (tVar 3) (tC (.bl true))) (tDrop (tBM K "list" rAppend (tVar 2) (tCons (tVar 3) tNil)))) tNext) D [v0, some (.ref d), some (.ref o), some (.int n), x4] H := by
  have few := h.few g
  obtain ⟨e, ⟨kvs, hk, ek, lk⟩, ho, nd, bd, qu⟩ := h
  walk_at "rd"
  refine u_dnin ?_
  walk_at "rd"
  refine ⟨d, _, rfl, DGet.k (k := Sum.inl n) hk, ?_⟩
  rw [val_key ek]
  walk_at "rd"
  refine iteND (fun hn => ?_) (fun hn => ?_)
  · walk_at "rd"
    refine u_dput ?_
    walk_at "rd"
    refine ⟨d, _, rfl, DPut.k (k := Sum.inl n) hk (szLt (by omega)), ?_⟩
    rw [put_new ek hn]
    walk_at "rd"
    refine u_tyL (sql (off (Ne.symm hdo) ho)) ?_
    walk_at "rd"
    refine u_append (off (Ne.symm hdo) ho) (szLt (by rw [List.length_map]; omega)) ?_
    walk_at "rd"
    refine q [n] _ ⟨(e.mut hd0).mut ho0, ⟨_, off hdo upd_same, keys_snoc ek n _, by rw [List.length_append, List.length_append, lk] <;> rfl⟩, by rw [List.map_append]; exact upd_same, ?_, mem_snoc bd ⟨h0, h1⟩, fun R hR => qu R (.new hn ?_)⟩
    · rw [List.nodup_append]
      exact ⟨nd, by simp, fun a ha b hb => by rw [List.mem_singleton.mp hb]; exact fun z => hn (z ▸ ha)⟩
    · simpa using hR
  · walk_at "rd"
    refine q [] _ ⟨e, ⟨kvs, hk, by rw [List.append_nil]; exact ek, by rw [List.append_nil]; exact lk⟩, by rw [List.append_nil]; exact ho, by rw [List.append_nil]; exact nd, by rw [List.append_nil]; exact bd, fun R hR => qu R (.skip hn ?_)⟩
    simpa using hR
theorem pu_law_reached (K : PySem.W.Frag) (vs : List V) (H : Hp) (Q : VK) (E : XK) (h : sp_law_reached K vs H Q E) : t_law_reached K { nx := fun _ H' => Q .non H', rt := Q } (start N_law_reached vs) H := by
  obtain ⟨v, s, r, tb, rfl, ⟨a, b, l, t, rfl, ha, ⟨b', rfl, hb⟩, ⟨l', xs, rfl, hl, hxl, hx⟩, ht⟩, gt, k⟩ := h
  unfold t_law_reached
  walk_at "rd"
  refine u_dnew fun d hd => ?_
  walk_at "rd"
  refine ⟨by decide, fun o ho => ?_⟩
  have e1 := Ex.new (o := .dK []) hd
  have hdo : d ≠ o := fun z => by rw [← z, upd_same] at ho; cases ho
  have ho0 := e1.free ho
  have e2 := Ex.new (o := .lst []) ho
  have e02 := e1.trans e2
  walk_at "rd"
  refine u_ixT (sqt (e02 _ _ ha)) (at_i (n := 2) rfl rfl) ?_
  refine u_uF (k := true) (sqt (e02 _ _ hb)) ?_
  refine for_k (xs := tb.begins.map V.int) (fun i σ H' => ∃ (O : List Int) (x3 x4 : Option V), σ = [some (.ref a), some (.ref d), some (.ref o), x3, x4] ∧ RI tb d o H O (tb.begins.drop i ++ O.flatMap (targets tb.lines)) H')
    ⟨[], _, _, rfl, e02, ⟨[], e2 _ _ upd_same, rfl, rfl⟩, upd_same, List.Pairwise.nil, fun _ h => (nomatch h), fun R hR => by simpa using hR⟩ (fun i σ H' _ ⟨_, _, _, _, ri⟩ => sqt (ri.e _ _ hb)) ?_ ?_
  · rintro i x σ H' hi ⟨O, x3, x4, rfl, ri⟩
    obtain ⟨n, hn, rfl⟩ := getm hi
    have bn := okStates_mem gt.beg (List.mem_of_getElem? hn)
    walk_at "rd"
    have ed : tb.begins.drop i = n :: tb.begins.drop (i + 1) := by
      rw [List.drop_eq_getElem_cons (List.getElem?_eq_some_iff.mp hn).1, (List.getElem?_eq_some_iff.mp hn).2]
    rw [ed, List.cons_append] at ri
    refine reach_step gt bn.1 bn.2 hd ho0 hdo ri fun Y H2 r2 => ⟨O ++ Y, _, _, rfl, ?_⟩
    rw [List.flatMap_append, ← List.append_assoc]
    exact r2
  · rintro σ H' ⟨O, x3, x4, rfl, ri⟩
    rw [List.length_map, List.drop_length, List.nil_append] at ri
    have fin : ∀ (i : Nat) (O : List Int) (H' : Hp), RI tb d o H O ((O.drop i).flatMap (targets tb.lines)) H' → O.length ≤ i → uTuple K [V.ref o] H' Q := by
      intro i O H' ri hO
      rw [List.drop_eq_nil_of_le hO] at ri
      refine n_tupL (sql ri.o) fun p H2 n2 => ?_
      exact k p O H2 (ri.e.trans n2.2.1) n2.2.2.1 (ri.q _ (.done _)) (ri.few gt)
    walk_at "rd"
    refine ⟨_, rfl, by decide, by decide, ?_⟩
    refine for_r0 (n := 1000) (by decide) (fun i σ H' => ∃ (O : List Int) (x3 x4 : Option V), σ = [some (.ref a), some (.ref d), some (.ref o), x3, x4] ∧ RI tb d o H O ((O.drop i).flatMap (targets tb.lines)) H') ⟨O, _, _, rfl, ri⟩ ?_ ?_
    · rintro i σ H' hi ⟨O, x3, x4, rfl, ri⟩
      walk_at "rd"
      refine u_lenL (sql ri.o) ?_
      walk_at "rd"
      refine iteD (fun hge => ?_) (fun hge => ?_)
      · walk_at "rd"
        rw [List.length_map] at hge
        exact fin i O H' ri (by omega)
      · rw [List.length_map] at hge
        have hi2 : i < O.length := by omega
        have hOi := List.getElem?_eq_getElem hi2
        have bn := ri.bd _ (List.getElem_mem hi2)
        have ed : O.drop i = O[i] :: O.drop (i + 1) := List.drop_eq_getElem_cons hi2
        rw [ed, List.flatMap_cons] at ri
        generalize O[i] = n at hOi bn ri
        obtain ⟨g1, g2⟩ := gt.row bn.1 bn.2
        have ll := gt.llen
        have hxi := List.getElem?_eq_getElem (l := xs) (i := n.toNat) (by omega)
        generalize xs[n.toNat]'(by omega) = x at hxi
        obtain ⟨c2, rfl, hc2⟩ := hx _ _ _ hxi g1
        walk_at "rd"
        refine u_ixT (sqt (ri.e _ _ ha)) (at_i (n := 3) rfl rfl) ?_
        walk_at "rd"
        refine u_ixL (sql ri.o) (at_i rfl (mapm hOi)) ?_
        refine u_ixT (sqt (ri.e _ _ hl)) (at_i (n := n.toNat) (by omega) hxi) ?_
        refine u_uF (k := true) (sqt (ri.e _ _ hc2)) ?_
        refine for_k (xs := (targets tb.lines n).map V.int) (fun j σ H' => ∃ (O : List Int) (x3 x4 : Option V), σ = [some (.ref a), some (.ref d), some (.ref o), x3, x4] ∧ i < O.length ∧ RI tb d o H O ((targets tb.lines n).drop j ++ (O.drop (i + 1)).flatMap (targets tb.lines)) H')
          ⟨O, _, _, rfl, hi2, ri⟩ (fun i σ H' _ ⟨_, _, _, _, _, ri⟩ => sqt (ri.e _ _ hc2)) ?_ ?_
        · rintro j x σ H' hj ⟨O, x3, x4, rfl, hi2, ri⟩
          obtain ⟨m, hm, rfl⟩ := getm hj
          have bm := okStates_mem g2 (List.mem_of_getElem? hm)
          walk_at "rd"
          have ed : (targets tb.lines n).drop j = m :: (targets tb.lines n).drop (j + 1) := by
            rw [List.drop_eq_getElem_cons (List.getElem?_eq_some_iff.mp hm).1, (List.getElem?_eq_some_iff.mp hm).2]
          rw [ed, List.cons_append] at ri
          refine reach_step gt bm.1 bm.2 hd ho0 hdo ri fun Y H2 r2 => ⟨O ++ Y, _, _, rfl, by rw [List.length_append]; omega, ?_⟩
          rw [List.drop_append_of_le_length (by omega), List.flatMap_append, ← List.append_assoc]
          exact r2
        · rintro σ H' ⟨O, x3, x4, rfl, hi2, ri⟩
          rw [List.length_map, List.drop_length, List.nil_append] at ri
          exact ⟨O, _, _, rfl, ri⟩
    · rintro σ H' ⟨O, x3, x4, rfl, ri⟩
      walk_at "rd"
      exact fin 1000 O H' ri (by have := ri.few gt; omega)

end K39
set_option Elab.async false
set_option linter.all false
set_option maxRecDepth 100000
set_option maxHeartbeats 2000000
namespace K39
open PySem L2 Uni
local macro_rules | `(tactic| walk_at "rd") => `(tactic| (repeat (first
  | (with_reducible refine u_var (by with_unfolding_all exact rfl) ?_) | (with_reducible refine u_seq ?_) | (with_reducible refine u_asg ?_) | (with_reducible refine u_gname ?_) | (with_reducible refine u_drop ?_) | (with_reducible refine u_ret ?_) | (with_reducible refine u_retN ?_) | (with_reducible refine u_next ?_) | (with_reducible refine u_break ?_) | (with_reducible refine u_cont ?_) | (with_reducible refine u_if ?_) | (with_reducible refine u_c ?_) | (with_reducible refine u_op ?_) | (with_reducible refine u_un ?_) | (with_reducible refine u_test ?_) | (with_reducible refine u_tb ?_) | (with_reducible refine u_bl ?_) | (with_reducible refine u_not ?_) | (with_reducible refine u_and ?_) | (with_reducible refine u_or ?_) | (with_reducible refine u_chain ?_) | (with_reducible refine u_ifE ?_) | (with_reducible refine u_andV ?_) | (with_reducible refine u_orV ?_) | (with_reducible refine u_notV ?_) | (with_reducible refine u_blE ?_) | (with_reducible refine u_nil ?_) | (with_reducible refine u_cons ?_) | (with_reducible refine u_tup ?_) | (with_reducible refine u_lst ?_) | (with_reducible refine u_cb ?_) | (with_reducible refine u_call ?_) | (with_reducible refine u_bm ?_) | (with_reducible refine u_bm0 ?_) | (with_reducible refine u_m1 ?_) | (with_reducible refine u_sl ?_) | (with_reducible refine u_nopart ?_) | (with_reducible refine u_part ?_) | (with_reducible refine u_int ?_) | (with_reducible refine u_yes ?_) | (with_reducible refine u_add ?_) | (with_reducible refine u_sub ?_) | (with_reducible refine u_neg ?_) | (with_reducible refine u_le ?_) | (with_reducible refine u_gt ?_) | (with_reducible refine u_ge ?_) | (with_reducible refine u_lt ?_) | (with_reducible refine u_ltS ?_) | (with_reducible refine u_eqI ?_) | (with_reducible refine u_neI ?_) | (with_reducible refine u_eqS ?_) | (with_reducible refine u_neS ?_) | (with_reducible refine u_eqB ?_) | (with_reducible refine u_neB ?_) | (with_reducible refine u_inS ?_) | (with_reducible refine u_ninS ?_) | (with_reducible refine u_intI ?_) | (with_reducible refine u_intB ?_) | (with_reducible refine u_for ?_) | (with_reducible refine u_iR1 ?_) | (with_reducible refine u_iR2 ?_) | (with_reducible refine u_uni ?_) | (with_reducible refine u_lc ?_)
  | (with_reducible refine iteT ?_) | (with_reducible refine iteF ?_) | (with_reducible refine iteNT ?_) | (with_reducible refine iteNF ?_))))
theorem u_while {c : TT} {tb : TS} {D : Ends} {σ : L2.St} {H : Hp} (W : Nat → L2.St → Hp → Prop) (m0 : Nat) (h0 : W m0 σ H) (h : ∀ m σ H, W m σ H → c σ H fun b H1 => if b = true then ∃ N : L2.St → Hp → Prop, (∀ σ' H', N σ' H' → ∃ m', m' < m ∧ W m' σ' H') ∧ tb { D with nx := N, ct := N, bk := D.nx } σ H1 else D.nx σ H1) : tWhile c tb D σ H := ⟨W, ⟨m0, h0⟩, h⟩
/-- found F at d, waiting W at w -/
structure LI (tb : Tb) (d w : Addr) (H0 : Hp) (F : List Int) (W : List (Int × List Nat)) (P : List Int) (H : Hp) : Prop where
  e : Ex H0 H
  k : ∃ kvs, H d = some (.dK kvs) ∧ kvs.map (·.1) = F.map Sum.inl ∧ kvs.length = F.length
  w : ∃ xs, H w = some (.lst xs) ∧ Items H xs W
  nd : F.Nodup
  bd : ∀ n ∈ F, 0 ≤ n ∧ n < (tb.texts.length : Int)
  wb : ∀ it ∈ W, (0 ≤ it.1 ∧ it.1 < (tb.texts.length : Int)) ∧ it.2.length ≤ F.length + 1
  q : ∀ R, Qu tb.lines F (W.map (·.1) ++ P) R → Qu tb.lines [] tb.begins R
theorem few2 {tb : Tb} {ns nr : Nat} {F : List Int} (g : GoodTb ns nr tb) (nd : F.Nodup) (bd : ∀ n ∈ F, 0 ≤ n ∧ n < (tb.texts.length : Int)) : F.length ≤ 400 := Nat.le_trans (few_of nd bd) g.few
theorem zip_fst {ns : List Int} {zs : List Nat} {f : Nat → List Nat} (h : ns.length = zs.length) : ((ns.zip zs).map fun q => (q.1, f q.2)).map (·.1) = ns := by
  rw [List.map_map]
  have : ((fun x : Int × List Nat => x.1) ∘ fun q : Int × Nat => (q.1, f q.2)) = Prod.fst := rfl
  rw [this, List.map_fst_zip (by omega)]
theorem mem_zipf {ns : List Int} {zs : List Nat} {f : Nat → List Nat} {it : Int × List Nat} (h : it ∈ (ns.zip zs).map fun q => (q.1, f q.2)) : it.1 ∈ ns ∧ ∃ c ∈ zs, it.2 = f c := by
  obtain ⟨⟨a, b⟩, hq, rfl⟩ := List.mem_map.mp h
  have := List.of_mem_zip hq
  exact ⟨this.1, b, this.2, rfl⟩
theorem u_zipS {K : PySem.W.Frag} {ta : TA} {σ : L2.St} {H : Hp} {R : It → Hp → Prop} (h : ta σ H fun vs H1 => ∃ a zs xs, vs = [.ref a, sv zs] ∧ SqT K H1 a xs ∧ R (ItzS K a zs) H1) : iZipS K ta σ H R := h
theorem pu_least_places_of (K : PySem.W.Frag) (vs : List V) (H : Hp) (Q : VK) (E : XK) (h : sp_least_places_of K vs H Q E) : t_least_places_of K { nx := fun _ H' => Q .non H', rt := Q } (start N_least_places_of vs) H := by
  obtain ⟨b, l, s, r, tb, rfl, ⟨b', rfl, hb⟩, ⟨l', xl, rfl, hl, hxl, hx⟩, gs, gt, k⟩ := h
  have sl := gs.sl
  have ll := gt.llen
  unfold t_least_places_of
  walk_at "rd"
  refine u_dnew fun d hd => ?_
  walk_at "rd"
  have e1 := Ex.new (o := .dK []) hd
  refine u_zipS ?_
  walk_at "rd"
  refine ⟨b', r, tb.begins.map V.int, rfl, sqt (e1 _ _ hb), ?_⟩
  refine zip_pairs (f := fun c => [c]) (e1 _ _ hb) (fun _ _ => rfl) (fun n c H R hc hR => ?_) (by omega) ?_
  · walk_at "rd"
    exact ⟨by show 2 ≤ _; exact szOf (by decide), fun p hp => hR p _ (.mk hp)⟩
  intro w0 x0 H2 hw0 e2 hw it0
  walk_at "rd"
  have bl := okStates_len gt.beg
  refine u_while (fun m σ H' => ∃ (F : List Int) (W : List (Int × List Nat)) (w : Addr) (o6 o7 o8 o9 o10 o11 o12 : Option V), m = 2 * (401 - F.length) + (if W = [] then 0 else 1) ∧
    σ = [some (sv s), some (sv r), some (.ref b'), some (.ref l'), some (.ref d), some (.ref w), o6, o7, o8, o9, o10, o11, o12] ∧ LI tb d w H F W [] H') _ ⟨[], (tb.begins.zip r).map (fun q => (q.1, [q.2])), w0, _, _, _, _, _, _, _, rfl, rfl, ?_⟩ ?_
  · refine ⟨e1.trans e2, ⟨[], e2 _ _ upd_same, rfl, rfl⟩, ⟨x0, hw, it0⟩, List.Pairwise.nil, fun _ h => (nomatch h), fun it hi => ?_, fun R hR => ?_⟩
    · obtain ⟨h1, c, hc, h2⟩ := mem_zipf (f := fun c => [c]) hi
      rw [h2]
      exact ⟨okStates_mem gt.beg h1, by simp⟩
    · rw [List.append_nil, zip_fst (f := fun c => [c]) (by omega)] at hR
      exact hR
  · rintro m σ H3 ⟨F, W, w, o6, o7, o8, o9, o10, o11, o12, rfl, rfl, e, ⟨kvs, hk, ek, lk⟩, ⟨xs, hw, it⟩, nd, bd, wb, qu⟩
    refine u_tru (k := true) ?_
    walk_at "rd"
    refine ⟨!xs.isEmpty, Or.inl ⟨xs, sql hw, rfl⟩, ?_⟩
    have ex : xs.isEmpty = W.isEmpty := by
      have := it.1
      cases xs <;> cases W <;> simp_all
    rw [ex]
    rw [List.append_nil] at qu
    refine iteNB (fun hW => ?_) (fun hW => ?_)
    · have hW : W ≠ [] := fun z => by rw [z] at hW; cases hW
      refine ⟨_, fun σ' H' h => h, ?_⟩
      rw [if_neg hW]
      walk_at "rd"
      refine ⟨by decide, fun g hg => ?_⟩
      walk_at "rd"
      have eg := Ex.new (o := .lst []) hg
      have hdw : w ≠ g := ne_of_none hw hg
      refine u_uF (k := false) (sql (eg _ _ hw)) ?_
      refine for_k (xs := xs) (fun i σ H' => ∃ (F' : List Int) (L : List (Int × List Nat)) (kvs : List (Key × V)) (ys : List V) (o7 o8 o9 o10 o11 o12 : Option V),
        σ = [some (sv s), some (sv r), some (.ref b'), some (.ref l'), some (.ref d), some (.ref w), some (.ref g), o7, o8, o9, o10, o11, o12] ∧ Ex H H' ∧ H' w = some (.lst xs) ∧ Items H' xs W ∧
        H' d = some (.dK kvs) ∧ kvs.map (·.1) = F'.map Sum.inl ∧ kvs.length = F'.length ∧ H' g = some (.lst ys) ∧ Items H' ys L ∧ F'.Nodup ∧ (∀ n ∈ F', 0 ≤ n ∧ n < (tb.texts.length : Int)) ∧ F.length ≤ F'.length ∧ (F.length < F'.length ∨ L = []) ∧
        (∀ it ∈ L, (0 ≤ it.1 ∧ it.1 < (tb.texts.length : Int)) ∧ it.2.length ≤ F'.length + 1) ∧ L.length ≤ 3 * F'.length ∧ (∀ R, Qu tb.lines F' ((W.drop i).map (·.1) ++ L.map (·.1)) R → Qu tb.lines [] tb.begins R))
        ⟨F, [], kvs, [], _, _, _, _, _, _, rfl, e.trans eg, eg _ _ hw, it.tk (TK.of eg), eg _ _ hk, ek, lk, upd_same, Items.nil, nd, bd, Nat.le_refl _, Or.inr rfl, fun _ h => (nomatch h), Nat.zero_le _, fun R hR => qu R (by simpa using hR)⟩
        (fun i σ H' _ ⟨_, _, _, _, _, _, _, _, _, _, _, _, hw, _⟩ => sql hw) ?_ ?_
      · rintro i x σ H' hi ⟨F', L, kvs, ys, o7, o8, o9, o10, o11, o12, rfl, e', hw, it, hk, ek, lk, hg', itL, nd, bd, c1, c2, lb, c3, qu⟩
        have few := few2 gt nd bd
        have hiW : i < W.length := by rw [← it.1]; exact (List.getElem?_eq_some_iff.mp hi).1
        have hWi := List.getElem?_eq_getElem hiW
        have ed : W.drop i = W[i] :: W.drop (i + 1) := List.drop_eq_getElem_cons hiW
        obtain ⟨bn, bl2⟩ := wb _ (List.getElem_mem hiW)
        generalize W[i] = q at hWi ed bn bl2
        obtain ⟨n, p⟩ := q
        obtain ⟨T, rfl, hT⟩ := it.2 i x _ hi hWi
        rw [ed, List.map_cons, List.cons_append] at qu
        refine ⟨T, [.int n, sv p], rfl, sqt hT, rfl, .int n, [sv p], rfl, ?_⟩
        refine ⟨sv p, [], rfl, rfl, ?_⟩
        walk_at "rd"
        refine u_dnin ?_
        walk_at "rd"
        refine ⟨d, _, rfl, DGet.k (k := Sum.inl n) hk, ?_⟩
        rw [val_key ek]
        walk_at "rd"
        refine iteND (fun hn => ?_) (fun hn => ?_)
        · walk_at "rd"
          refine u_dput ?_
          walk_at "rd"
          refine ⟨d, _, rfl, DPut.k (k := Sum.inl n) hk (szLt (by omega)), ?_⟩
          rw [put_new ek hn]
          have ngd : g ≠ d := fun z => by rw [z, hk] at hg'; cases hg'
          have nwd : w ≠ d := fun z => by rw [z, hk] at hw; cases hw
          have tk1 : TK H' (upd H' d (.dK (kvs ++ [((Sum.inl n : Key), sv p)]))) := TK.dk hk
          have hg2 := off ngd hg' (o := .dK (kvs ++ [((Sum.inl n : Key), sv p)]))
          have hw2 := off nwd hw (o := .dK (kvs ++ [((Sum.inl n : Key), sv p)]))
          have hk2 : upd H' d (.dK (kvs ++ [((Sum.inl n : Key), sv p)])) d = some (.dK (kvs ++ [((Sum.inl n : Key), sv p)])) := upd_same
          have e2' := e'.mut (o := .dK (kvs ++ [((Sum.inl n : Key), sv p)])) hd
          have it2 := it.tk tk1
          have itL2 := itL.tk tk1
          generalize upd H' d (.dK (kvs ++ [((Sum.inl n : Key), sv p)])) = H4 at hg2 hw2 hk2 e2' it2 itL2
          walk_at "rd"
          refine u_tyL (sql hg2) ?_
          walk_at "rd"
          obtain ⟨g1, g2⟩ := gt.row bn.1 bn.2
          have hxi := List.getElem?_eq_getElem (l := xl) (i := n.toNat) (by omega)
          generalize xl[n.toNat]'(by omega) = x at hxi
          obtain ⟨c2', rfl, hc2⟩ := hx _ _ _ hxi g1
          refine u_zipS ?_
          walk_at "rd"
          refine u_ixT (sqt (e2' _ _ hl)) (at_i (n := n.toNat) (by omega) hxi) ?_
          walk_at "rd"
          refine ⟨c2', s, (targets tb.lines n).map V.int, rfl, sqt (e2' _ _ hc2), ?_⟩
          refine zip_pairs (f := fun c => p ++ [c]) (e2' _ _ hc2) (fun _ _ => rfl) (fun n c H R hc hR => ?_) (by omega) ?_
          · walk_at "rd"
            refine u_addS (szOf (by rw [List.length_singleton]; show p.length + 1 ≤ _; have : p.length ≤ F.length + 1 := bl2; omega)) ?_
            walk_at "rd"
            exact ⟨by show 2 ≤ _; exact szOf (by decide), fun p hp => hR p _ (.mk hp)⟩
          intro D zs H5 hD e5 hDz itz
          walk_at "rd"
          have tl := okStates_len g2
          have lz : zs.length ≤ 3 := by
            have := itz.1
            rw [List.length_map, List.length_zip] at this
            omega
          have ly := itL.1
          refine u_extend (e5 _ _ hg2) hDz (szOf (by omega)) ?_
          walk_at "rd"
          have hg5 := e5 _ _ hg2
          have tk5 : TK H5 (upd H5 g (.lst (ys ++ zs))) := TK.lst hg5
          have ez := zip_fst (f := fun c => p ++ [c]) (show (targets tb.lines n).length = s.length from tl)
          refine ⟨F' ++ [n], L ++ ((targets tb.lines n).zip s).map (fun q => (q.1, p ++ [q.2])), _, ys ++ zs, _, _, _, _, _, _, rfl, (e2'.trans e5).mut (e.free hg), off hdw (e5 _ _ hw2), (it2.tk (TK.of e5)).tk tk5, off (Ne.symm ngd) (e5 _ _ hk2), keys_snoc ek n _, by rw [List.length_append, List.length_append, lk] <;> rfl, upd_same,
            ((itL2.tk (TK.of e5)).app itz).tk tk5, ?_, mem_snoc bd bn, by rw [List.length_append]; omega, Or.inl (by rw [List.length_append, List.length_singleton]; omega), ?_, ?_, fun R hR => qu R (.new hn ?_)⟩
          · rw [List.nodup_append]
            exact ⟨nd, by simp, fun a ha b hb => by rw [List.mem_singleton.mp hb]; exact fun z => hn (z ▸ ha)⟩
          · refine mem_app (fun it hi => ⟨(lb it hi).1, ?_⟩) fun it hi => ?_
            · have := (lb it hi).2
              rw [List.length_append, List.length_singleton]; omega
            · obtain ⟨h1, c, hc, h2⟩ := mem_zipf (f := fun c => p ++ [c]) hi
              rw [h2, List.length_append, List.length_append, List.length_singleton, List.length_singleton]
              have : p.length ≤ F.length + 1 := bl2
              exact ⟨okStates_mem g2 h1, by omega⟩
          · rw [List.length_append, List.length_append, List.length_singleton, List.length_map, List.length_zip]
            omega
          · rw [List.map_append, ez, ← List.append_assoc] at hR
            exact hR
        · walk_at "rd"
          exact ⟨F', L, kvs, ys, _, _, _, _, _, _, rfl, e', hw, it, hk, ek, lk, hg', itL, nd, bd, c1, c2, lb, c3, fun R hR => qu R (.skip hn hR)⟩
      · rintro σ H' ⟨F', L, kvs, ys, o7, o8, o9, o10, o11, o12, rfl, e', hw, it, hk, ek, lk, hg', itL, nd, bd, c1, c2, lb, c3, qu⟩
        have few := few2 gt nd bd
        walk_at "rd"
        refine n_listK (k := false) (sql hg') fun w2 H5 n5 => ?_
        walk_at "rd"
        have e5 := n5.2.1
        refine ⟨_, ?_, F', L, w2, _, _, _, _, _, _, _, rfl, rfl, e'.trans e5, ⟨kvs, e5 _ _ hk, ek, lk⟩, ⟨ys, n5.2.2.1, itL.tk (TK.of e5)⟩, nd, bd, lb, fun R hR => qu R ?_⟩
        · rcases c2 with c2 | c2
          · by_cases hL : L = []
            · rw [if_pos hL]; omega
            · rw [if_neg hL]; omega
          · rw [if_pos c2]; omega
        · rw [it.1, List.drop_length]
          rw [List.append_nil] at hR
          exact hR
    · have hW : W = [] := List.isEmpty_iff.mp hW
      subst hW
      walk_at "rd"
      exact k d kvs F H3 e hd hk ek (qu F (.done F)) (few2 gt nd bd)

end K39
set_option Elab.async false
set_option linter.all false
set_option maxRecDepth 100000
set_option maxHeartbeats 2000000
namespace K39
open PySem L2 Uni
local macro_rules | `(tactic| walk_at "rd") => `(tactic| (repeat (first
  | (with_reducible refine u_var (by with_unfolding_all exact rfl) ?_) | (with_reducible refine u_seq ?_) | (with_reducible refine u_asg ?_) | (with_reducible refine u_gname ?_) | (with_reducible refine u_drop ?_) | (with_reducible refine u_ret ?_) | (with_reducible refine u_retN ?_) | (with_reducible refine u_next ?_) | (with_reducible refine u_break ?_) | (with_reducible refine u_cont ?_) | (with_reducible refine u_if ?_) | (with_reducible refine u_c ?_) | (with_reducible refine u_op ?_) | (with_reducible refine u_un ?_) | (with_reducible refine u_test ?_) | (with_reducible refine u_tb ?_) | (with_reducible refine u_bl ?_) | (with_reducible refine u_not ?_) | (with_reducible refine u_and ?_) | (with_reducible refine u_or ?_) | (with_reducible refine u_chain ?_) | (with_reducible refine u_ifE ?_) | (with_reducible refine u_andV ?_) | (with_reducible refine u_orV ?_) | (with_reducible refine u_notV ?_) | (with_reducible refine u_blE ?_) | (with_reducible refine u_nil ?_) | (with_reducible refine u_cons ?_) | (with_reducible refine u_tup ?_) | (with_reducible refine u_lst ?_) | (with_reducible refine u_cb ?_) | (with_reducible refine u_call ?_) | (with_reducible refine u_bm ?_) | (with_reducible refine u_bm0 ?_) | (with_reducible refine u_m1 ?_) | (with_reducible refine u_sl ?_) | (with_reducible refine u_nopart ?_) | (with_reducible refine u_part ?_) | (with_reducible refine u_int ?_) | (with_reducible refine u_yes ?_) | (with_reducible refine u_add ?_) | (with_reducible refine u_sub ?_) | (with_reducible refine u_neg ?_) | (with_reducible refine u_le ?_) | (with_reducible refine u_gt ?_) | (with_reducible refine u_ge ?_) | (with_reducible refine u_lt ?_) | (with_reducible refine u_ltS ?_) | (with_reducible refine u_eqI ?_) | (with_reducible refine u_neI ?_) | (with_reducible refine u_eqS ?_) | (with_reducible refine u_neS ?_) | (with_reducible refine u_eqB ?_) | (with_reducible refine u_neB ?_) | (with_reducible refine u_inS ?_) | (with_reducible refine u_ninS ?_) | (with_reducible refine u_intI ?_) | (with_reducible refine u_intB ?_) | (with_reducible refine u_for ?_) | (with_reducible refine u_iR1 ?_) | (with_reducible refine u_iR2 ?_) | (with_reducible refine u_uni ?_) | (with_reducible refine u_lc ?_)
  | (with_reducible refine iteT ?_) | (with_reducible refine iteF ?_) | (with_reducible refine iteNT ?_) | (with_reducible refine iteNF ?_))))
abbrev G1 (l : List Nat) : List V := l.map fun c => sv [c]
theorem nodup_leN : ∀ {l m : List Nat}, l.Nodup → (∀ n ∈ l, n ∈ m) → l.length ≤ m.length
  | [], m, _, _ => Nat.zero_le _
  | a :: r, m, h, hm => by
    have ha : a ∈ m := hm a List.mem_cons_self
    have hnd := List.nodup_cons.mp h
    have ih := nodup_leN (l := r) (m := m.erase a) hnd.2 fun n hn => (List.mem_erase_of_ne (fun e => hnd.1 (by rw [← e]; exact hn))).mpr (hm n (List.mem_cons_of_mem _ hn))
    rw [List.length_erase_of_mem ha] at ih
    have := List.length_pos_of_mem ha
    rw [List.length_cons]
    omega
theorem nodup_of_lt {t : List Nat} (h : t.Pairwise (· < ·)) : t.Nodup := h.imp fun h => Nat.ne_of_lt h
theorem filter_two {α : Type} (p : α → Bool) : ∀ l : List α, l.length = (l.filter p).length + (l.filter fun c => !p c).length
  | [] => rfl
  | a :: r => by
    have ih := filter_two p r
    cases h : p a <;> simp [List.filter_cons, h] <;> omega
/-- the signs of sg that are not in t -/
theorem outs_len {sg t : List Nat} (hs : sg.Pairwise (· < ·)) : sg.length ≤ (sg.filter fun c => decide (c ∉ t)).length + t.length := by
  have e := filter_two (fun c => decide (c ∉ t)) sg
  have l2 : (sg.filter fun c => !decide (c ∉ t)).length ≤ t.length := by
    refine nodup_leN ((nodup_of_lt hs).sublist List.filter_sublist) fun c hc => ?_
    have := (List.mem_filter.mp hc).2
    simpa using this
  omega
theorem take_filter {α : Type} {p : α → Bool} {l : List α} {i : Nat} {c : α} (h : l[i]? = some c) : (l.take (i + 1)).filter p = (l.take i).filter p ++ (if p c = true then [c] else []) := by
  rw [List.take_add_one, h, List.filter_append]
  cases hp : p c <;> simp [List.filter_cons, hp]
theorem u_max {m n z : Int} {H : Hp} {Q : VK} (e : max m n = z) (h : Q (.int z) H) : uMax [.int m, .int n] H Q := by
  subst e
  refine ⟨m, n, rfl, ?_⟩
  have : (if n > m then n else m) = max m n := by
    by_cases h : n > m
    · rw [if_pos h]; omega
    · rw [if_neg h]; omega
  rw [this]
  exact h
theorem u_min {m n z : Int} {H : Hp} {Q : VK} (e : min m n = z) (h : Q (.int z) H) : uMin [.int m, .int n] H Q := by
  subst e
  refine ⟨m, n, rfl, ?_⟩
  have : (if n < m then n else m) = min m n := by
    by_cases h : n < m
    · rw [if_pos h]; omega
    · rw [if_neg h]; omega
  rw [this]
  exact h
theorem n_lst {tr : TA} {σ : L2.St} {H : Hp} {Q : VK} (h : tr σ H fun xs H1 => xs.length ≤ sizeLine ∧ ∀ p, H1 p = none → Q (.ref p) (upd H1 p (.lst xs))) : tLst tr σ H Q := h
/-- mod, told in naturals -/
theorem mod_nat {m n : Int} (h0 : 0 ≤ m) (hn : 0 < n) : m % n = ((m.toNat % n.toNat : Nat) : Int) := by
  have e1 : ((m.toNat : Nat) : Int) = m := Int.toNat_of_nonneg h0
  have e2 : ((n.toNat : Nat) : Int) = n := Int.toNat_of_nonneg (Int.le_of_lt hn)
  rw [Int.natCast_emod, e1, e2]
theorem perm_mem {t' t : List Nat} {c : Nat} (h : t'.Perm t) (hc : c ∈ t) : c ∈ t' := h.mem_iff.mpr hc
theorem pu_law_wrong_string (K : PySem.W.Frag) (vs : List V) (H : Hp) (Q : VK) (E : XK) (h : sp_law_wrong_string K vs H Q E) : t_law_wrong_string K { nx := fun _ H' => Q .non H', rt := Q } (start N_law_wrong_string vs) H := by
  obtain ⟨t, sg, st, kind, turn, rfl, ht0, ht, pt, tsg, psg, lsg, usg, st0, lst, stn, k0, k1, fin⟩ := h
  have lt1 : 1 ≤ t.length := List.length_pos_iff.mpr ht0
  have lst1 : 1 ≤ st.length := List.length_pos_iff.mpr st0
  unfold t_law_wrong_string
  walk_at "rd"
  refine lc_inv (walk_tX (z := sg)) (fun _ _ => trivial) (szLt (by omega)) (fun D i acc H' => acc = G1 ((sg.take i).filter fun c => decide (c ∉ t))) (fun D _ => rfl) ?_ ?_
  · rintro D i x acc H' hi ⟨c, hc, rfl⟩ hD hacc e hl rfl N hN
    have tf := take_filter (p := fun c => decide (c ∉ t)) hc
    walk_at "rd"
    refine ⟨rfl, ?_⟩
    walk_at "rd"
    refine iteND (fun q => ?_) (fun q => ?_)
    · walk_at "rd"
      refine ⟨_, hacc, szLt (by omega), hN _ _ upd_same (e.mut hD) (by rw [List.length_append, List.length_singleton]; omega) ?_⟩
      rw [tf, if_pos (decide_eq_true q)]
      exact (List.map_append (f := fun c => sv [c]) (l₂ := [c])).symm
    · refine hN _ _ hacc e (by omega) ?_
      rw [tf, if_neg (by simpa using q), List.append_nil]
  intro D acc H1 hD hacc e1 hl hacc2
  subst hacc2
  rw [List.take_of_length_le (Nat.le_refl _)] at hacc
  have ol := outs_len (t := t) psg
  have ou : (sg.filter fun c => decide (c ∉ t)).length ≤ 30 := Nat.le_trans (List.length_filter_le _ _) usg
  generalize (sg.filter fun c => decide (c ∉ t)) = x at hacc ol ou
  walk_at "rd"
  refine u_lenL (sql hacc) ?_
  rw [List.length_map]
  refine u_mod (by omega) ?_
  rw [mod_nat k0 (by omega)]
  have ha : turn.toNat % (x.length : Int).toNat < x.length := Nat.mod_lt _ (by omega)
  generalize turn.toNat % (x.length : Int).toNat = at_ at ha
  walk_at "rd"
  refine n_slL (r := G1 (x.drop at_)) (sql hacc) ((cutL_from _ (n := at_) (by omega)).trans List.map_drop.symm) fun p1 H2 n1 => ?_
  walk_at "rd"
  refine n_slL (r := G1 (x.take at_)) (sql (n1.2.1 _ _ hacc)) ((cutL_to _ (n := at_) rfl).trans List.map_take.symm) fun p2 H3 n2 => ?_
  refine n_addL (n2.2.1 _ _ n1.2.2.1) n2.2.2.1 (szOf (by rw [List.length_map, List.length_map, List.length_drop, List.length_take]; omega)) fun p3 H4 n3 => ?_
  have e4 : Ex H H4 := ((e1.trans n1.2.1).trans n2.2.1).trans n3.2.1
  have hx := n3.2.2.1
  rw [← List.map_append] at hx
  have lx : (x.drop at_ ++ x.take at_).length = x.length := by rw [List.length_append, List.length_drop, List.length_take]; omega
  generalize x.drop at_ ++ x.take at_ = y at hx lx
  clear n1 n2 n3 hacc
  walk_at "rd"
  rw [lit_empty]
  refine iteD (fun kk => ?_) (fun kk0 => ?_)
  · walk_at "rd"
    exact fin [] H4 e4 ⟨Nat.zero_le _, Or.inl ⟨kk, rfl⟩⟩
  walk_at "rd"
  have LT : (∀ (H' : Hp), Ex H4 H' → H' p3 = some (.lst (G1 y))) := fun H' e => e _ _ hx
  refine iteD (fun kk => ?_) (fun kk1 => ?_)
  · walk_at "rd"
    refine ⟨⟨_, rfl⟩, ?_⟩
    walk_at "rd"
    refine n_listS (szOf (by omega)) fun q1 H5 m1 => ?_
    walk_at "rd"
    refine n_addL m1.2.2.1 (m1.2.1 _ _ hx) (szOf (by rw [List.length_map, List.length_map]; omega)) fun q2 H6 m2 => ?_
    walk_at "rd"
    have h6 := m2.2.2.1
    rw [← List.map_append] at h6
    refine n_slL (r := G1 ((t ++ y).take 4)) (sql h6) ((cutL_to _ (n := 4) rfl).trans List.map_take.symm) fun q3 H7 m3 => ?_
    walk_at "rd"
    have l4 : ((t ++ y).take 4).length = 4 := by rw [List.length_take, List.length_append]; omega
    refine u_sorted1 (k := false) (sql m3.2.2.1) (by omega) fun t' p pm s1 hp => ?_
    refine u_join1 (k := false) (sql upd_same) (by rw [pm.length_eq]; omega) ?_
    exact fin t' _ ((((e4.trans m1.2.1).trans m2.2.1).trans m3.2.1).up hp) ⟨by rw [pm.length_eq]; omega, Or.inr (Or.inl ⟨kk, by rw [pm.length_eq]; exact l4⟩)⟩
  walk_at "rd"
  refine iteD (fun kk => ?_) (fun kk2 => ?_)
  · walk_at "rd"
    refine n_listS (szOf (by omega)) fun q1 H5 m1 => ?_
    walk_at "rd"
    refine n_addL m1.2.2.1 (m1.2.1 _ _ hx) (szOf (by rw [List.length_map, List.length_map]; omega)) fun q2 H6 m2 => ?_
    walk_at "rd"
    refine u_lenS (szOf (by omega)) ?_
    walk_at "rd"
    refine u_max (z := (max 2 t.length : Nat)) ?_ ?_
    · omega
    walk_at "rd"
    have h6 := m2.2.2.1
    rw [← List.map_append] at h6
    have l4 : ((t ++ y).take (max 2 t.length)).length = max 2 t.length := by rw [List.length_take, List.length_append]; omega
    refine n_slL (r := G1 ((t ++ y).take (max 2 t.length))) (sql h6) ((cutL_to _ (n := max 2 t.length) rfl).trans List.map_take.symm) fun q3 H7 m3 => ?_
    walk_at "rd"
    refine u_sorted1 (k := false) (sql m3.2.2.1) (by omega) fun w p pm s1 hp => ?_
    have lw : w.length = max 2 t.length := by rw [pm.length_eq]; exact l4
    have e8 := (((e4.trans m1.2.1).trans m2.2.1).trans m3.2.1).up (o := .lst (G1 w)) hp
    have h8 : upd H7 p (.lst (G1 w)) p = some (.lst (G1 w)) := upd_same
    generalize upd H7 p (.lst (G1 w)) = H8 at e8 h8
    walk_at "rd"
    refine u_lenL (sql h8) ?_
    rw [List.length_map]
    walk_at "rd"
    refine u_mod (by omega) ?_
    rw [mod_nat k0 (by omega)]
    have hj : turn.toNat % ((w.length : Int) - 1).toNat < w.length - 1 := by
      have : ((w.length : Int) - 1).toNat = w.length - 1 := by omega
      rw [this]
      exact Nat.mod_lt _ (by omega)
    generalize turn.toNat % ((w.length : Int) - 1).toNat = j at hj
    have hj0 := List.getElem?_eq_getElem (l := w) (i := j) (by omega)
    have hj1 := List.getElem?_eq_getElem (l := w) (i := j + 1) (by omega)
    have le : w[j]'(by omega) ≤ w[j + 1]'(by omega) := List.pairwise_iff_getElem.mp s1 j (j + 1) (by omega) (by omega) (Nat.lt_succ_self j)
    generalize w[j]'(by omega) = a at hj0 le
    generalize w[j + 1]'(by omega) = b at hj1 le
    walk_at "rd"
    refine ⟨⟨_, rfl⟩, ?_⟩
    walk_at "rd"
    refine n_slL (r := G1 (w.take j)) (sql h8) ((cutL_to _ (n := j) rfl).trans List.map_take.symm) fun r1 H9 u1 => ?_
    walk_at "rd"
    refine u_ixL (sql (u1.2.1 _ _ h8)) (at_i (n := j + 1) (by omega) (mapm hj1)) ?_
    walk_at "rd"
    refine u_ixL (sql (u1.2.1 _ _ h8)) (at_i (n := j) (by omega) (mapm hj0)) ?_
    walk_at "rd"
    refine ⟨szOf (by show 2 ≤ _; decide), fun r2 hr2 => ?_⟩
    have u2 := New.mk (o := .lst [sv [b], sv [a]]) hr2
    refine n_addL (u2.2.1 _ _ u1.2.2.1) u2.2.2.1 (szOf (by rw [List.length_map, List.length_take]; show _ + 2 ≤ _; omega)) fun r3 H11 u3 => ?_
    walk_at "rd"
    have e11 := (u1.2.1.trans u2.2.1).trans u3.2.1
    refine n_slL (r := G1 (w.drop (j + 2))) (sql (e11 _ _ h8)) ((cutL_from _ (n := j + 2) (by omega)).trans List.map_drop.symm) fun r4 H12 u4 => ?_
    refine n_addL (u4.2.1 _ _ u3.2.2.1) u4.2.2.1 (szOf (by rw [List.length_append, List.length_map, List.length_map, List.length_take, List.length_drop]; show _ + 2 + _ ≤ _; omega)) fun r5 H13 u5 => ?_
    have h13 := u5.2.2.1
    have eG : G1 (w.take j) ++ [sv [b], sv [a]] ++ G1 (w.drop (j + 2)) = G1 (w.take j ++ [b, a] ++ w.drop (j + 2)) := by
      unfold G1
      rw [List.map_append, List.map_append] <;> rfl
    rw [eG] at h13
    have lf : (w.take j ++ [b, a] ++ w.drop (j + 2)).length ≤ 30 := by
      rw [List.length_append, List.length_append, List.length_take, List.length_drop]
      show _ + 2 + _ ≤ _
      omega
    refine u_join1 (k := false) (sql h13) (by omega) ?_
    refine fin _ H13 (((e8.trans e11).trans u4.2.1).trans u5.2.1) ⟨lf, Or.inr (Or.inr ⟨kk0, kk1, Or.inl fun pw => ?_⟩)⟩
    rw [List.append_assoc] at pw
    have pw2 := (List.pairwise_append.mp pw).2.1
    have : b < a := List.rel_of_pairwise_cons pw2 (List.mem_cons_self)
    omega
  walk_at "rd"
  refine iteD (fun kk => ?_) (fun kk3 => ?_)
  · walk_at "rd"
    refine ⟨⟨_, rfl⟩, ?_⟩
    walk_at "rd"
    refine u_slS (l := t) (cutL_to _ (n := 2) rfl) (by omega) ?_
    have l2 : (t.take 2).length = min 2 t.length := by rw [List.length_take]
    walk_at "rd"
    refine n_listS (szOf (by omega)) fun q1 H5 m1 => ?_
    walk_at "rd"
    refine u_lenS (l := t) (szOf (by omega)) ?_
    walk_at "rd"
    refine u_min (z := (min 2 t.length : Nat)) ?_ ?_
    · omega
    refine u_mod (by omega) ?_
    rw [mod_nat k0 (by omega)]
    have hj : turn.toNat % ((min 2 t.length : Nat) : Int).toNat < min 2 t.length := Nat.mod_lt _ (by omega)
    generalize turn.toNat % ((min 2 t.length : Nat) : Int).toNat = j at hj
    have hj0 := List.getElem?_eq_getElem (l := t) (i := j) (by omega)
    have mem : t[j]'(by omega) ∈ t.take 2 := List.mem_take_iff_getElem.mpr ⟨j, by omega, rfl⟩
    generalize t[j]'(by omega) = a at hj0 mem
    refine u_ixS (szOf (by omega)) (at_i rfl hj0) ?_
    walk_at "rd"
    refine ⟨szOf (by show 1 ≤ _; decide), fun r2 hr2 => ?_⟩
    have u2 := New.mk (o := .lst [sv [a]]) hr2
    refine n_addL (u2.2.1 _ _ m1.2.2.1) u2.2.2.1 (szOf (by rw [List.length_map]; show _ + 1 ≤ _; omega)) fun r3 H11 u3 => ?_
    have h11 := u3.2.2.1
    have eG : G1 (t.take 2) ++ [sv [a]] = G1 (t.take 2 ++ [a]) := (List.map_append (f := fun c => sv [c]) (l₂ := [a])).symm
    rw [eG] at h11
    walk_at "rd"
    have lf : (t.take 2 ++ [a]).length ≤ 3 := by rw [List.length_append, List.length_singleton]; omega
    refine u_sorted1 (k := false) (sql h11) (by omega) fun w p pm s1 hp => ?_
    refine u_join1 (k := false) (sql upd_same) (by rw [pm.length_eq]; omega) ?_
    refine fin w _ ((((e4.trans m1.2.1).trans u2.2.1).trans u3.2.1).up hp) ⟨by rw [pm.length_eq]; omega, Or.inr (Or.inr ⟨kk0, kk1, Or.inl fun pw => ?_⟩)⟩
    have nd : (t.take 2 ++ [a]).Nodup := pm.nodup_iff.mp (nodup_of_lt pw)
    exact (List.nodup_append.mp nd).2.2 a mem a (List.mem_singleton.mpr rfl) rfl
  walk_at "rd"
  refine ⟨⟨_, rfl⟩, ?_⟩
  walk_at "rd"
  refine u_slS (l := t) (cutL_to _ (n := 2) rfl) (by omega) ?_
  have l2 : (t.take 2).length = min 2 t.length := by rw [List.length_take]
  walk_at "rd"
  refine n_listS (szOf (by omega)) fun q1 H5 m1 => ?_
  walk_at "rd"
  refine u_lenS (l := st) (szOf (by omega)) ?_
  refine u_mod (by omega) ?_
  rw [mod_nat k0 (by omega)]
  have hj : turn.toNat % ((st.length : Nat) : Int).toNat < st.length := Nat.mod_lt _ (by omega)
  generalize turn.toNat % ((st.length : Nat) : Int).toNat = j at hj
  have hj0 := List.getElem?_eq_getElem (l := st) (i := j) (by omega)
  have mem : st[j]'(by omega) ∉ sg := stn _ (List.getElem_mem _)
  generalize st[j]'(by omega) = a at hj0 mem
  refine u_ixS (szOf (by omega)) (at_i rfl hj0) ?_
  walk_at "rd"
  refine ⟨szOf (by show 1 ≤ _; decide), fun r2 hr2 => ?_⟩
  have u2 := New.mk (o := .lst [sv [a]]) hr2
  refine n_addL (u2.2.1 _ _ m1.2.2.1) u2.2.2.1 (szOf (by rw [List.length_map]; show _ + 1 ≤ _; omega)) fun r3 H11 u3 => ?_
  have h11 := u3.2.2.1
  have eG : G1 (t.take 2) ++ [sv [a]] = G1 (t.take 2 ++ [a]) := (List.map_append (f := fun c => sv [c]) (l₂ := [a])).symm
  rw [eG] at h11
  walk_at "rd"
  have lf : (t.take 2 ++ [a]).length ≤ 3 := by rw [List.length_append, List.length_singleton]; omega
  refine u_sorted1 (k := false) (sql h11) (by omega) fun w p pm s1 hp => ?_
  refine u_join1 (k := false) (sql upd_same) (by rw [pm.length_eq]; omega) ?_
  exact fin w _ ((((e4.trans m1.2.1).trans u2.2.1).trans u3.2.1).up hp) ⟨by rw [pm.length_eq]; omega, Or.inr (Or.inr ⟨kk0, kk1, Or.inr ⟨a, perm_mem pm (by simp), mem⟩⟩)⟩

end K39
set_option Elab.async false
set_option linter.all false
set_option maxRecDepth 100000
set_option maxHeartbeats 2000000
namespace K39
open PySem L2 Uni
local macro_rules | `(tactic| walk_at "rd") => `(tactic| (repeat (first
  | (with_reducible refine u_var (by with_unfolding_all exact rfl) ?_) | (with_reducible refine u_seq ?_) | (with_reducible refine u_asg ?_) | (with_reducible refine u_gname ?_) | (with_reducible refine u_drop ?_) | (with_reducible refine u_ret ?_) | (with_reducible refine u_retN ?_) | (with_reducible refine u_next ?_) | (with_reducible refine u_break ?_) | (with_reducible refine u_cont ?_) | (with_reducible refine u_if ?_) | (with_reducible refine u_c ?_) | (with_reducible refine u_op ?_) | (with_reducible refine u_un ?_) | (with_reducible refine u_test ?_) | (with_reducible refine u_tb ?_) | (with_reducible refine u_bl ?_) | (with_reducible refine u_not ?_) | (with_reducible refine u_and ?_) | (with_reducible refine u_or ?_) | (with_reducible refine u_chain ?_) | (with_reducible refine u_ifE ?_) | (with_reducible refine u_andV ?_) | (with_reducible refine u_orV ?_) | (with_reducible refine u_notV ?_) | (with_reducible refine u_blE ?_) | (with_reducible refine u_nil ?_) | (with_reducible refine u_cons ?_) | (with_reducible refine u_tup ?_) | (with_reducible refine u_lst ?_) | (with_reducible refine u_cb ?_) | (with_reducible refine u_call ?_) | (with_reducible refine u_bm ?_) | (with_reducible refine u_bm0 ?_) | (with_reducible refine u_m1 ?_) | (with_reducible refine u_sl ?_) | (with_reducible refine u_nopart ?_) | (with_reducible refine u_part ?_) | (with_reducible refine u_int ?_) | (with_reducible refine u_yes ?_) | (with_reducible refine u_add ?_) | (with_reducible refine u_sub ?_) | (with_reducible refine u_neg ?_) | (with_reducible refine u_le ?_) | (with_reducible refine u_gt ?_) | (with_reducible refine u_ge ?_) | (with_reducible refine u_lt ?_) | (with_reducible refine u_ltS ?_) | (with_reducible refine u_eqI ?_) | (with_reducible refine u_neI ?_) | (with_reducible refine u_eqS ?_) | (with_reducible refine u_neS ?_) | (with_reducible refine u_eqB ?_) | (with_reducible refine u_neB ?_) | (with_reducible refine u_inS ?_) | (with_reducible refine u_ninS ?_) | (with_reducible refine u_intI ?_) | (with_reducible refine u_intB ?_) | (with_reducible refine u_for ?_) | (with_reducible refine u_iR1 ?_) | (with_reducible refine u_iR2 ?_) | (with_reducible refine u_uni ?_) | (with_reducible refine u_lc ?_)
  | (with_reducible refine iteT ?_) | (with_reducible refine iteF ?_) | (with_reducible refine iteNT ?_) | (with_reducible refine iteNF ?_))))
theorem n_addT {K : PySem.W.Frag} {H : Hp} {Q : VK} {a b : Addr} {xs ys : List V} (h1 : H a = some (.tup xs)) (h2 : H b = some (.tup ys)) (c : xs.length + ys.length ≤ sizeLine) (h : ∀ p H', Ex H H' → H' p = some (.tup (xs ++ ys)) → Q (.ref p) H') : uAdd K (.ref a) (.ref b) H Q := by
  refine Or.inr ⟨a, b, xs, ys, rfl, rfl, sqt h1, sqt h2, c, ?_, ?_, ?_⟩
  · rintro rfl
    exact h b H (Ex.refl H) h2
  · rintro _ rfl
    exact h a H (Ex.refl H) (by rw [List.append_nil]; exact h1)
  · intro _ _ p hp
    exact h p _ (Ex.new hp) upd_same
theorem u_gsub {to ti : TE} {t : TSet} {v : V} {σ : L2.St} {H : Hp} {R : L2.St → Hp → Prop} (h : to σ H fun o H1 => ti σ H1 fun i H2 => t o i v H2 fun H3 => R σ H3) : gSub to ti t v σ H R := h
theorem ixnat {n j : Nat} (hj : j < n) : ixN n (j : Int) = some j := by
  unfold ixN
  rw [if_pos (by omega), if_pos (by omega), Int.toNat_natCast]
theorem u_setL {H : Hp} {p : Addr} {xs : List V} {i : Int} {j : Nat} {v : V} {Q : Hp → Prop} (h : H p = some (.lst xs)) (ei : i = (j : Int)) (hj : j < xs.length) (q : Q (upd H p (.lst (xs.set j v)))) : rSetL (.ref p) (.int i) v H Q := by
  subst ei
  exact ⟨p, xs, _, j, rfl, rfl, h, ixnat hj, q⟩
theorem u_insert {H : Hp} {Q : VK} {l : Addr} {xs : List V} {i : Int} {n : Nat} {y : V} (h : H l = some (.lst xs)) (ei : i = (n : Int)) (hn : n ≤ 1000000) (c : xs.length < 1000000) (q : Q .non (upd H l (.lst (xs.take n ++ [y] ++ xs.drop n)))) : rInsert (.ref l) [.int i, y] H Q := by
  subst ei
  exact ⟨l, xs, (n : Int), y, rfl, rfl, h, szLt c, by omega, by omega, q⟩
theorem eraseM {α β : Type} (f : α → β) (l : List α) (j : Nat) : (l.map f).eraseIdx j = (l.eraseIdx j).map f := by
  induction l generalizing j with
  | nil => simp
  | cons a r ih =>
    cases j with
    | zero => simp
    | succ j => simp [ih]
theorem int_inj : ∀ {a b : List Int}, a.map V.int = b.map V.int → a = b
  | [], [], _ => rfl
  | [], _ :: _, h => nomatch h
  | _ :: _, [], h => nomatch h
  | x :: a, y :: b, h => by
    rw [List.map_cons, List.map_cons, List.cons.injEq] at h
    rw [V.int.inj h.1, int_inj h.2]
theorem kho_inj {k : Bool} {a b : List V} (h : kho k a = kho k b) : a = b := by
  cases k
  · exact HO.lst.inj h
  · exact HO.tup.inj h
theorem SeqI.det {k : Bool} {H : Hp} {v : V} {a b : List Int} (h : SeqI k H v a) (h' : SeqI k H v b) : a = b := by
  obtain ⟨p, rfl, h1⟩ := h
  obtain ⟨q, e, h2⟩ := h'
  cases e
  rw [h1] at h2
  exact int_inj (kho_inj (Option.some.inj h2))
theorem rows_of {j : Bool} {H : Hp} : ∀ {xs : List V}, (∀ x ∈ xs, ∃ row, SeqI j H x row) → ∃ rows : List (List Int), xs.length = rows.length ∧ ∀ (i : Nat) x row, xs[i]? = some x → rows[i]? = some row → SeqI j H x row
  | [], _ => ⟨[], rfl, fun i x row h => by simp at h⟩
  | x :: r, h => by
    obtain ⟨row, hr⟩ := h x List.mem_cons_self
    obtain ⟨rows, e, g⟩ := rows_of (xs := r) fun y hy => h y (List.mem_cons_of_mem _ hy)
    refine ⟨row :: rows, by rw [List.length_cons, List.length_cons, e], fun i y rw' h1 h2 => ?_⟩
    cases i with
    | zero =>
      cases h1
      cases h2
      exact hr
    | succ i => exact g i y rw' (by simpa using h1) (by simpa using h2)
/-- [f(line) for line in ..]: rows apart -/
theorem copiesN {K : PySem.W.Frag} {σ : L2.St} {H1 : Hp} {Q : VK} {a : Addr} {xs : List V} {rows : List (List Int)} {k j m : Bool} {i : Nat} {te : TE} {tr : V → Hp → VK → Prop}
    (hσ : ∀ v : V, ((wipe σ [i]).set i (some v))[i]? = some (some v)) (hw : ∀ v : V, wipe ((wipe σ [i]).set i (some v)) [i] = wipe σ [i])
    (hte : ∀ (v : V) (H : Hp) (Q : VK), tr v H Q → te ((wipe σ [i]).set i (some v)) H Q)
    (htr : ∀ (c : Addr) (ns : List Int) (H : Hp) (Q : VK), H c = some (kho j (ns.map V.int)) → (∀ p H', New H H' p (kho m (ns.map V.int)) → Q (.ref p) H') → tr (.ref c) H Q)
    (ha : H1 a = some (kho k xs)) (hlen : xs.length = rows.length) (hn : rows.length ≤ 1000) (hr : ∀ (i : Nat) (x : V) (row : List Int), xs[i]? = some x → rows[i]? = some row → SeqI j H1 x row)
    (hq : ∀ (D : Addr) (H' : Hp) (ys : List V), H1 D = none → Ex H1 H' → H' D = some (.lst ys) → ys.length = rows.length → ys.Nodup → (∀ (i : Nat) x row, ys[i]? = some x → rows[i]? = some row → SeqI m H' x row) → (∀ x ∈ ys, ∃ a, x = .ref a ∧ H1 a = none ∧ a ≠ D) → Q (.ref D) H') :
    ∀ D, H1 D = none → LcW (Jk K k a) (gName i) tYes te [i] σ H1 Q D := by
  refine lc_inv walk_kX (fun H e => (Kd.of ha).ex e) (szLt (by omega)) (fun D n acc H => acc.length = n ∧ acc.Nodup ∧ (∀ (j : Nat) x row, acc[j]? = some x → rows[j]? = some row → SeqI m H x row) ∧ ∀ x ∈ acc, ∃ c, x = .ref c ∧ H1 c = none ∧ c ≠ D ∧ ∃ o, H c = some o)
    (fun D hD => ⟨rfl, List.Pairwise.nil, fun j x row h => by simp at h, fun _ h => nomatch h⟩) ?_ ?_
  · rintro D n v acc H hi hx hD hacc e hl ⟨el, nd, sq, al⟩ N hN
    refine u_gname ?_
    refine ⟨hw _, u_yes (iteT (hte _ _ _ ?_))⟩
    have hr1 : rows[n]? = some rows[n] := List.getElem?_eq_getElem (by omega)
    generalize rows[n] = ns at hr1
    obtain ⟨c, rfl, hc⟩ := hr n v ns hx hr1
    refine htr c ns H _ (e _ _ hc) fun p H' nw => ?_
    have hpD : p ≠ D := Ne.symm (ne_of_none hacc nw.1)
    have kk : ∀ b o, b ≠ D → H' b = some o → upd H' D (.lst (acc ++ [V.ref p])) b = some o := fun b o hb e => by rw [upd_ne hb]; exact e
    refine ⟨acc, nw.2.1 _ _ hacc, szLt (by omega), hN _ _ upd_same ((e.trans nw.2.1).mut hD) (by rw [List.length_append, List.length_singleton]; omega) ⟨by rw [List.length_append, List.length_singleton, el], ?_, ?_, ?_⟩⟩
    · rw [List.nodup_append]
      refine ⟨nd, by simp, fun x hx y hy => ?_⟩
      rw [List.mem_singleton.mp hy]
      obtain ⟨c2, rfl, _, _, o, ho⟩ := al x hx
      intro z
      cases z
      rw [nw.1] at ho
      cases ho
    · intro j x row h1 h2
      by_cases hj : j < acc.length
      · rw [List.getElem?_append_left hj] at h1
        obtain ⟨c2, rfl, _, n2, o, ho⟩ := al x (List.mem_of_getElem? h1)
        obtain ⟨c3, e3, h3⟩ := (sq j _ row h1 h2).ex nw.2.1
        cases e3
        exact ⟨c2, rfl, kk _ _ n2 h3⟩
      · rw [List.getElem?_append_right (by omega)] at h1
        have : j - acc.length = 0 := by
          have := (List.getElem?_eq_some_iff.mp h1).1
          simp at this; omega
        rw [this] at h1
        cases h1
        have ej : j = n := by omega
        subst ej
        rw [hr1] at h2
        cases h2
        exact ⟨p, rfl, kk _ _ hpD nw.2.2.1⟩
    · refine mem_snoc (fun x hx => ?_) ⟨p, rfl, e.free nw.1, hpD, _, kk _ _ hpD nw.2.2.1⟩
      obtain ⟨c2, rfl, h1, n2, o, ho⟩ := al x hx
      exact ⟨c2, rfl, h1, n2, o, kk _ _ n2 (nw.2.1 _ _ ho)⟩
  · rintro D acc H hD hacc e hl ⟨el, nd, sq, al⟩
    exact hq D H acc hD e hacc (by omega) nd sq fun x hx => let ⟨c, h1, h2, h3, _⟩ := al x hx; ⟨c, h1, h2, h3⟩
theorem not_okStates_len {l : List Int} {c m : Nat} (h : l.length ≠ c) : okStates l c m = false := decide_eq_false fun z => h z.1
theorem not_okStates_set {l : List Int} {c m j : Nat} {v : Int} (hj : j < l.length) (h : ¬ (0 ≤ v ∧ v < (m : Int))) : okStates (l.set j v) c m = false := decide_eq_false fun z => h (z.2 v (List.mem_set hj v))
theorem pu_law_wrong_starts (K : PySem.W.Frag) (vs : List V) (H : Hp) (Q : VK) (E : XK) (h : sp_law_wrong_starts K vs H Q E) : t_law_wrong_starts K { nx := fun _ H' => Q .non H', rt := Q } (start N_law_wrong_starts vs) H := by
  obtain ⟨v, ns, nr, tb, kind, turn, rfl, ⟨a, rfl, ha⟩, hnr, gt, nr3, k0, k6, t0, fin⟩ := h
  have lb := okStates_len gt.beg
  unfold t_law_wrong_starts
  walk_at "rd"
  refine n_listK (k := true) (sqt ha) fun p H1 n1 => ?_
  walk_at "rd"
  have hp := n1.2.2.1
  refine u_lenL (sql hp) ?_
  rw [List.length_map]
  refine u_mod (by omega) ?_
  rw [mod_nat t0 (by omega)]
  have hj : turn.toNat % ((tb.begins.length : Nat) : Int).toNat < tb.begins.length := Nat.mod_lt _ (by omega)
  generalize turn.toNat % ((tb.begins.length : Nat) : Int).toNat = j at hj
  have hj0 := List.getElem?_eq_getElem hj
  generalize tb.begins[j] = b at hj0
  walk_at "rd"
  have hp0 : ∀ ys : List Int, Ex H (upd H1 p (.lst (ys.map V.int))) := fun ys => n1.2.1.mut n1.1
  refine u_cut (fun σ' H' => ∃ row : List Int, σ' = [some (.ref a), some (.int tb.texts.length), some (.int kind), some (.int turn), some (.ref p), some (.int (j : Int))] ∧ Ex H H' ∧ H' p = some (.lst (row.map V.int)) ∧ okStates row nr tb.texts.length = false) ?_ ?_
  · walk_at "rd"
    refine iteD (fun kk => ?_) (fun kk0 => ?_)
    · walk_at "rd"
      refine u_tyL (sql hp) ?_
      walk_at "rd"
      refine u_popAt (n := j) rfl hp (mapm hj0) (by omega) ?_
      walk_at "rd"
      rw [eraseM]
      exact ⟨_, rfl, hp0 _, upd_same, not_okStates_len (by rw [List.length_eraseIdx_of_lt hj]; omega)⟩
    walk_at "rd"
    refine iteD (fun kk => ?_) (fun kk1 => ?_)
    · walk_at "rd"
      refine u_tyL (sql hp) ?_
      walk_at "rd"
      refine u_ixL (sql hp) (at_i rfl (mapm hj0)) ?_
      walk_at "rd"
      refine u_insert (n := j) hp rfl (by omega) (by rw [List.length_map]; omega) ?_
      walk_at "rd"
      have e : (tb.begins.map V.int).take j ++ [V.int b] ++ (tb.begins.map V.int).drop j = (tb.begins.take j ++ [b] ++ tb.begins.drop j).map V.int := by
        rw [List.map_append, List.map_append, List.map_take, List.map_drop] <;> rfl
      rw [e]
      exact ⟨_, rfl, hp0 _, upd_same, not_okStates_len (by rw [List.length_append, List.length_append, List.length_take, List.length_drop, List.length_singleton]; omega)⟩
    walk_at "rd"
    refine ⟨by show 4 ≤ _; exact szOf (by decide), fun q hq => ?_⟩
    walk_at "rd"
    have n2 := New.mk (o := .lst [V.int tb.texts.length, .int (-1), .int ((tb.texts.length : Int) + 1 + turn), .int (0 - (tb.texts.length : Int) - turn)]) hq
    have hv : ∃ z : Int, atI [V.int tb.texts.length, .int (-1), .int ((tb.texts.length : Int) + 1 + turn), .int (0 - (tb.texts.length : Int) - turn)] (kind - 2) = some (.int z) ∧ ¬ (0 ≤ z ∧ z < (tb.texts.length : Int)) := by
      have gm := gt.many
      have : kind = 2 ∨ kind = 3 ∨ kind = 4 ∨ kind = 5 := by omega
      rcases this with rfl | rfl | rfl | rfl
      · exact ⟨_, rfl, by omega⟩
      · exact ⟨_, rfl, by omega⟩
      · exact ⟨_, rfl, by omega⟩
      · exact ⟨_, rfl, by omega⟩
    obtain ⟨z, hz, bz⟩ := hv
    refine u_ixL (sql upd_same) hz ?_
    refine u_gsub ?_
    walk_at "rd"
    refine u_setL (j := j) (n2.2.1 _ _ hp) rfl (by rw [List.length_map]; exact hj) ?_
    walk_at "rd"
    rw [← List.map_set]
    exact ⟨_, rfl, (n1.2.1.trans n2.2.1).mut n1.1, upd_same, not_okStates_set hj bz⟩
  · rintro σ' H' ⟨row, rfl, e, hp, bad⟩
    walk_at "rd"
    exact fin _ row H' e ⟨p, rfl, hp⟩ bad

end K39
set_option Elab.async false
set_option linter.all false
set_option maxRecDepth 100000
set_option maxHeartbeats 2000000
namespace K39
open PySem L2 Uni
local macro_rules | `(tactic| walk_at "rd") => `(tactic| (repeat (first
  | (with_reducible refine u_var (by with_unfolding_all exact rfl) ?_) | (with_reducible refine u_seq ?_) | (with_reducible refine u_asg ?_) | (with_reducible refine u_gname ?_) | (with_reducible refine u_drop ?_) | (with_reducible refine u_ret ?_) | (with_reducible refine u_retN ?_) | (with_reducible refine u_next ?_) | (with_reducible refine u_break ?_) | (with_reducible refine u_cont ?_) | (with_reducible refine u_if ?_) | (with_reducible refine u_c ?_) | (with_reducible refine u_op ?_) | (with_reducible refine u_un ?_) | (with_reducible refine u_test ?_) | (with_reducible refine u_tb ?_) | (with_reducible refine u_bl ?_) | (with_reducible refine u_not ?_) | (with_reducible refine u_and ?_) | (with_reducible refine u_or ?_) | (with_reducible refine u_chain ?_) | (with_reducible refine u_ifE ?_) | (with_reducible refine u_andV ?_) | (with_reducible refine u_orV ?_) | (with_reducible refine u_notV ?_) | (with_reducible refine u_blE ?_) | (with_reducible refine u_nil ?_) | (with_reducible refine u_cons ?_) | (with_reducible refine u_tup ?_) | (with_reducible refine u_lst ?_) | (with_reducible refine u_cb ?_) | (with_reducible refine u_call ?_) | (with_reducible refine u_bm ?_) | (with_reducible refine u_bm0 ?_) | (with_reducible refine u_m1 ?_) | (with_reducible refine u_sl ?_) | (with_reducible refine u_nopart ?_) | (with_reducible refine u_part ?_) | (with_reducible refine u_int ?_) | (with_reducible refine u_yes ?_) | (with_reducible refine u_add ?_) | (with_reducible refine u_sub ?_) | (with_reducible refine u_neg ?_) | (with_reducible refine u_le ?_) | (with_reducible refine u_gt ?_) | (with_reducible refine u_ge ?_) | (with_reducible refine u_lt ?_) | (with_reducible refine u_ltS ?_) | (with_reducible refine u_eqI ?_) | (with_reducible refine u_neI ?_) | (with_reducible refine u_eqS ?_) | (with_reducible refine u_neS ?_) | (with_reducible refine u_eqB ?_) | (with_reducible refine u_neB ?_) | (with_reducible refine u_inS ?_) | (with_reducible refine u_ninS ?_) | (with_reducible refine u_intI ?_) | (with_reducible refine u_intB ?_) | (with_reducible refine u_for ?_) | (with_reducible refine u_iR1 ?_) | (with_reducible refine u_iR2 ?_) | (with_reducible refine u_uni ?_) | (with_reducible refine u_lc ?_)
  | (with_reducible refine iteT ?_) | (with_reducible refine iteF ?_) | (with_reducible refine iteNT ?_) | (with_reducible refine iteNF ?_))))
/-- rows at p, wrong -/
def WR (H0 : Hp) (p : Addr) (ns many : Nat) (H' : Hp) : Prop := ∃ xs, Ex H0 H' ∧ H' p = some (.lst xs) ∧ xs.length ≤ 1000 ∧ (∀ x ∈ xs, ∃ row, SeqI false H' x row) ∧ (xs.length ≠ many ∨ ∃ x ∈ xs, ∃ row, SeqI false H' x row ∧ okStates row ns many = false)
theorem WR.fin {H0 H' : Hp} {p : Addr} {ns many : Nat} (h : WR H0 p ns many H') : ∃ rows, Ex H0 H' ∧ SeqII false false H' (.ref p) rows ∧ (rows.length ≠ many ∨ ∃ l ∈ rows, okStates l ns many = false) ∧ rows.length ≤ 1000 := by
  obtain ⟨xs, e, hp, hl, al, bad⟩ := h
  obtain ⟨rows, er, hr⟩ := rows_of al
  refine ⟨rows, e, ⟨p, xs, rfl, hp, er, hr⟩, ?_, by omega⟩
  rcases bad with bad | ⟨x, hx, row, hrow, bad⟩
  · exact Or.inl (by omega)
  · obtain ⟨i, hi, e1⟩ := List.mem_iff_getElem.mp hx
    have h1 : xs[i]? = some x := by rw [List.getElem?_eq_getElem hi, e1]
    have h2 := List.getElem?_eq_getElem (l := rows) (i := i) (by omega)
    have := (hr i x _ h1 h2).det hrow
    exact Or.inr ⟨row, by rw [← this]; exact List.getElem_mem _, bad⟩
/-- the line at c changes -/
theorem rows_upd {H : Hp} {p c : Addr} {xs : List V} {row row' : List Int} (hp : H p = some (.lst xs)) (hc : H c = some (.lst (row.map V.int))) (hx : V.ref c ∈ xs) (al : ∀ x ∈ xs, ∃ row, SeqI false H x row) :
    upd H c (.lst (row'.map V.int)) p = some (.lst xs) ∧ (∀ x ∈ xs, ∃ r, SeqI false (upd H c (.lst (row'.map V.int))) x r) ∧ SeqI false (upd H c (.lst (row'.map V.int))) (.ref c) row' := by
  have hpc : p ≠ c := fun z => by
    subst z
    rw [hp] at hc
    have e := HO.lst.inj (Option.some.inj hc)
    rw [e] at hx
    obtain ⟨n, _, h⟩ := List.mem_map.mp hx
    cases h
  refine ⟨by rw [upd_ne hpc]; exact hp, fun x hx => ?_, ⟨c, rfl, upd_same⟩⟩
  obtain ⟨r, a, rfl, ha⟩ := al x hx
  by_cases hac : a = c
  · subst hac
    exact ⟨row', a, rfl, upd_same⟩
  · exact ⟨r, a, rfl, by rw [upd_ne hac]; exact ha⟩
theorem nd_ne {α : Type} {l : List α} {i j : Nat} {x : α} (nd : l.Nodup) (hi : l[i]? = some x) (hj : l[j]? = some x) : i = j := by
  obtain ⟨li, ei⟩ := List.getElem?_eq_some_iff.mp hi
  obtain ⟨lj, ej⟩ := List.getElem?_eq_some_iff.mp hj
  have p := List.pairwise_iff_getElem.mp nd
  rcases Nat.lt_trichotomy i j with h | h | h
  · exact absurd (ei.trans ej.symm) (p i j li lj h)
  · exact h
  · exact absurd (ej.trans ei.symm) (p j i lj li h)
theorem pu_law_wrong_moves (K : PySem.W.Frag) (vs : List V) (H : Hp) (Q : VK) (E : XK) (h : sp_law_wrong_moves K vs H Q E) : t_law_wrong_moves K { nx := fun _ H' => Q .non H', rt := Q } (start N_law_wrong_moves vs) H := by
  obtain ⟨v, ns, nr, tb, kind, at_, turn, rfl, ⟨l, xl, rfl, hl, hxl, hx⟩, hns, hns3, gt, k0, k9, a0, t0, t1, fin⟩ := h
  have ll := gt.llen
  have gm := gt.many
  have few := gt.few
  unfold t_law_wrong_moves
  walk_at "rd"
  refine u_lenK (k := true) (sqt hl) ?_
  rw [hxl, ll]
  walk_at "rd"
  refine u_uC (k := true) (sqt hl) ?_
  refine copiesN (j := true) (m := false) (xs := xl) (rows := tb.lines) (tr := fun v H Q => uList K [v] H Q) (fun _ => rfl) (fun _ => rfl) (fun v H Q h => ?_) (fun c ns H Q hc hQ => n_listK (k := true) (sqt hc) hQ) hl hxl (by omega) hx fun p H1 ys hp0 e1 hp ly nd sq al => ?_
  · walk_at "rd"
    exact h
  walk_at "rd"
  refine u_mod (by omega) ?_
  rw [mod_nat a0 (by omega)]
  have hi : at_.toNat % ((tb.texts.length : Nat) : Int).toNat < tb.texts.length := Nat.mod_lt _ (by omega)
  generalize at_.toNat % ((tb.texts.length : Nat) : Int).toNat = i at hi
  have hyi := List.getElem?_eq_getElem (l := ys) (i := i) (by omega)
  have hli := List.getElem?_eq_getElem (l := tb.lines) (i := i) (by omega)
  have okl := gt.lin (List.getElem_mem (l := tb.lines) (n := i) (by omega))
  generalize ys[i]'(by omega) = y at hyi
  generalize tb.lines[i]'(by omega) = line at hli okl
  have hye := List.mem_of_getElem? hyi
  obtain ⟨c, rfl, hc⟩ := sq i y line hyi hli
  have len := okStates_len okl
  have c0 : H c = none := by
    obtain ⟨c', e, h, _⟩ := al _ hye
    cases e
    exact h
  walk_at "rd"
  refine u_ixL (sql hp) (at_i rfl hyi) ?_
  walk_at "rd"
  refine u_lenL (sql hc) ?_
  rw [List.length_map]
  refine u_mod (by omega) ?_
  rw [mod_nat t0 (by omega)]
  have hj : turn.toNat % ((line.length : Nat) : Int).toNat < line.length := Nat.mod_lt _ (by omega)
  generalize turn.toNat % ((line.length : Nat) : Int).toNat = j at hj
  have hj0 := List.getElem?_eq_getElem hj
  generalize line[j] = b at hj0
  walk_at "rd"
  have all : ∀ x ∈ ys, ∃ row, SeqI false H1 x row := fun x hx => by
    obtain ⟨i, hi, e⟩ := List.mem_iff_getElem.mp hx
    exact ⟨_, sq i x _ (by rw [List.getElem?_eq_getElem hi, e]) (List.getElem?_eq_getElem (by omega))⟩
  have gor : ∀ (H2 : Hp) (row' : List Int), Ex H1 H2 → okStates row' ns tb.texts.length = false → WR H p ns tb.texts.length (upd H2 c (.lst (row'.map V.int))) := fun H2 row' e2 bad => by
    obtain ⟨g1, g2, g3⟩ := rows_upd (row' := row') (e2 _ _ hp) (e2 _ _ hc) hye (fun x hx => let ⟨r, h⟩ := all x hx; ⟨r, h.ex e2⟩)
    exact ⟨ys, (e1.trans e2).mut c0, g1, by omega, g2, Or.inr ⟨_, hye, row', g3, bad⟩⟩
  refine u_cut (fun σ' H' => ∃ (o8 o7 : Option V), σ' = [some (.ref l), some (.int kind), some (.int at_), some (.int turn), some (.int tb.texts.length), some (.ref p), some (.int (i : Int)), o7, o8] ∧ WR H p ns tb.texts.length H') ?_ ?_
  · walk_at "rd"
    refine iteD (fun kk => ?_) (fun kk0 => ?_)
    · walk_at "rd"
      refine u_tyL (sql hp) ?_
      walk_at "rd"
      refine u_popAt (n := i) rfl hp hyi (by omega) ?_
      walk_at "rd"
      refine ⟨_, _, rfl, _, e1.mut hp0, upd_same, by rw [List.length_eraseIdx_of_lt (by omega)]; omega, fun x hx => ?_, Or.inl (by rw [List.length_eraseIdx_of_lt (by omega)]; omega)⟩
      have hx2 : x ∈ ys := List.mem_of_mem_eraseIdx hx
      obtain ⟨a, rfl, _, nap⟩ := al x hx2
      obtain ⟨r, a', e, h⟩ := all _ hx2
      cases e
      exact ⟨r, a, rfl, by rw [upd_ne nap]; exact h⟩
    walk_at "rd"
    refine iteD (fun kk => ?_) (fun kk1 => ?_)
    · walk_at "rd"
      refine u_tyL (sql hp) ?_
      walk_at "rd"
      refine n_listK (k := false) (sql hc) fun q H2 n2 => ?_
      walk_at "rd"
      have hp2 := n2.2.1 _ _ hp
      have hqp : q ≠ p := Ne.symm (ne_of_none hp n2.1)
      refine u_insert (n := i) hp2 rfl (by omega) (by omega) ?_
      walk_at "rd"
      have ln : (ys.take i ++ [V.ref q] ++ ys.drop i).length = ys.length + 1 := by rw [List.length_append, List.length_append, List.length_take, List.length_drop, List.length_singleton]; omega
      refine ⟨_, _, rfl, _, (e1.trans n2.2.1).mut hp0, upd_same, by omega, fun x hx => ?_, Or.inl (by omega)⟩
      have hx2 : x ∈ ys ∨ x = .ref q := by
        rcases List.mem_append.mp hx with hx | hx
        · rcases List.mem_append.mp hx with hx | hx
          · exact Or.inl (List.mem_of_mem_take hx)
          · exact Or.inr (List.mem_singleton.mp hx)
        · exact Or.inl (List.mem_of_mem_drop hx)
      rcases hx2 with hx2 | rfl
      · obtain ⟨a, rfl, _, nap⟩ := al x hx2
        obtain ⟨r, a', e, h⟩ := all _ hx2
        cases e
        exact ⟨r, a, rfl, by rw [upd_ne nap]; exact n2.2.1 _ _ h⟩
      · exact ⟨line, q, rfl, by rw [upd_ne hqp]; exact n2.2.2.1⟩
    walk_at "rd"
    have setK : ∀ (z : Int), ¬ (0 ≤ z ∧ z < (tb.texts.length : Int)) → ∀ R : Hp → Prop, (WR H p ns tb.texts.length (upd H1 c (.lst ((line.set j z).map V.int))) → R (upd H1 c (.lst ((line.set j z).map V.int)))) → rSetL (.ref c) (.int (j : Int)) (.int z) H1 R := fun z bz R hR => by
      refine u_setL (j := j) hc rfl (by rw [List.length_map]; exact hj) ?_
      rw [← List.map_set]
      exact hR (gor H1 _ (Ex.refl _) (not_okStates_set hj bz))
    have popK : ∀ R : V → Hp → Prop, (WR H p ns tb.texts.length (upd H1 c (.lst ((line.eraseIdx j).map V.int))) → R (.int b) (upd H1 c (.lst ((line.eraseIdx j).map V.int)))) → rPopAt (.ref c) [.int (j : Int)] H1 R := fun R hR => by
      refine u_popAt (n := j) rfl hc (mapm hj0) (by omega) ?_
      rw [eraseM]
      exact hR (gor H1 _ (Ex.refl _) (not_okStates_len (by rw [List.length_eraseIdx_of_lt hj]; omega)))
    have rest : kind ≠ 2 → ¬ (kind = 8 ∧ tb.texts.length = 1) → (tIfS (tTest (tOp (uEq K) (tVar 1) (tC (.int 3)))) (tDrop (tBM K "list" rInsert (tVar 7) (tCons (tVar 8) (tCons (tOp (uIx K) (tVar 7) (tVar 8)) tNil)))) (tIfS (tTest (tOp (uEq K) (tVar 1) (tC (.int 4)))) (tAsg (tVar 4) (gSub (tVar 7) (tVar 8) rSetL)) (tIfS (tTest (tOp (uEq K) (tVar 1) (tC (.int 5)))) (tAsg (tUn uNeg (tC (.int 1))) (gSub (tVar 7) (tVar 8) rSetL)) (tIfS (tTest (tOp (uEq K) (tVar 1) (tC (.int 6)))) (tAsg (tOp (uAdd K) (tOp (uAdd K) (tVar 4) (tC (.int 1))) (tVar 3)) (gSub (tVar 7) (tVar 8) rSetL)) (tIfS (tTest (tOp (uEq K) (tVar 1) (tC (.int 7)))) (tAsg (tOp uSub (tOp uSub (tC (.int 0)) (tVar 4)) (tVar 3)) (gSub (tVar 7) (tVar 8) rSetL)) (tSeq (tDrop (tBM K "list" rPopAt (tVar 7) (tCons (tVar 8) tNil))) (tDrop (tBM K "list" rAppend (tOp (uIx K) (tVar 5) (tOp uMod (tOp (uAdd K) (tVar 6) (tC (.int 1))) (tVar 4))) (tCons (tC (.int 0)) tNil))))))))) { nx := fun σ' H' => ∃ (o8 o7 : Option V), σ' = [some (.ref l), some (.int kind), some (.int at_), some (.int turn), some (.int tb.texts.length), some (.ref p), some (.int (i : Int)), o7, o8] ∧ WR H p ns tb.texts.length H', rt := Q } [some (.ref l), some (.int kind), some (.int at_), some (.int turn), some (.int tb.texts.length), some (.ref p), some (.int (i : Int)), some (.ref c), some (.int (j : Int))] H1 := by
      intro kk2 kk8
      walk_at "rd"
      refine iteD (fun kk => ?_) (fun kk3 => ?_)
      · walk_at "rd"
        refine u_tyL (sql hc) ?_
        walk_at "rd"
        refine u_ixL (sql hc) (at_i rfl (mapm hj0)) ?_
        walk_at "rd"
        refine u_insert (n := j) hc rfl (by omega) (by rw [List.length_map]; omega) ?_
        walk_at "rd"
        have e : (line.map V.int).take j ++ [V.int b] ++ (line.map V.int).drop j = (line.take j ++ [b] ++ line.drop j).map V.int := by
          rw [List.map_append, List.map_append, List.map_take, List.map_drop] <;> rfl
        rw [e]
        exact ⟨_, _, rfl, gor H1 _ (Ex.refl _) (not_okStates_len (by rw [List.length_append, List.length_append, List.length_take, List.length_drop, List.length_singleton]; omega))⟩
      walk_at "rd"
      refine iteD (fun kk => ?_) (fun kk4 => ?_)
      · walk_at "rd"
        refine u_gsub ?_
        walk_at "rd"
        exact setK _ (by omega) _ fun h => ⟨_, _, rfl, h⟩
      walk_at "rd"
      refine iteD (fun kk => ?_) (fun kk5 => ?_)
      · walk_at "rd"
        refine u_gsub ?_
        walk_at "rd"
        exact setK _ (by omega) _ fun h => ⟨_, _, rfl, h⟩
      walk_at "rd"
      refine iteD (fun kk => ?_) (fun kk6 => ?_)
      · walk_at "rd"
        refine u_gsub ?_
        walk_at "rd"
        exact setK _ (by omega) _ fun h => ⟨_, _, rfl, h⟩
      walk_at "rd"
      refine iteD (fun kk => ?_) (fun kk7 => ?_)
      · walk_at "rd"
        refine u_gsub ?_
        walk_at "rd"
        exact setK _ (by omega) _ fun h => ⟨_, _, rfl, h⟩
      walk_at "rd"
      have m2 : 2 ≤ tb.texts.length := by omega
      refine u_tyL (sql hc) ?_
      walk_at "rd"
      refine popK _ fun _ => ?_
      have hpc : p ≠ c := fun z => by
        obtain ⟨c', e, _, n⟩ := al _ hye
        cases e
        exact n z.symm
      have hi2 : ((i : Int) + 1).toNat % ((tb.texts.length : Nat) : Int).toNat < tb.texts.length := Nat.mod_lt _ (by omega)
      have ne2 : ((i : Int) + 1).toNat % ((tb.texts.length : Nat) : Int).toNat ≠ i := by
        have e1 : ((i : Int) + 1).toNat = i + 1 := by omega
        have e2 : ((tb.texts.length : Nat) : Int).toNat = tb.texts.length := by omega
        rw [e1, e2]
        by_cases h : i + 1 < tb.texts.length
        · rw [Nat.mod_eq_of_lt h]; omega
        · have : i + 1 = tb.texts.length := by omega
          rw [this, Nat.mod_self]; omega
      walk_at "rd"
      refine u_mod (by omega) ?_
      rw [mod_nat (m := (i : Int) + 1) (n := (tb.texts.length : Int)) (by omega) (by omega)]
      generalize ((i : Int) + 1).toNat % ((tb.texts.length : Nat) : Int).toNat = i2 at hi2 ne2
      have hy2 := List.getElem?_eq_getElem (l := ys) (i := i2) (by omega)
      have hl2 := List.getElem?_eq_getElem (l := tb.lines) (i := i2) (by omega)
      have ok2 := gt.lin (List.getElem_mem (l := tb.lines) (n := i2) (by omega))
      generalize ys[i2]'(by omega) = y2 at hy2
      generalize tb.lines[i2]'(by omega) = row2 at hl2 ok2
      obtain ⟨c2, rfl, hc2⟩ := sq i2 y2 row2 hy2 hl2
      have len2 := okStates_len ok2
      have nn : c2 ≠ c := fun z => by
        subst z
        exact ne2 (nd_ne nd hy2 hyi)
      have c20 : H c2 = none := by
        obtain ⟨c', e, h, _⟩ := al _ (List.mem_of_getElem? hy2)
        cases e
        exact h
      obtain ⟨g1, g2, g3⟩ := rows_upd (row' := line.eraseIdx j) hp hc hye all
      have hc2' : upd H1 c (.lst ((line.eraseIdx j).map V.int)) c2 = some (.lst (row2.map V.int)) := by rw [upd_ne nn]; exact hc2
      have e2 : Ex H (upd H1 c (.lst ((line.eraseIdx j).map V.int))) := e1.mut c0
      generalize upd H1 c (.lst ((line.eraseIdx j).map V.int)) = H2 at g1 g2 g3 e2 hc2'
      obtain ⟨f1, f2, f3⟩ := rows_upd (row' := row2 ++ [0]) g1 hc2' (List.mem_of_getElem? hy2) g2
      refine u_ixL (sql g1) (at_i rfl hy2) ?_
      refine u_tyL (sql hc2') ?_
      walk_at "rd"
      refine u_append hc2' (szLt (by rw [List.length_map]; omega)) ?_
      walk_at "rd"
      have em : row2.map V.int ++ [V.int 0] = (row2 ++ [0]).map V.int := by rw [List.map_append] <;> rfl
      rw [em]
      obtain ⟨c', ec, g4⟩ := g3
      cases ec
      exact ⟨_, _, rfl, ys, e2.mut c20, f1, by omega, f2, Or.inr ⟨_, hye, _, ⟨c, rfl, by rw [upd_ne (Ne.symm nn)]; exact g4⟩, not_okStates_len (by rw [List.length_eraseIdx_of_lt hj]; omega)⟩⟩
    refine iteD (fun kk => ?_) (fun kk2 => ?_)
    · walk_at "rd"
      refine u_tyL (sql hc) ?_
      walk_at "rd"
      exact popK _ fun h => ⟨_, _, rfl, h⟩
    walk_at "rd"
    refine iteD (fun kk8 => ?_) (fun kk8 => ?_)
    · walk_at "rd"
      refine iteD (fun kk1 => ?_) (fun kk1 => ?_)
      · walk_at "rd"
        refine u_tyL (sql hc) ?_
        walk_at "rd"
        exact popK _ fun h => ⟨_, _, rfl, h⟩
      · exact rest kk2 fun z => kk1 (by omega)
    · exact rest kk2 fun z => kk8 z.1
  · rintro σ' H' ⟨o8, o7, rfl, w⟩
    walk_at "rd"
    obtain ⟨rows, e, s, bad, l⟩ := w.fin
    exact fin _ rows H' e s bad l

theorem okMarks_sub {t m : List Nat} (h : okMarks t = true) : (∀ c ∈ t, c ∈ MARKSL) ∧ t.Pairwise (· < ·) := of_decide_eq_true h
theorem pw_marks : MARKSL.Pairwise (· < ·) := by decide
theorem pu_law_wrong_marked (K : PySem.W.Frag) (vs : List V) (H : Hp) (Q : VK) (E : XK) (h : sp_law_wrong_marked K vs H Q E) : t_law_wrong_marked K { nx := fun _ H' => Q .non H', rt := Q } (start N_law_wrong_marked vs) H := by
  obtain ⟨v, tb, kind, at_, turn, rfl, ⟨a, rfl, ha⟩, gb, sm, few, k0, k4, a0, t0, t1, fin⟩ := h
  have m1 : 1 ≤ tb.texts.length := by
    cases e : tb.texts with
    | nil => exact absurd (Or.inl e) gb
    | cons a r => rw [List.length_cons]; omega
  have okt : ∀ t ∈ tb.texts, okMarks t = true := fun t ht => by
    cases e : okMarks t with
    | true => rfl
    | false => exact absurd (Or.inr ⟨t, ht, e⟩) gb
  unfold t_law_wrong_marked
  rw [lit_marks, lit_empty]
  walk_at "rd"
  refine iteD (fun kk => ?_) (fun kk0 => ?_)
  · walk_at "rd"
    exact ⟨by decide, fun q hq => fin _ [] _ (Ex.new hq) ⟨q, rfl, upd_same⟩ (Or.inl rfl) (Nat.zero_le _) (fun _ h => nomatch h)⟩
  walk_at "rd"
  refine u_lenT (sqt ha) ?_
  rw [List.length_map]
  refine u_mod (by omega) ?_
  rw [mod_nat a0 (by omega)]
  have hi : at_.toNat % ((tb.texts.length : Nat) : Int).toNat < tb.texts.length := Nat.mod_lt _ (by omega)
  generalize at_.toNat % ((tb.texts.length : Nat) : Int).toNat = i at hi
  have hti := List.getElem?_eq_getElem hi
  have okx := okt _ (List.getElem_mem hi)
  have smx := sm _ (List.getElem_mem hi)
  generalize tb.texts[i] = t at hti okx smx
  walk_at "rd"
  refine u_ixT (sqt ha) (at_i rfl (mapm hti)) ?_
  walk_at "rd"
  refine u_cut (fun σ' H' => H' = H ∧ ∃ t : List Nat, σ' = [some (.ref a), some (.int kind), some (.int at_), some (.int turn), some (.int (i : Int)), some (sv MARKSL), some (sv t)] ∧ t ≠ [] ∧ t.length ≤ 4 ∧ okMarks t = true) ?_ ?_
  · walk_at "rd"
    refine iteD (fun kk => ?_) (fun kk => ?_)
    · walk_at "rd"
      refine u_mod (by decide) ?_
      rw [mod_nat t0 (by decide)]
      have hj : turn.toNat % (26 : Int).toNat < 26 := Nat.mod_lt _ (by decide)
      generalize turn.toNat % (26 : Int).toNat = j at hj
      have hj0 := List.getElem?_eq_getElem (l := MARKSL) (i := j) hj
      have mem := List.getElem_mem (l := MARKSL) (n := j) hj
      generalize MARKSL[j] = c at hj0 mem
      refine u_ixS (szOf (by decide)) (at_i rfl hj0) ?_
      walk_at "rd"
      exact ⟨rfl, [c], rfl, by simp, by simp, decide_eq_true ⟨fun d hd => by rw [List.mem_singleton.mp hd]; exact mem, List.pairwise_singleton _ _⟩⟩
    · walk_at "rd"
      exact ⟨rfl, t, rfl, kk, smx, okx⟩
  clear hti okx smx
  rintro σ' H' ⟨rfl, t, rfl, tn, tl, okx⟩
  have ok2 : (∀ c ∈ t, c ∈ MARKSL) ∧ t.Pairwise (· < ·) := of_decide_eq_true okx
  walk_at "rd"
  refine ⟨t, MARKSL, [112, 64, 91, 48, 32, 10, 45, 120, 97], kind + 1, turn, rfl, tn, tl, ok2.2, ok2.1, pw_marks, by decide, by decide, by decide, by decide, by decide, t0, t1, ?_⟩
  intro w H1 e1 bw
  walk_at "rd"
  refine n_slT (r := (tb.texts.take i).map sv) (e1 _ _ ha) ((cutL_to _ (n := i) rfl).trans List.map_take.symm) fun p1 H2 e2 h1 => ?_
  walk_at "rd"
  refine ⟨szOf (by show 1 ≤ _; decide), fun q hq => ?_⟩
  have e3 := Ex.new (o := .tup [sv w]) hq
  refine n_addT (e3 _ _ h1) upd_same (szOf (by rw [List.length_map, List.length_take]; show _ + 1 ≤ _; omega)) fun p2 H4 e4 h4 => ?_
  walk_at "rd"
  refine n_slT (r := (tb.texts.drop (i + 1)).map sv) (e4 _ _ (e3 _ _ (e2 _ _ (e1 _ _ ha)))) ((cutL_from _ (n := i + 1) (by omega)).trans List.map_drop.symm) fun p3 H5 e5 h5 => ?_
  refine n_addT (e5 _ _ h4) h5 (szOf (by rw [List.length_append, List.length_map, List.length_map, List.length_take, List.length_drop]; show _ + 1 + _ ≤ _; omega)) fun p4 H6 e6 h6 => ?_
  have em : (tb.texts.take i).map sv ++ [sv w] ++ (tb.texts.drop (i + 1)).map sv = (tb.texts.take i ++ [w] ++ tb.texts.drop (i + 1)).map sv := by rw [List.map_append, List.map_append] <;> rfl
  rw [em] at h6
  refine fin _ _ H6 (((((e1.trans e2).trans e3).trans e4).trans e5).trans e6) ⟨p4, rfl, h6⟩ (Or.inr ⟨w, by simp, ?_⟩) ?_ ?_
  · obtain ⟨wl, b | b | b⟩ := bw
    · omega
    · omega
    · refine decide_eq_false fun z => ?_
      rcases b.2.2 with b | ⟨c, hc, b⟩
      · exact b z.2
      · exact b (z.1 c hc)
  · rw [List.length_append, List.length_append, List.length_take, List.length_drop, List.length_singleton]
    omega
  · refine mem_app (mem_snoc (fun x hx => ?_) (by have := bw.1; omega)) fun x hx => ?_
    · have := sm x (List.mem_of_mem_take hx); omega
    · have := sm x (List.mem_of_mem_drop hx); omega

end K39
set_option Elab.async false
set_option linter.all false
set_option maxRecDepth 100000
set_option maxHeartbeats 2000000
namespace K39
open PySem L2 Uni
local macro_rules | `(tactic| walk_at "rd") => `(tactic| (repeat (first
  | (with_reducible refine u_var (by with_unfolding_all exact rfl) ?_) | (with_reducible refine u_seq ?_) | (with_reducible refine u_asg ?_) | (with_reducible refine u_gname ?_) | (with_reducible refine u_drop ?_) | (with_reducible refine u_ret ?_) | (with_reducible refine u_retN ?_) | (with_reducible refine u_next ?_) | (with_reducible refine u_break ?_) | (with_reducible refine u_cont ?_) | (with_reducible refine u_if ?_) | (with_reducible refine u_c ?_) | (with_reducible refine u_op ?_) | (with_reducible refine u_un ?_) | (with_reducible refine u_test ?_) | (with_reducible refine u_tb ?_) | (with_reducible refine u_bl ?_) | (with_reducible refine u_not ?_) | (with_reducible refine u_and ?_) | (with_reducible refine u_or ?_) | (with_reducible refine u_chain ?_) | (with_reducible refine u_ifE ?_) | (with_reducible refine u_andV ?_) | (with_reducible refine u_orV ?_) | (with_reducible refine u_notV ?_) | (with_reducible refine u_blE ?_) | (with_reducible refine u_nil ?_) | (with_reducible refine u_cons ?_) | (with_reducible refine u_tup ?_) | (with_reducible refine u_lst ?_) | (with_reducible refine u_cb ?_) | (with_reducible refine u_call ?_) | (with_reducible refine u_bm ?_) | (with_reducible refine u_bm0 ?_) | (with_reducible refine u_m1 ?_) | (with_reducible refine u_sl ?_) | (with_reducible refine u_nopart ?_) | (with_reducible refine u_part ?_) | (with_reducible refine u_int ?_) | (with_reducible refine u_yes ?_) | (with_reducible refine u_add ?_) | (with_reducible refine u_sub ?_) | (with_reducible refine u_neg ?_) | (with_reducible refine u_le ?_) | (with_reducible refine u_gt ?_) | (with_reducible refine u_ge ?_) | (with_reducible refine u_lt ?_) | (with_reducible refine u_ltS ?_) | (with_reducible refine u_eqI ?_) | (with_reducible refine u_neI ?_) | (with_reducible refine u_eqS ?_) | (with_reducible refine u_neS ?_) | (with_reducible refine u_eqB ?_) | (with_reducible refine u_neB ?_) | (with_reducible refine u_inS ?_) | (with_reducible refine u_ninS ?_) | (with_reducible refine u_intI ?_) | (with_reducible refine u_intB ?_) | (with_reducible refine u_for ?_) | (with_reducible refine u_iR1 ?_) | (with_reducible refine u_iR2 ?_) | (with_reducible refine u_uni ?_) | (with_reducible refine u_lc ?_)
  | (with_reducible refine iteT ?_) | (with_reducible refine iteF ?_) | (with_reducible refine iteNT ?_) | (with_reducible refine iteNF ?_))))
theorem vals_of' {α : Type} {f : α → V} {p : α → Prop} : ∀ {ys : List V}, (∀ (j : Nat) y, ys[j]? = some y → ∃ v, y = f v ∧ p v) → ∃ vs : List α, ys = vs.map f ∧ ∀ v ∈ vs, p v
  | [], _ => ⟨[], rfl, fun _ h => nomatch h⟩
  | y :: r, h => by
    obtain ⟨v, e, hv⟩ := h 0 y rfl
    obtain ⟨vs, er, hr⟩ := vals_of' (ys := r) fun j z hz => h (j + 1) z (by simpa using hz)
    refine ⟨v :: vs, by rw [e, er] <;> rfl, fun x hx => ?_⟩
    rcases List.mem_cons.mp hx with rfl | hx
    · exact hv
    · exact hr x hx
/-- a comprehension whose items are values f v, p v -/
theorem lc_vals {α : Type} (f : α → V) (p : α → Prop) {J : It} {n : Nat} {G : Hp → Prop} {X : Nat → V → Prop} (w : Walk J n G (fun i H x H' => H' = H ∧ X i x)) {g : TG} {tt : TT} {te : TE} {vs : List Nat} {σ : L2.St} {H1 : Hp} {Q : VK} (hG : ∀ H, Ex H1 H → G H) (hn : n < sizeLine)
    (hs : ∀ i x H, i < n → X i x → Ex H1 H → ∀ (N : V → Hp → Prop) (N' : Hp → Prop), (∀ (v : α) (H' : Hp), Ex H H' → p v → N (f v) H') →
      g x (wipe σ vs) H fun σ2 H2 => wipe σ2 vs = wipe σ vs ∧ tt σ2 H2 fun b H3 => if b = true then te σ2 H3 N else N' H3)
    (hd : ∀ (D : Addr) (vs : List α) (H : Hp), H1 D = none → H D = some (.lst (vs.map f)) → Ex H1 H → vs.length = n → (∀ v ∈ vs, p v) → Q (.ref D) H) : ∀ D, H1 D = none → LcW J g tt te vs σ H1 Q D := by
  refine lc_map w hG hn (fun D j y H => ∃ v, y = f v ∧ p v) (fun _ _ _ _ _ _ h => h) ?_ ?_
  · intro D i x H hi hx hD hacc e N N' hN
    exact hs i x H hi hx e N N' fun v H' e' hv => hN _ _ e' ⟨v, rfl, hv⟩
  · intro D ys H hD hDy e hl hy
    obtain ⟨us, rfl, hp⟩ := vals_of' hy
    exact hd D us H hD hDy e (by rw [List.length_map] at hl; exact hl) hp
/-- rows, each of its own list -/
def RowsAt (H0 : Hp) (l : Addr) (p : List Int → Prop) (xs : List V) (H : Hp) : Prop := ∀ x ∈ xs, ∃ (c : Addr) (row : List Int), x = .ref c ∧ H c = some (.lst (row.map V.int)) ∧ p row ∧ H0 c = none ∧ c ≠ l
theorem lc_rows {p : List Int → Prop} {J : It} {n : Nat} {G : Hp → Prop} {X : Nat → V → Prop} (w : Walk J n G (fun i H x H' => H' = H ∧ X i x)) {g : TG} {tt : TT} {te : TE} {vs : List Nat} {σ : L2.St} {H1 : Hp} {Q : VK} (hG : ∀ H, Ex H1 H → G H) (hn : n < sizeLine)
    (hs : ∀ i x H, i < n → X i x → Ex H1 H → ∀ (N : V → Hp → Prop) (N' : Hp → Prop), (∀ (c : Addr) (row : List Int) (H' : Hp), Ex H H' → H c = none → H' c = some (.lst (row.map V.int)) → p row → N (.ref c) H') →
      g x (wipe σ vs) H fun σ2 H2 => wipe σ2 vs = wipe σ vs ∧ tt σ2 H2 fun b H3 => if b = true then te σ2 H3 N else N' H3)
    (hd : ∀ (D : Addr) (xs : List V) (H : Hp), H1 D = none → H D = some (.lst xs) → Ex H1 H → xs.length = n → RowsAt H1 D p xs H → Q (.ref D) H) : ∀ D, H1 D = none → LcW J g tt te vs σ H1 Q D := by
  refine lc_map w hG hn (fun D j y H => ∃ (c : Addr) (row : List Int), y = .ref c ∧ H c = some (.lst (row.map V.int)) ∧ p row ∧ H1 c = none ∧ c ≠ D) ?_ ?_ ?_
  · rintro D j y H H' k ⟨c, row, e1, e2, e3, e4, e5⟩
    exact ⟨c, row, e1, k _ _ e5 e2, e3, e4, e5⟩
  · rintro D i x H hi hx hD ⟨acc, hacc⟩ e N N' hN
    exact hs i x H hi hx e N N' fun c row H' e' hc hc' hp => hN _ _ e' ⟨c, row, rfl, hc', hp, e.free hc, Ne.symm (ne_of_none hacc hc)⟩
  · intro D ys H hD hDy e hl hy
    refine hd D ys H hD hDy e hl fun x hx => ?_
    obtain ⟨i, hi, ei⟩ := List.mem_iff_getElem.mp hx
    exact hy i x (by rw [List.getElem?_eq_getElem hi, ei])
theorem RowsAt.ex {H0 H H' : Hp} {l : Addr} {p : List Int → Prop} {xs : List V} (e : Ex H H') (h : RowsAt H0 l p xs H) : RowsAt H0 l p xs H' := fun x hx => let ⟨c, row, e1, e2, e3⟩ := h x hx; ⟨c, row, e1, e _ _ e2, e3⟩
theorem RowsAt.rows {H0 H : Hp} {l : Addr} {p : List Int → Prop} : ∀ {xs : List V}, RowsAt H0 l p xs H → ∃ rows : List (List Int), xs.length = rows.length ∧ (∀ (i : Nat) x row, xs[i]? = some x → rows[i]? = some row → SeqI false H x row) ∧ ∀ row ∈ rows, p row
  | [], _ => ⟨[], rfl, fun i x row h => by simp at h, fun _ h => nomatch h⟩
  | x :: r, h => by
    obtain ⟨c, row, e1, e2, e3, _⟩ := h x List.mem_cons_self
    obtain ⟨rows, e, g, q⟩ := RowsAt.rows (xs := r) fun y hy => h y (List.mem_cons_of_mem _ hy)
    refine ⟨row :: rows, by rw [List.length_cons, List.length_cons, e], fun i y rw' h1 h2 => ?_, fun z hz => ?_⟩
    · cases i with
      | zero =>
        cases h1
        cases h2
        exact ⟨c, e1, e2⟩
      | succ i => exact g i y rw' (by simpa using h1) (by simpa using h2)
    · rcases List.mem_cons.mp hz with rfl | hz
      · exact e3
      · exact q z hz
/-- the digit that the i-th size gives -/
theorem dig {ds zs : List Int} (hl : ds.length = zs.length) (hb : ∀ (i : Nat) d z, ds[i]? = some d → zs[i]? = some z → 0 ≤ d ∧ d < z) (i : Nat) {z : Int} (hz : zs[i]? = some z) : ∃ d, ds[i]? = some d ∧ 0 ≤ d ∧ d < z := by
  have hi : i < ds.length := by
    have := (List.getElem?_eq_some_iff.mp hz).1
    omega
  exact ⟨ds[i], List.getElem?_eq_getElem hi, hb i _ z (List.getElem?_eq_getElem hi) hz⟩
theorem okStates_of {l : List Int} {c m : Nat} (h : l.length = c) (h' : ∀ n ∈ l, 0 ≤ n ∧ n < (m : Int)) : okStates l c m = true := decide_eq_true ⟨h, h'⟩
theorem sub_marks {t m : List Nat} (h : t.Sublist m) (k : Marks4 m) : okMarks t = true ∧ t.length ≤ 4 := ⟨decide_eq_true ⟨fun c hc => k.2.1 c (h.subset hc), k.2.2.sublist h⟩, by have := h.length_le; have := k.1; omega⟩
theorem good_of {ns nr many : Nat} {bs : List Int} {rows : List (List Int)} {ts : List (List Nat)} {m : List Nat} (k : Marks4 m) (h1 : 1 ≤ many) (h4 : many ≤ 400) (hb : okStates bs nr many = true) (hl : rows.length = many) (hr : ∀ row ∈ rows, okStates row ns many = true) (ht : ts.length = many) (hs : ∀ t ∈ ts, t.Sublist m) :
    GoodTb ns nr ⟨bs, rows, ts⟩ ∧ Small ⟨bs, rows, ts⟩ := by
  subst ht
  refine ⟨⟨?_, ?_, ?_, h4, fun t h => ?_⟩, fun t h => (sub_marks (hs t h) k).2⟩
  · rintro (h | ⟨t, h, b⟩)
    · have h : ts = [] := h
      rw [h] at h1
      exact absurd h1 (by decide)
    · rw [(sub_marks (hs t h) k).1] at b
      cases b
  · rintro (h | ⟨l, h, b⟩)
    · exact h hl
    · have := hr l h
      have b : okStates l ns ts.length = false := b
      rw [this] at b
      cases b
  · intro b
    have b : okStates bs nr ts.length = false := b
    rw [hb] at b
    cases b
  · have := (sub_marks (hs t h) k).2
    omega
theorem pu_law_large (K : PySem.W.Frag) (vs : List V) (H : Hp) (Q : VK) (E : XK) (h : sp_law_large K vs H Q E) : t_law_large K { nx := fun _ H' => Q .non H', rt := Q } (start N_law_large vs) H := by
  obtain ⟨p, c, s, r, m, rfl, hp, gs, gm, k⟩ := h
  have sl := gs.sl
  unfold t_law_large
  walk_at "rd"
  refine ⟨by decide, fun z0 hz0 => ?_⟩
  walk_at "rd"
  refine ⟨c, z0, [361, 400, 400, 400, 16, 400, 400], rfl, upd_same, by decide, by decide, ?_⟩
  intro ds q H1 e1 hq0 hq hlen hb
  have e1 : Ex H H1 := (Ex.new hz0).trans e1
  obtain ⟨d0, a0, b0, c0⟩ := dig hlen hb 0 rfl
  obtain ⟨d4, a4, b4, c4⟩ := dig hlen hb 4 rfl
  obtain ⟨d5, a5, b5, c5⟩ := dig hlen hb 5 rfl
  obtain ⟨d6, a6, b6, c6⟩ := dig hlen hb 6 rfl
  have hds : ∀ i, i < 3 → ∃ d, ds[1 + i]? = some d ∧ 0 ≤ d := fun i hi => by
    have : i = 0 ∨ i = 1 ∨ i = 2 := by omega
    rcases this with rfl | rfl | rfl
    · obtain ⟨d, h1, h2, _⟩ := dig hlen hb 1 rfl; exact ⟨d, h1, h2⟩
    · obtain ⟨d, h1, h2, _⟩ := dig hlen hb 2 rfl; exact ⟨d, h1, h2⟩
    · obtain ⟨d, h1, h2, _⟩ := dig hlen hb 3 rfl; exact ⟨d, h1, h2⟩
  walk_at "rd"
  refine u_ixL (sql hq) (at_i (n := 0) rfl (mapm a0)) ?_
  walk_at "rd"
  have em : (40 : Int) + d0 = ((40 + d0.toNat : Nat) : Int) := by omega
  rw [em]
  have hm1 : 40 ≤ 40 + d0.toNat := by omega
  have hm2 : 40 + d0.toNat ≤ 400 := by omega
  generalize 40 + d0.toNat = many at hm1 hm2
  refine u_ixL (sql (e1 _ _ hp)) (at_i (n := 1) rfl rfl) ?_
  walk_at "rd"
  refine u_lenS (szOf (by omega)) ?_
  walk_at "rd"
  refine ⟨_, rfl, by omega, by omega, ?_⟩
  rw [Int.toNat_natCast]
  refine lc_vals V.int (fun v => 0 ≤ v ∧ v < (many : Int)) (walk_rX (n := r.length)) (fun _ _ => trivial) (szLt (by omega)) ?_ ?_
  · rintro i x H' hi rfl e N N' hN
    obtain ⟨d, hd, d0⟩ := hds i (by omega)
    walk_at "rd"
    refine ⟨rfl, ?_⟩
    walk_at "rd"
    refine u_ixL (sql (e _ _ hq)) (at_i (n := 1 + i) (by omega) (mapm hd)) ?_
    walk_at "rd"
    refine u_mod (by omega) ?_
    exact hN _ _ (Ex.refl _) ⟨Int.emod_nonneg _ (by omega), Int.emod_lt_of_pos _ (by omega)⟩
  intro b bs H2 hb0 hbs e2 lbs pbs
  walk_at "rd"
  refine ⟨by decide, fun l hl0 => ?_⟩
  have e3 := Ex.new (o := .lst []) hl0
  walk_at "rd"
  refine ⟨_, rfl, by omega, by omega, ?_⟩
  have e03 := e2.trans e3
  refine for_r0 (n := many) (by omega) (fun i σ H' => ∃ (xs : List V) (o6 o8 : Option V), σ = [some (.ref p), some (.int c), some (.ref q), some (.int many), some (.ref b), some (.ref l), o6, none, o8, none] ∧ Ex H2 H' ∧ H' l = some (.lst xs) ∧ xs.length = i ∧ RowsAt H2 l (fun row => okStates row s.length many = true) xs H')
    ⟨[], _, _, rfl, e3, upd_same, rfl, fun _ h => nomatch h⟩ ?_ ?_
  · rintro i σ H' hi ⟨xs, o6, o8, rfl, e, hl, lx, rx⟩
    walk_at "rd"
    refine u_mod (by omega) ?_
    walk_at "rd"
    refine u_mul (Or.inl ⟨by decide, by decide⟩) ?_
    walk_at "rd"
    refine u_ixL (sql (e _ _ (e2 _ _ hq))) (at_i (n := 5) rfl (mapm a5)) ?_
    walk_at "rd"
    refine u_mod (by omega) ?_
    walk_at "rd"
    refine u_mul (Or.inl ⟨by omega, by omega⟩) ?_
    walk_at "rd"
    refine u_ixL (sql (e _ _ (e2 _ _ hq))) (at_i (n := 6) rfl (mapm a6)) ?_
    walk_at "rd"
    refine u_mod (by omega) ?_
    walk_at "rd"
    refine ⟨szOf (by show 3 ≤ _; decide), fun c1 hc1 => ?_⟩
    have n1 := New.mk (o := .lst [.int (((i : Int) + 1) % many), .int ((2 * (i : Int) + d5) % many), .int (((i : Int) * i + d6) % many)]) hc1
    walk_at "rd"
    refine u_tyL (sql (n1.2.1 _ _ hl)) ?_
    walk_at "rd"
    refine u_ixL (sql (n1.2.1 _ _ (e _ _ (e2 _ _ (e1 _ _ hp))))) (at_i (n := 0) rfl rfl) ?_
    walk_at "rd"
    refine u_lenS (szOf (by omega)) ?_
    walk_at "rd"
    refine n_slL (r := (([((i : Int) + 1) % many, (2 * (i : Int) + d5) % many, ((i : Int) * i + d6) % many].take s.length).map V.int)) (sql n1.2.2.1) ((cutL_to _ (n := s.length) rfl).trans (List.map_take (f := V.int) (l := [((i : Int) + 1) % many, (2 * (i : Int) + d5) % many, ((i : Int) * i + d6) % many])).symm) fun c2 H4 n2 => ?_
    walk_at "rd"
    have e4 := n1.2.1.trans n2.2.1
    refine u_append (e4 _ _ hl) (szLt (by omega)) ?_
    walk_at "rd"
    have lc : c2 ≠ l := Ne.symm (ne_of_none (n1.2.1 _ _ hl) n2.1)
    refine ⟨_, _, _, rfl, (e.trans e4).mut hl0, upd_same, by rw [List.length_append, List.length_singleton, lx], mem_snoc (fun x hx => ?_) ⟨c2, _, rfl, off lc n2.2.2.1, okStates_of ?_ ?_, e.free (n1.2.1.free n2.1), lc⟩⟩
    · obtain ⟨c', row, h1, h2, h3, h4, h5⟩ := rx x hx
      exact ⟨c', row, h1, off h5 (e4 _ _ h2), h3, h4, h5⟩
    · rw [List.length_take]; show min _ 3 = _; omega
    · intro n hn
      have hn := List.mem_of_mem_take hn
      simp only [List.mem_cons, List.mem_nil_iff, or_false] at hn
      rcases hn with rfl | rfl | rfl <;> exact ⟨Int.emod_nonneg _ (by omega), Int.emod_lt_of_pos _ (by omega)⟩
  · rintro σ H' ⟨xs, o6, o8, rfl, e, hl, lx, rx⟩
    walk_at "rd"
    refine ⟨_, rfl, by omega, by omega, ?_⟩
    rw [Int.toNat_natCast]
    refine lc_vals sv (fun t => t.Sublist m) (walk_rX (n := many)) (fun _ _ => trivial) (szLt (by omega)) ?_ ?_
    · rintro i x H' hi rfl e4 N N' hN
      walk_at "rd"
      refine ⟨rfl, ?_⟩
      walk_at "rd"
      refine u_ixL (sql (e4 _ _ (e _ _ (e2 _ _ (e1 _ _ hp))))) (at_i (n := 2) rfl rfl) ?_
      walk_at "rd"
      refine u_mul (Or.inl ⟨by omega, by omega⟩) ?_
      walk_at "rd"
      refine u_ixL (sql (e4 _ _ (e _ _ (e2 _ _ hq)))) (at_i (n := 4) rfl (mapm a4)) ?_
      walk_at "rd"
      refine u_mul (Or.inl ⟨by omega, by omega⟩) ?_
      walk_at "rd"
      refine u_fdv ⟨by decide, by decide⟩ ?_
      walk_at "rd"
      refine u_mod (by decide) ?_
      walk_at "rd"
      exact ⟨m, _, rfl, gm.1, fun t H5 e5 sub => hN _ _ e5 sub⟩
    intro tx ts H5 ht0 hts e5 lts pts
    walk_at "rd"
    refine ⟨szOf (by show 3 ≤ _; decide), fun u hu => ?_⟩
    have e6 := Ex.new (o := .lst [.ref b, .ref l, .ref tx]) hu
    obtain ⟨rows, er, hr, pr⟩ := (rx.ex (e5.trans e6)).rows
    obtain ⟨g1, g2⟩ := good_of (ns := s.length) (nr := r.length) (bs := bs) gm (by omega) hm2 (okStates_of lbs pbs) (by omega) pr lts pts
    exact k _ ⟨bs, rows, ts⟩ _ ((((e1.trans e2).trans e).trans e5).trans e6) ⟨u, .ref b, .ref l, .ref tx, rfl, upd_same, ⟨b, rfl, e6 _ _ (e5 _ _ (e _ _ hbs))⟩, ⟨l, xs, rfl, e6 _ _ (e5 _ _ hl), er, hr⟩, ⟨tx, rfl, e6 _ _ hts⟩⟩ g1 g2

end K39
set_option Elab.async false
set_option linter.all false
set_option maxRecDepth 100000
set_option maxHeartbeats 2000000
namespace K39
open PySem L2 Uni
local macro_rules | `(tactic| walk_at "rd") => `(tactic| (repeat (first
  | (with_reducible refine u_var (by with_unfolding_all exact rfl) ?_) | (with_reducible refine u_seq ?_) | (with_reducible refine u_asg ?_) | (with_reducible refine u_gname ?_) | (with_reducible refine u_drop ?_) | (with_reducible refine u_ret ?_) | (with_reducible refine u_retN ?_) | (with_reducible refine u_next ?_) | (with_reducible refine u_break ?_) | (with_reducible refine u_cont ?_) | (with_reducible refine u_if ?_) | (with_reducible refine u_c ?_) | (with_reducible refine u_op ?_) | (with_reducible refine u_un ?_) | (with_reducible refine u_test ?_) | (with_reducible refine u_tb ?_) | (with_reducible refine u_bl ?_) | (with_reducible refine u_not ?_) | (with_reducible refine u_and ?_) | (with_reducible refine u_or ?_) | (with_reducible refine u_chain ?_) | (with_reducible refine u_ifE ?_) | (with_reducible refine u_andV ?_) | (with_reducible refine u_orV ?_) | (with_reducible refine u_notV ?_) | (with_reducible refine u_blE ?_) | (with_reducible refine u_nil ?_) | (with_reducible refine u_cons ?_) | (with_reducible refine u_tup ?_) | (with_reducible refine u_lst ?_) | (with_reducible refine u_cb ?_) | (with_reducible refine u_call ?_) | (with_reducible refine u_bm ?_) | (with_reducible refine u_bm0 ?_) | (with_reducible refine u_m1 ?_) | (with_reducible refine u_sl ?_) | (with_reducible refine u_nopart ?_) | (with_reducible refine u_part ?_) | (with_reducible refine u_int ?_) | (with_reducible refine u_yes ?_) | (with_reducible refine u_add ?_) | (with_reducible refine u_sub ?_) | (with_reducible refine u_neg ?_) | (with_reducible refine u_le ?_) | (with_reducible refine u_gt ?_) | (with_reducible refine u_ge ?_) | (with_reducible refine u_lt ?_) | (with_reducible refine u_ltS ?_) | (with_reducible refine u_eqI ?_) | (with_reducible refine u_neI ?_) | (with_reducible refine u_eqS ?_) | (with_reducible refine u_neS ?_) | (with_reducible refine u_eqB ?_) | (with_reducible refine u_neB ?_) | (with_reducible refine u_inS ?_) | (with_reducible refine u_ninS ?_) | (with_reducible refine u_intI ?_) | (with_reducible refine u_intB ?_) | (with_reducible refine u_for ?_) | (with_reducible refine u_iR1 ?_) | (with_reducible refine u_iR2 ?_) | (with_reducible refine u_uni ?_) | (with_reducible refine u_lc ?_)
  | (with_reducible refine iteT ?_) | (with_reducible refine iteF ?_) | (with_reducible refine iteNT ?_) | (with_reducible refine iteNF ?_))))
theorem okStates_set {l : List Int} {c m j : Nat} {v : Int} (h : okStates l c m = true) (h0 : 0 ≤ v) (h1 : v < (m : Int)) : okStates (l.set j v) c m = true :=
  okStates_of (by rw [List.length_set]; exact okStates_len h) fun n hn => by
    rcases List.mem_or_eq_of_mem_set hn with hn | rfl
    · exact okStates_mem h hn
    · exact ⟨h0, h1⟩
/-- begins at b, lines at l, all new since H0 -/
structure LB (H0 : Hp) (b l : Addr) (xl : List V) (nr ns many : Nat) (H : Hp) : Prop where
  e : Ex H0 H
  b0 : H0 b = none
  bl : b ≠ l
  hb : ∃ bs : List Int, H b = some (.lst (bs.map V.int)) ∧ okStates bs nr many = true
  hl : H l = some (.lst xl)
  ll : xl.length = many
  rows : ∀ x ∈ xl, ∃ (c : Addr) (row : List Int), x = .ref c ∧ H c = some (.lst (row.map V.int)) ∧ okStates row ns many = true ∧ H0 c = none ∧ c ≠ l ∧ c ≠ b
theorem LB.ex {H0 : Hp} {b l : Addr} {xl : List V} {nr ns many : Nat} {H H' : Hp} (g : Ex H H') (h : LB H0 b l xl nr ns many H) : LB H0 b l xl nr ns many H' :=
  ⟨h.e.trans g, h.b0, h.bl, let ⟨bs, h1, h2⟩ := h.hb; ⟨bs, g _ _ h1, h2⟩, g _ _ h.hl, h.ll, fun x hx => let ⟨c, row, e1, e2, e3⟩ := h.rows x hx; ⟨c, row, e1, g _ _ e2, e3⟩⟩
/-- another list changes -/
theorem LB.other {H0 : Hp} {b l q : Addr} {xl : List V} {nr ns many : Nat} {H : Hp} {o : HO} (h : LB H0 b l xl nr ns many H) (q0 : H0 q = none) (qb : q ≠ b) (ql : q ≠ l) (qx : V.ref q ∉ xl) : LB H0 b l xl nr ns many (upd H q o) :=
  ⟨h.e.mut q0, h.b0, h.bl, let ⟨bs, h1, h2⟩ := h.hb; ⟨bs, off (Ne.symm qb) h1, h2⟩, off (Ne.symm ql) h.hl, h.ll, fun x hx => by
    obtain ⟨c, row, rfl, e2, e3⟩ := h.rows x hx
    exact ⟨c, row, rfl, off (fun z => qx (by rw [← z]; exact hx)) e2, e3⟩⟩
theorem LB.setB {H0 : Hp} {b l : Addr} {xl : List V} {nr ns many : Nat} {H : Hp} (h : LB H0 b l xl nr ns many H) {bs' : List Int} (ok : okStates bs' nr many = true) : LB H0 b l xl nr ns many (upd H b (.lst (bs'.map V.int))) :=
  ⟨h.e.mut h.b0, h.b0, h.bl, ⟨_, upd_same, ok⟩, off (Ne.symm h.bl) h.hl, h.ll, fun x hx => by
    obtain ⟨c, row, rfl, e2, e3, e4, e5, e6⟩ := h.rows x hx
    exact ⟨c, row, rfl, off e6 e2, e3, e4, e5, e6⟩⟩
theorem LB.setL {H0 : Hp} {b l c : Addr} {xl : List V} {nr ns many : Nat} {H : Hp} (h : LB H0 b l xl nr ns many H) {row' : List Int} (hc : V.ref c ∈ xl) (ok : okStates row' ns many = true) : LB H0 b l xl nr ns many (upd H c (.lst (row'.map V.int))) := by
  obtain ⟨c', row, ec, d2, d3, d4, d5, d6⟩ := h.rows _ hc
  cases ec
  refine ⟨h.e.mut d4, h.b0, h.bl, let ⟨bs, h1, h2⟩ := h.hb; ⟨bs, off (Ne.symm d6) h1, h2⟩, off (Ne.symm d5) h.hl, h.ll, fun x hx => ?_⟩
  obtain ⟨c2, row2, rfl, e2, e3, e4, e5, e6⟩ := h.rows x hx
  by_cases z : c2 = c
  · subst z
    exact ⟨c2, row', rfl, upd_same, ok, e4, e5, e6⟩
  · exact ⟨c2, row2, rfl, off z e2, e3, e4, e5, e6⟩
def slotOk (last nr ns : Nat) (a k : Int) : Prop := 0 ≤ k ∧ ((a = (last : Int) ∧ k < (nr : Int)) ∨ (0 ≤ a ∧ a < (last : Int) ∧ k < (ns : Int)))
def SlotsAt (P : Int → Int → Prop) (H : Hp) (xs : List V) : Prop := ∀ x ∈ xs, ∃ (T : Addr) (a k : Int), x = .ref T ∧ H T = some (.tup [.int a, .int k]) ∧ P a k
theorem SlotsAt.tk {P : Int → Int → Prop} {H H' : Hp} {xs : List V} (e : TK H H') (h : SlotsAt P H xs) : SlotsAt P H' xs := fun x hx => let ⟨T, a, k, h1, h2, h3⟩ := h x hx; ⟨T, a, k, h1, e _ _ h2, h3⟩
theorem lc_slots {P : Int → Int → Prop} {n : Nat} {a : Int} {te : TE} {σ : L2.St} {H1 : Hp} {Q : VK} {i : Nat} (hw : ∀ v : V, wipe ((wipe σ [i]).set i (some v)) [i] = wipe σ [i]) (hn : n ≤ 1000)
    (hte : ∀ (k : Nat) (H : Hp) (R : VK), k < n → (∀ T H', New H H' T (.tup [.int a, .int k]) → R (.ref T) H') → te ((wipe σ [i]).set i (some (.int k))) H R) (hP : ∀ k : Nat, k < n → P a k)
    (hq : ∀ (D : Addr) (xs : List V) (H' : Hp), H1 D = none → Ex H1 H' → H' D = some (.lst xs) → xs.length = n → SlotsAt P H' xs → Q (.ref D) H') : ∀ D, H1 D = none → LcW (Itr 0 n) (gName i) tYes te [i] σ H1 Q D := by
  refine lc_map (walk_rX (n := n)) (fun _ _ => trivial) (szLt (by omega)) (fun D j y H => ∃ (T : Addr) (a k : Int), y = .ref T ∧ H T = some (.tup [.int a, .int k]) ∧ P a k ∧ T ≠ D) ?_ ?_ ?_
  · rintro D j y H H' kk ⟨T, a, k, h1, h2, h3, h4⟩
    exact ⟨T, a, k, h1, kk _ _ h4 h2, h3, h4⟩
  · rintro D j x H hj rfl hD ⟨acc, hacc⟩ e N N' hN
    refine u_gname ⟨hw _, u_yes (iteT (hte j H _ hj fun T H' nw => hN _ H' nw.2.1 ⟨T, a, j, rfl, nw.2.2.1, hP j hj, Ne.symm (ne_of_none hacc nw.1)⟩))⟩
  · intro D ys H hD hDy e hl hy
    refine hq D ys H hD e hDy hl fun x hx => ?_
    obtain ⟨i, hi, ei⟩ := List.mem_iff_getElem.mp hx
    obtain ⟨T, a, k, h1, h2, h3, _⟩ := hy i x (by rw [List.getElem?_eq_getElem hi, ei])
    exact ⟨T, a, k, h1, h2, h3⟩
def tt_tree (K : PySem.W.Frag) : TS := (tIfS (tTest (tOp uGe (tOp (uIx K) (tVar 4) (tC (.int 0))) (tC (.int 5)))) (tSeq (tAsg (tOp uSub (tVar 6) (tC (.int 1))) (gName 13)) (tSeq (tAsg (tLc (iUni K (tOp (uIx K) (tVar 0) (tC (.int 1)))) (gName 19) tYes (tVar 13) [19]) (gName 7)) (tSeq (tAsg (tLc (iRng1 (tCons (tVar 6) tNil)) (gName 12) tYes (tLc (iUni K (tOp (uIx K) (tVar 0) (tC (.int 0)))) (gName 19) tYes (tVar 13) [19]) [12]) (gName 8)) (tSeq (tAsg (tLc (iRng1 (tCons (tCB (uLen K) (tCons (tOp (uIx K) (tVar 0) (tC (.int 1))) tNil)) tNil)) (gName 15) tYes (tTup (tCons (tVar 13) (tCons (tVar 15) tNil))) [15]) (gName 14)) (tSeq (tFor (iRng1 (tCons (tVar 13) tNil)) (gName 12) (tSeq (tAsg (tBM K "list" rPopAt (tVar 14) (tCons (tOp uMod (tOp (uIx K) (tVar 5) (tOp (uAdd K) (tC (.int 7)) (tVar 12))) (tCB (uLen K) (tCons (tVar 14) tNil))) tNil)) (gName 16)) (C8.tCut (tIfS (tTest (tOp (uEq K) (tOp (uIx K) (tVar 16) (tC (.int 0))) (tVar 13))) (tAsg (tVar 12) (gSub (tVar 7) (tOp (uIx K) (tVar 16) (tC (.int 1))) rSetL)) (tSeq (tAsg (tOp (uIx K) (tVar 8) (tOp (uIx K) (tVar 16) (tC (.int 0)))) (gName 17)) (tAsg (tVar 12) (gSub (tVar 17) (tOp (uIx K) (tVar 16) (tC (.int 1))) rSetL)))) (tAsg (tOp (uAdd K) (tVar 14) (tLc (iRng1 (tCons (tVar 3) tNil)) (gName 15) tYes (tTup (tCons (tVar 12) (tCons (tVar 15) tNil))) [15])) (gName 14))))) (tIfS (tTest (tOp (uEq K) (tOp (uIx K) (tVar 5) (tC (.int 13))) (tC (.int 1)))) (tSeq (tAsg (tOp (uIx K) (tVar 8) (tOp uMod (tOp (uIx K) (tVar 5) (tC (.int 14))) (tVar 6))) (gName 17)) (tAsg (tOp uMod (tOp (uIx K) (tVar 5) (tC (.int 16))) (tVar 6)) (gSub (tVar 17) (tOp uMod (tOp (uIx K) (tVar 5) (tC (.int 15))) (tVar 3)) rSetL))) tNext)))))) tNext)
theorem tree (K : PySem.W.Frag) {D : Ends} {H0 H : Hp} {p q1 q2 b l : Addr} {c o : Int} {s r m : List Nat} {ds es : List Int} {many : Nat} {xl : List V} {o12 o15 : Option V} (hs : H0 p = some (.lst [sv s, sv r, sv m])) (sl : 1 ≤ s.length ∧ s.length ≤ 3 ∧ 1 ≤ r.length ∧ r.length ≤ 3)
    (h1 : H0 q1 = some (.lst (ds.map V.int))) (h2 : H0 q2 = some (.lst (es.map V.int))) {d0 : Int} (hd0 : ds[0]? = some d0) (hes : ∀ i, i < 17 → ∃ e, es[i]? = some e ∧ 0 ≤ e) (m1 : 1 ≤ many) (m7 : many ≤ 7)
    (lb : LB H0 b l xl r.length s.length many H)
    (fin : ∀ (b l : Addr) (xl : List V) (H' : Hp) (o12 o13 o14 o15 o16 o17 : Option V), LB H0 b l xl r.length s.length many H' → D.nx [some (.ref p), some (.int c), some (.int o), some (.int s.length), some (.ref q1), some (.ref q2), some (.int many), some (.ref b), some (.ref l), none, none, none, o12, o13, o14, o15, o16, o17, none, none] H') :
    tt_tree K D [some (.ref p), some (.int c), some (.int o), some (.int s.length), some (.ref q1), some (.ref q2), some (.int many), some (.ref b), some (.ref l), none, none, none, o12, none, none, o15, none, none, none, none] H := by
  unfold tt_tree
  walk_at "rd"
  refine u_ixL (sql (lb.e _ _ h1)) (at_i (n := 0) rfl (mapm hd0)) ?_
  walk_at "rd"
  refine iteD (fun kk => ?_) (fun kk => ?_)
  case refine_2 =>
    walk_at "rd"
    exact fin b l xl H _ _ _ _ _ _ lb
  have e00 := lb.e
  clear lb xl
  walk_at "rd"
  have el : (many : Int) - 1 = ((many - 1 : Nat) : Int) := by omega
  rw [el]
  have hlast : many - 1 + 1 = many := by omega
  generalize many - 1 = last at hlast
  refine u_ixL (sql (e00 _ _ hs)) (at_i (n := 1) rfl rfl) ?_
  show ∀ D, H D = none → LcW (Its (S r)) _ _ _ _ _ _ _ D
  refine lc_vals V.int (fun v => v = (last : Int)) walk_tX (fun _ _ => trivial) (szLt (by omega)) ?_ ?_
  · rintro i x H' hi ⟨ch, hch, rfl⟩ e N N' hN
    walk_at "rd"
    refine ⟨rfl, ?_⟩
    walk_at "rd"
    exact hN _ _ (Ex.refl _) rfl
  intro b bs H1 hb0 hb e1 lb pb
  walk_at "rd"
  refine ⟨_, rfl, by omega, by omega, ?_⟩
  rw [Int.toNat_natCast]
  refine lc_rows (p := fun row => okStates row s.length many = true) (walk_rX (n := many)) (fun _ _ => trivial) (szLt (by omega)) ?_ ?_
  · rintro i x H' hi rfl e N N' hN
    walk_at "rd"
    refine ⟨rfl, ?_⟩
    walk_at "rd"
    refine u_ixL (sql (e _ _ (e1 _ _ (e00 _ _ hs)))) (at_i (n := 0) rfl rfl) ?_
    show ∀ D, H' D = none → LcW (Its (S s)) _ _ _ _ _ _ _ D
    refine lc_vals V.int (fun v => v = (last : Int)) walk_tX (fun _ _ => trivial) (szLt (by omega)) ?_ ?_
    · rintro i x H' hi ⟨ch, hch, rfl⟩ e N N' hN
      walk_at "rd"
      refine ⟨rfl, ?_⟩
      walk_at "rd"
      exact hN _ _ (Ex.refl _) rfl
    intro c ns H2 hc0 hc e2 ln pn
    exact hN c ns H2 e2 hc0 hc (okStates_of ln fun n hn => by rw [pn n hn]; omega)
  intro l xl H2 hl0 hl e2 ll rx
  have e02 := (e00.trans e1).trans e2
  have lb : LB H0 b l xl r.length s.length many H2 := ⟨e02, e00.free hb0, ne_of_none hb hl0, ⟨bs, e2 _ _ hb, okStates_of lb fun n hn => by rw [pb n hn]; omega⟩, hl, ll, fun x hx => by
    obtain ⟨c, row, h1, h2, h3, h4, h5⟩ := rx x hx
    exact ⟨c, row, h1, h2, h3, e00.free (e1.free h4), h5, Ne.symm (ne_of_none hb h4)⟩⟩
  clear rx hl ll hl0 pb hb hb0 e1 e00 e2
  walk_at "rd"
  refine u_ixL (sql (e02 _ _ hs)) (at_i (n := 1) rfl rfl) ?_
  walk_at "rd"
  refine u_lenS (szOf (by omega)) ?_
  walk_at "rd"
  refine ⟨_, rfl, by omega, by omega, ?_⟩
  rw [Int.toNat_natCast]
  refine lc_slots (P := slotOk last r.length s.length) (a := last) (n := r.length) (fun _ => rfl) (by omega) (fun k H R hk hR => ?_) (fun k hk => ⟨by omega, Or.inl ⟨rfl, by omega⟩⟩) ?_
  · walk_at "rd"
    exact ⟨szOf (by show 2 ≤ _; decide), fun T hT => hR T _ (.mk hT)⟩
  intro q ss H3 hq0 e3 hq lss sss
  walk_at "rd"
  refine ⟨_, rfl, by omega, by omega, ?_⟩
  refine for_r0 (n := last) (by omega) (fun i σ H' => ∃ (q : Addr) (ss : List V) (o12 o15 o16 o17 : Option V), σ = [some (.ref p), some (.int c), some (.int o), some (.int s.length), some (.ref q1), some (.ref q2), some (.int many), some (.ref b), some (.ref l), none, none, none, o12, some (.int last), some (.ref q), o15, o16, o17, none, none] ∧
    LB H0 b l xl r.length s.length many H' ∧ H0 q = none ∧ q ≠ b ∧ q ≠ l ∧ V.ref q ∉ xl ∧ H' q = some (.lst ss) ∧ 1 ≤ ss.length ∧ ss.length ≤ 3 + 3 * i ∧ SlotsAt (slotOk last r.length s.length) H' ss)
    ⟨q, ss, _, _, _, _, rfl, lb.ex e3, e02.free hq0, Ne.symm (let ⟨bs, h, _⟩ := lb.hb; ne_of_none h hq0), Ne.symm (ne_of_none lb.hl hq0), fun z => (by obtain ⟨c, row, e, h, _⟩ := lb.rows _ z; cases e; rw [h] at hq0; cases hq0), hq, by omega, by omega, sss⟩ ?_ ?_
  · clear hq0 e3 hq lss sss
    rintro i σ H4 hi ⟨q, ss, o12, o15, o16, o17, rfl, lb, q0, qb, ql, qx, hq, ls1, ls2, sss⟩
    walk_at "rd"
    refine u_tyL (sql hq) ?_
    walk_at "rd"
    obtain ⟨d, hd, d0⟩ := hes (7 + i) (by omega)
    refine u_ixL (sql (lb.e _ _ h2)) (at_i (n := 7 + i) (by omega) (mapm hd)) ?_
    walk_at "rd"
    refine u_lenL (sql hq) ?_
    refine u_mod (by omega) ?_
    rw [mod_nat d0 (by omega)]
    have hj : d.toNat % ((ss.length : Nat) : Int).toNat < ss.length := Nat.mod_lt _ (by omega)
    generalize d.toNat % ((ss.length : Nat) : Int).toNat = j at hj
    have hj0 := List.getElem?_eq_getElem hj
    obtain ⟨T, a, k, ex, hT, k0, ok⟩ := sss _ (List.getElem_mem hj)
    rw [ex] at hj0
    walk_at "rd"
    refine u_popAt (n := j) rfl hq hj0 (by omega) ?_
    have tk1 : TK H4 (upd H4 q (.lst (ss.eraseIdx j))) := TK.lst hq
    have lb1 := lb.other (o := .lst (ss.eraseIdx j)) q0 qb ql qx
    have hT1 := tk1 _ _ hT
    have ss1 : SlotsAt (slotOk last r.length s.length) (upd H4 q (.lst (ss.eraseIdx j))) (ss.eraseIdx j) := fun x hx => (sss.tk tk1) x (List.mem_of_mem_eraseIdx hx)
    have hq1 : upd H4 q (.lst (ss.eraseIdx j)) q = some (.lst (ss.eraseIdx j)) := upd_same
    have ln1 : (ss.eraseIdx j).length = ss.length - 1 := List.length_eraseIdx_of_lt hj
    generalize upd H4 q (.lst (ss.eraseIdx j)) = H5 at lb1 hT1 ss1 hq1
    generalize ss.eraseIdx j = zz at ss1 hq1 ln1
    clear tk1 lb hT sss hq
    walk_at "rd"
    refine u_cut (fun σ' H' => ∃ o17, σ' = [some (.ref p), some (.int c), some (.int o), some (.int s.length), some (.ref q1), some (.ref q2), some (.int many), some (.ref b), some (.ref l), none, none, none, some (.int (i : Int)), some (.int last), some (.ref q), o15, some (.ref T), o17, none, none] ∧
      LB H0 b l xl r.length s.length many H' ∧ H' q = some (.lst zz) ∧ SlotsAt (slotOk last r.length s.length) H' zz) ?_ ?_
    · walk_at "rd"
      refine u_ixT (sqt hT1) (at_i (n := 0) rfl rfl) ?_
      walk_at "rd"
      refine iteD (fun ka => ?_) (fun ka => ?_)
      · obtain ⟨bs, hb, okb⟩ := lb1.hb
        have lbs := okStates_len okb
        have kr : k < (r.length : Int) := by omega
        walk_at "rd"
        refine u_gsub ?_
        walk_at "rd"
        refine u_ixT (sqt hT1) (at_i (n := 1) rfl rfl) ?_
        refine u_setL (j := k.toNat) hb (by omega) (by rw [List.length_map]; omega) ?_
        rw [← List.map_set]
        exact ⟨_, rfl, lb1.setB (okStates_set okb (by omega) (by omega)), off qb hq1, ss1.tk (TK.lst hb)⟩
      · have ka2 : 0 ≤ a ∧ a < (last : Int) ∧ k < (s.length : Int) := by omega
        have lxl := lb1.ll
        have hxi := List.getElem?_eq_getElem (l := xl) (i := a.toNat) (by omega)
        have hxm := List.getElem_mem (l := xl) (n := a.toNat) (by omega)
        generalize xl[a.toNat]'(by omega) = x at hxi hxm
        obtain ⟨c2, row, rfl, g1, g2, g3, g4, g5⟩ := lb1.rows x hxm
        have lrow := okStates_len g2
        walk_at "rd"
        refine u_ixT (sqt hT1) (at_i (n := 0) rfl rfl) ?_
        refine u_ixL (sql lb1.hl) (at_i (n := a.toNat) (by omega) hxi) ?_
        walk_at "rd"
        refine u_gsub ?_
        walk_at "rd"
        refine u_ixT (sqt hT1) (at_i (n := 1) rfl rfl) ?_
        refine u_setL (j := k.toNat) g1 (by omega) (by rw [List.length_map]; omega) ?_
        rw [← List.map_set]
        have qc : q ≠ c2 := fun z => qx (by rw [z]; exact hxm)
        exact ⟨_, rfl, lb1.setL hxm (okStates_set g2 (by omega) (by omega)), off qc hq1, ss1.tk (TK.lst g1)⟩
    · clear lb1 hq1 ss1 hT1
      rintro σ' H6 ⟨o17, rfl, lb, hq, ss1⟩
      walk_at "rd"
      refine ⟨_, rfl, by omega, by omega, ?_⟩
      rw [Int.toNat_natCast]
      refine lc_slots (P := slotOk last r.length s.length) (a := i) (n := s.length) (fun _ => rfl) (by omega) (fun k H R hk hR => ?_) (fun k hk => ⟨by omega, Or.inr ⟨by omega, by omega, by omega⟩⟩) ?_
      · walk_at "rd"
        exact ⟨szOf (by show 2 ≤ _; decide), fun T hT => hR T _ (.mk hT)⟩
      intro q3 s3 H7 hq30 e7 hq3 lss3 sss3
      refine n_addL (e7 _ _ hq) hq3 (szOf (by omega)) fun q4 H8 n8 => ?_
      walk_at "rd"
      have lb7 := lb.ex e7
      have lb8 := lb7.ex n8.2.1
      refine ⟨q4, zz ++ s3, _, _, _, _, rfl, lb8, lb7.e.free n8.1, Ne.symm (let ⟨bs, h, _⟩ := lb7.hb; ne_of_none h n8.1), Ne.symm (ne_of_none lb7.hl n8.1), fun z => ?_, n8.2.2.1, by rw [List.length_append]; omega, by rw [List.length_append]; omega, mem_app ((ss1.tk (TK.of e7)).tk (TK.of n8.2.1)) (sss3.tk (TK.of n8.2.1))⟩
      obtain ⟨c, row, e, h, _⟩ := lb7.rows _ z
      have := n8.1
      cases e
      rw [h] at this
      cases this
  · rintro σ H4 ⟨q, ss, o12, o15, o16, o17, rfl, lb, _⟩
    obtain ⟨d, hd, _⟩ := hes 13 (by omega)
    obtain ⟨e4, he4, e40⟩ := hes 14 (by omega)
    obtain ⟨e5, he5, e50⟩ := hes 15 (by omega)
    obtain ⟨e6, he6, e60⟩ := hes 16 (by omega)
    walk_at "rd"
    refine u_ixL (sql (lb.e _ _ h2)) (at_i (n := 13) rfl (mapm hd)) ?_
    walk_at "rd"
    refine iteD (fun ka => ?_) (fun ka => ?_)
    · walk_at "rd"
      refine u_ixL (sql (lb.e _ _ h2)) (at_i (n := 14) rfl (mapm he4)) ?_
      walk_at "rd"
      refine u_mod (by omega) ?_
      rw [mod_nat e40 (by omega)]
      have hj : e4.toNat % ((many : Nat) : Int).toNat < many := Nat.mod_lt _ (by omega)
      generalize e4.toNat % ((many : Nat) : Int).toNat = j at hj
      have lxl := lb.ll
      have hxi := List.getElem?_eq_getElem (l := xl) (i := j) (by omega)
      have hxm := List.getElem_mem (l := xl) (n := j) (by omega)
      generalize xl[j]'(by omega) = x at hxi hxm
      obtain ⟨c2, row, rfl, g1, g2, g3, g4, g5⟩ := lb.rows x hxm
      have lrow := okStates_len g2
      refine u_ixL (sql lb.hl) (at_i rfl hxi) ?_
      walk_at "rd"
      refine u_ixL (sql (lb.e _ _ h2)) (at_i (n := 16) rfl (mapm he6)) ?_
      walk_at "rd"
      refine u_mod (by omega) ?_
      refine u_gsub ?_
      walk_at "rd"
      refine u_ixL (sql (lb.e _ _ h2)) (at_i (n := 15) rfl (mapm he5)) ?_
      walk_at "rd"
      refine u_mod (by omega) ?_
      rw [mod_nat e50 (by omega)]
      have hj2 : e5.toNat % ((s.length : Nat) : Int).toNat < s.length := Nat.mod_lt _ (by omega)
      generalize e5.toNat % ((s.length : Nat) : Int).toNat = j2 at hj2
      refine u_setL (j := j2) g1 rfl (by rw [List.length_map]; omega) ?_
      rw [← List.map_set]
      exact fin b l xl _ _ _ _ _ _ _ (lb.setL hxm (okStates_set g2 (Int.emod_nonneg _ (by omega)) (Int.emod_lt_of_pos _ (by omega))))
    · walk_at "rd"
      exact fin b l xl _ _ _ _ _ _ _ lb

end K39
set_option Elab.async false
set_option linter.all false
set_option maxRecDepth 100000
set_option maxHeartbeats 2000000
namespace K39
open PySem L2 Uni
local macro_rules | `(tactic| walk_at "rd") => `(tactic| (repeat (first
  | (with_reducible refine u_var (by with_unfolding_all exact rfl) ?_) | (with_reducible refine u_seq ?_) | (with_reducible refine u_asg ?_) | (with_reducible refine u_gname ?_) | (with_reducible refine u_drop ?_) | (with_reducible refine u_ret ?_) | (with_reducible refine u_retN ?_) | (with_reducible refine u_next ?_) | (with_reducible refine u_break ?_) | (with_reducible refine u_cont ?_) | (with_reducible refine u_if ?_) | (with_reducible refine u_c ?_) | (with_reducible refine u_op ?_) | (with_reducible refine u_un ?_) | (with_reducible refine u_test ?_) | (with_reducible refine u_tb ?_) | (with_reducible refine u_bl ?_) | (with_reducible refine u_not ?_) | (with_reducible refine u_and ?_) | (with_reducible refine u_or ?_) | (with_reducible refine u_chain ?_) | (with_reducible refine u_ifE ?_) | (with_reducible refine u_andV ?_) | (with_reducible refine u_orV ?_) | (with_reducible refine u_notV ?_) | (with_reducible refine u_blE ?_) | (with_reducible refine u_nil ?_) | (with_reducible refine u_cons ?_) | (with_reducible refine u_tup ?_) | (with_reducible refine u_lst ?_) | (with_reducible refine u_cb ?_) | (with_reducible refine u_call ?_) | (with_reducible refine u_bm ?_) | (with_reducible refine u_bm0 ?_) | (with_reducible refine u_m1 ?_) | (with_reducible refine u_sl ?_) | (with_reducible refine u_nopart ?_) | (with_reducible refine u_part ?_) | (with_reducible refine u_int ?_) | (with_reducible refine u_yes ?_) | (with_reducible refine u_add ?_) | (with_reducible refine u_sub ?_) | (with_reducible refine u_neg ?_) | (with_reducible refine u_le ?_) | (with_reducible refine u_gt ?_) | (with_reducible refine u_ge ?_) | (with_reducible refine u_lt ?_) | (with_reducible refine u_ltS ?_) | (with_reducible refine u_eqI ?_) | (with_reducible refine u_neI ?_) | (with_reducible refine u_eqS ?_) | (with_reducible refine u_neS ?_) | (with_reducible refine u_eqB ?_) | (with_reducible refine u_neB ?_) | (with_reducible refine u_inS ?_) | (with_reducible refine u_ninS ?_) | (with_reducible refine u_intI ?_) | (with_reducible refine u_intB ?_) | (with_reducible refine u_for ?_) | (with_reducible refine u_iR1 ?_) | (with_reducible refine u_iR2 ?_) | (with_reducible refine u_uni ?_) | (with_reducible refine u_lc ?_)
  | (with_reducible refine iteT ?_) | (with_reducible refine iteF ?_) | (with_reducible refine iteNT ?_) | (with_reducible refine iteNF ?_))))
theorem first_at : ∀ {O : List Int} {v : Int}, v ∈ O → ∃ j, j < O.length ∧ O[j]? = some v ∧ ∀ (m : Nat) z, m < j → O[m]? = some z → z ≠ v
  | [], v, h => nomatch h
  | a :: r, v, h => by
    by_cases e : a = v
    · exact ⟨0, by simp, by simp [e], fun m z hm => absurd hm (Nat.not_lt_zero _)⟩
    · have hr : v ∈ r := by
        rcases List.mem_cons.mp h with h | h
        · exact absurd h.symm e
        · exact h
      obtain ⟨j, h1, h2, h3⟩ := first_at hr
      refine ⟨j + 1, by rw [List.length_cons]; omega, by simpa using h2, fun m z hm hz => ?_⟩
      cases m with
      | zero => cases hz; exact e
      | succ m => exact h3 m z (by omega) (by simpa using hz)
theorem flat_ints (O : List Int) : (O.map V.int).all flatV = true := List.all_eq_true.mpr fun x hx => by
  obtain ⟨n, _, rfl⟩ := List.mem_map.mp hx
  rfl
theorem u_index {K : PySem.W.Frag} {H : Hp} {Q : VK} {a : Addr} {O : List Int} {v : Int} (h : SqL K H a (O.map V.int)) (hv : v ∈ O) (q : ∀ j : Nat, j < O.length → Q (.int j) H) : rIndex K (.ref a) [.int v] H Q := by
  obtain ⟨j, h1, h2, h3⟩ := first_at hv
  refine ⟨a, O.map V.int, .int v, j, .int v, rfl, rfl, h, rfl, flat_ints O, mapm h2, by show (v == v) = true; simp, fun m z hm hz => ?_, q j h1⟩
  obtain ⟨n, hn, rfl⟩ := getm hz
  have := h3 m n hm hn
  show (n == v) = false
  simpa using this
/-- a list of the numbers below i, each -/
structure Ord (i : Nat) (O : List Int) : Prop where
  len : O.length = i
  all : ∀ v : Int, 0 ≤ v → v < (i : Int) → v ∈ O
  lo : ∀ v ∈ O, 0 ≤ v ∧ v < (i : Int)
theorem Ord.ins {i n : Nat} {O : List Int} (h : Ord i O) : Ord (i + 1) (O.take n ++ [(i : Int)] ++ O.drop n) := by
  have m1 : ∀ v : Int, v ∈ O.take n ++ [(i : Int)] ++ O.drop n ↔ v ∈ O ∨ v = i := fun v => by
    have e : v ∈ O ↔ v ∈ O.take n ∨ v ∈ O.drop n := by
      rw [← List.mem_append, List.take_append_drop]
    rw [e]
    simp only [List.mem_append, List.mem_singleton]
    constructor
    · rintro ((h | h) | h)
      · exact Or.inl (Or.inl h)
      · exact Or.inr h
      · exact Or.inl (Or.inr h)
    · rintro ((h | h) | h)
      · exact Or.inl (Or.inl h)
      · exact Or.inr h
      · exact Or.inl (Or.inr h)
  refine ⟨?_, fun v h0 h1 => (m1 v).mpr ?_, fun v hv => ?_⟩
  · have := h.len
    rw [List.length_append, List.length_append, List.length_take, List.length_drop, List.length_singleton]
    omega
  · by_cases e : v = i
    · exact Or.inr e
    · exact Or.inl (h.all v h0 (by omega))
  · rcases (m1 v).mp hv with hv | hv
    · have := h.lo v hv; omega
    · omega
theorem pu_law_table (K : PySem.W.Frag) (vs : List V) (H : Hp) (Q : VK) (E : XK) (h : sp_law_table K vs H Q E) : t_law_table K { nx := fun _ H' => Q .non H', rt := Q } (start N_law_table vs) H := by
  obtain ⟨p, c, o, s, r, m, rfl, hp, gs, gm, fin⟩ := h
  have sl := gs.sl
  have ett : t_law_table K = t_law_table K := rfl
  unfold t_law_table
  walk_at "rd"
  refine u_ixL (sql hp) (at_i (n := 0) rfl rfl) ?_
  walk_at "rd"
  refine u_lenS (szOf (by omega)) ?_
  walk_at "rd"
  -- row
  refine ⟨by show 6 ≤ _; exact szOf (by decide), fun z1 hz1 => ?_⟩
  have e1 := Ex.new (o := .lst [.int 8, .int 7, .int 3, .int 7, .int 7, .int 7]) hz1
  have g1 : upd H z1 (.lst [.int 8, .int 7, .int 3, .int 7, .int 7, .int 7]) z1 = some (.lst [.int 8, .int 7, .int 3, .int 7, .int 7, .int 7]) := upd_same
  generalize upd H z1 (.lst [.int 8, .int 7, .int 3, .int 7, .int 7, .int 7]) = H1 at e1 g1
  walk_at "rd"
  refine ⟨szOf (by show 1 ≤ _; decide), fun z2 hz2 => ?_⟩
  have e2 := Ex.new (o := .lst [.int 7]) hz2
  walk_at "rd"
  refine u_repL upd_same (by decide) (by decide) (szOf (by decide)) fun z3 hz3 => ?_
  have e3 := Ex.new (o := .lst (List.replicate (21 : Int).toNat [V.int 7]).flatten) hz3
  have g3 : upd (upd H1 z2 (.lst [.int 7])) z3 (.lst (List.replicate (21 : Int).toNat [V.int 7]).flatten) z3 = some (.lst (List.replicate (21 : Int).toNat [V.int 7]).flatten) := upd_same
  have e23 := e2.trans e3
  generalize upd (upd H1 z2 (.lst [.int 7])) z3 (.lst (List.replicate (21 : Int).toNat [V.int 7]).flatten) = H3 at e23 g3
  refine n_addL (e23 _ _ g1) g3 (szOf (by decide)) fun z4 H4 n4 => ?_
  walk_at "rd"
  refine ⟨szOf (by show 1 ≤ _; decide), fun z5 hz5 => ?_⟩
  have e5 := Ex.new (o := .lst [.int 16]) hz5
  walk_at "rd"
  refine u_repL upd_same (by decide) (by decide) (szOf (by decide)) fun z6 hz6 => ?_
  have e6 := Ex.new (o := .lst (List.replicate (7 : Int).toNat [V.int 16]).flatten) hz6
  have g6 : upd (upd H4 z5 (.lst [.int 16])) z6 (.lst (List.replicate (7 : Int).toNat [V.int 16]).flatten) z6 = some (.lst (List.replicate (7 : Int).toNat [V.int 16]).flatten) := upd_same
  have e56 := e5.trans e6
  generalize upd (upd H4 z5 (.lst [.int 16])) z6 (.lst (List.replicate (7 : Int).toNat [V.int 16]).flatten) = H6 at e56 g6
  refine n_addL (e56 _ _ n4.2.2.1) g6 (szOf (by decide)) fun z7 H7 n7 => ?_
  walk_at "rd"
  refine ⟨c, z7, [8, 7, 3, 7, 7, 7] ++ List.replicate 21 7 ++ List.replicate 7 16, rfl, n7.2.2.1.trans (congrArg (fun l => some (HO.lst l)) (show _ = _ by with_unfolding_all rfl)), by decide, by decide, ?_⟩
  intro ds q1 H8 e8 hq10 hq1 hl1 hb1
  have f8 : Ex H H8 := ((((e1.trans e23).trans n4.2.1).trans e56).trans n7.2.1).trans e8
  have dd := fun (i : Nat) (z : Int) (hz : ([8, 7, 3, 7, 7, 7] ++ List.replicate 21 7 ++ List.replicate 7 16 : List Int)[i]? = some z) => dig hl1 hb1 i hz
  have dpos : ∀ i, i < 34 → ∃ d, ds[i]? = some d ∧ 0 ≤ d := fun i hi => by
    have hi : i < ds.length := by rw [hl1]; exact hi
    obtain ⟨d, h1, h2, _⟩ := dig hl1 hb1 i (List.getElem?_eq_getElem (by rw [← hl1]; exact hi))
    exact ⟨d, h1, h2⟩
  obtain ⟨d0, a0, b0, c0⟩ := dd 0 8 rfl
  obtain ⟨d1, a1, b1, c1⟩ := dd 1 7 rfl
  obtain ⟨d2, a2, b2, c2⟩ := dd 2 3 rfl
  clear dd hb1 e8 n7 g6 e56 n4 g3 e23 e1 g1 hz1 hz2 hz3 hz5 hz6 e5 e6 e2 e3
  walk_at "rd"
  -- more
  refine ⟨by show 7 ≤ _; exact szOf (by decide), fun y1 hy1 => ?_⟩
  have e1 := Ex.new (o := .lst [.int 1, .int 2, .int 3, .int 4, .int 5, .int 6, .int 7]) hy1
  have g1 : upd H8 y1 (.lst [.int 1, .int 2, .int 3, .int 4, .int 5, .int 6, .int 7]) y1 = some (.lst [.int 1, .int 2, .int 3, .int 4, .int 5, .int 6, .int 7]) := upd_same
  generalize upd H8 y1 (.lst [.int 1, .int 2, .int 3, .int 4, .int 5, .int 6, .int 7]) = H9 at e1 g1
  walk_at "rd"
  refine ⟨szOf (by show 1 ≤ _; decide), fun y2 hy2 => ?_⟩
  have e2 := Ex.new (o := .lst [.int 21]) hy2
  walk_at "rd"
  refine u_repL upd_same (by decide) (by decide) (szOf (by decide)) fun y3 hy3 => ?_
  have e3 := Ex.new (o := .lst (List.replicate (6 : Int).toNat [V.int 21]).flatten) hy3
  have g3 : upd (upd H9 y2 (.lst [.int 21])) y3 (.lst (List.replicate (6 : Int).toNat [V.int 21]).flatten) y3 = some (.lst (List.replicate (6 : Int).toNat [V.int 21]).flatten) := upd_same
  have e23 := e2.trans e3
  generalize upd (upd H9 y2 (.lst [.int 21])) y3 (.lst (List.replicate (6 : Int).toNat [V.int 21]).flatten) = H10 at e23 g3
  refine n_addL (e23 _ _ g1) g3 (szOf (by decide)) fun y4 H11 n4 => ?_
  walk_at "rd"
  refine ⟨szOf (by show 5 ≤ _; decide), fun y5 hy5 => ?_⟩
  have e5 := Ex.new (o := .lst [.int 2, .int 7, .int 3, .int 7, .int 3]) hy5
  have g5 : upd H11 y5 (.lst [.int 2, .int 7, .int 3, .int 7, .int 3]) y5 = some (.lst [.int 2, .int 7, .int 3, .int 7, .int 3]) := upd_same
  generalize upd H11 y5 (.lst [.int 2, .int 7, .int 3, .int 7, .int 3]) = H12 at e5 g5
  refine n_addL (e5 _ _ n4.2.2.1) g5 (szOf (by decide)) fun y6 H13 n6 => ?_
  walk_at "rd"
  refine ⟨o, y6, [1, 2, 3, 4, 5, 6, 7] ++ List.replicate 6 21 ++ [2, 7, 3, 7, 3], rfl, n6.2.2.1.trans (congrArg (fun l => some (HO.lst l)) (show _ = _ by with_unfolding_all rfl)), by decide, by decide, ?_⟩
  intro es q2 H14 e14 hq20 hq2 hl2 hb2
  have f14 : Ex H8 H14 := ((((e1.trans e23).trans n4.2.1).trans e5).trans n6.2.1).trans e14
  have hes : ∀ i, i < 17 → ∃ e, es[i]? = some e ∧ 0 ≤ e := fun i hi => by
    have hi : i < es.length := by
      have : es.length = 18 := hl2
      omega
    obtain ⟨d, h1, h2, _⟩ := dig hl2 hb2 i (List.getElem?_eq_getElem (by rw [← hl2]; exact hi))
    exact ⟨d, h1, h2⟩
  have hord : ∀ i : Nat, i < 7 → ∃ e, es[i]? = some e ∧ 0 ≤ e ∧ e < (i : Int) + 1 := fun i hi => by
    have : i = 0 ∨ i = 1 ∨ i = 2 ∨ i = 3 ∨ i = 4 ∨ i = 5 ∨ i = 6 := by omega
    rcases this with rfl | rfl | rfl | rfl | rfl | rfl | rfl <;> exact dig hl2 hb2 _ rfl
  have f0 : Ex H H14 := f8.trans f14
  have hq1 := f14 _ _ hq1
  have hp := f0 _ _ hp
  clear hb2 e14 n6 g5 e5 n4 g3 e23 e1 g1 hy1 hy2 hy3 hy5 e2 e3 f14 f8
  walk_at "rd"
  refine u_ixL (sql hq1) (at_i (n := 1) rfl (mapm a1)) ?_
  walk_at "rd"
  -- many
  refine u_cut (fun σ' H' => H' = H14 ∧ ∃ many : Nat, 1 ≤ many ∧ many ≤ 7 ∧ σ' = [some (.ref p), some (.int c), some (.int o), some (.int s.length), some (.ref q1), some (.ref q2), some (.int many), none, none, none, none, none, none, none, none, none, none, none, none, none]) ?_ ?_
  · have em : (1 : Int) + d1 = ((1 + d1.toNat : Nat) : Int) := by omega
    rw [em]
    walk_at "rd"
    refine iteD (fun kk => ?_) (fun kk => ?_)
    · walk_at "rd"
      refine u_ixL (sql hq1) (at_i (n := 2) rfl (mapm a2)) ?_
      walk_at "rd"
      refine iteD (fun kk => ?_) (fun kk => ?_)
      · walk_at "rd"
        exact ⟨rfl, 5, by decide, by decide, rfl⟩
      · walk_at "rd"
        exact ⟨rfl, _, by omega, by omega, rfl⟩
    · walk_at "rd"
      exact ⟨rfl, _, by omega, by omega, rfl⟩
  rintro σ' H' ⟨hH, many, m1, m7, rfl⟩
  obtain rfl : H14 = H' := hH.symm
  walk_at "rd"
  refine u_ixL (sql hp) (at_i (n := 1) rfl rfl) ?_
  walk_at "rd"
  refine u_lenS (szOf (by omega)) ?_
  walk_at "rd"
  refine ⟨_, rfl, by omega, by omega, ?_⟩
  rw [Int.toNat_natCast]
  refine lc_vals V.int (fun v => 0 ≤ v ∧ v < (many : Int)) (walk_rX (n := r.length)) (fun _ _ => trivial) (szLt (by omega)) ?_ ?_
  · rintro i x H' hi rfl e N N' hN
    obtain ⟨d, hd, d0⟩ := dpos (3 + i) (by omega)
    walk_at "rd"
    refine ⟨rfl, ?_⟩
    walk_at "rd"
    refine u_ixL (sql (e _ _ hq1)) (at_i (n := 3 + i) (by omega) (mapm hd)) ?_
    walk_at "rd"
    refine u_mod (by omega) ?_
    exact hN _ _ (Ex.refl _) ⟨Int.emod_nonneg _ (by omega), Int.emod_lt_of_pos _ (by omega)⟩
  intro b bs H15 hb0 hbs e15 lbs pbs
  walk_at "rd"
  refine ⟨_, rfl, by omega, by omega, ?_⟩
  rw [Int.toNat_natCast]
  refine lc_rows (p := fun row => okStates row s.length many = true) (walk_rX (n := many)) (fun _ _ => trivial) (szLt (by omega)) ?_ ?_
  · rintro i x H' hi rfl e N N' hN
    walk_at "rd"
    refine ⟨rfl, ?_⟩
    walk_at "rd"
    refine ⟨_, rfl, by omega, by omega, ?_⟩
    rw [Int.toNat_natCast]
    refine lc_vals V.int (fun v => 0 ≤ v ∧ v < (many : Int)) (walk_rX (n := s.length)) (fun _ _ => trivial) (szLt (by omega)) ?_ ?_
    · rintro k x H2 hk rfl e2 N N' hN
      obtain ⟨d, hd, d0⟩ := dpos (6 + 3 * i + k) (by omega)
      walk_at "rd"
      refine ⟨rfl, ?_⟩
      walk_at "rd"
      refine u_mul (Or.inl ⟨by decide, by decide⟩) ?_
      walk_at "rd"
      refine u_ixL (sql (e2 _ _ (e _ _ (e15 _ _ hq1)))) (at_i (n := 6 + 3 * i + k) (by omega) (mapm hd)) ?_
      walk_at "rd"
      refine u_mod (by omega) ?_
      exact hN _ _ (Ex.refl _) ⟨Int.emod_nonneg _ (by omega), Int.emod_lt_of_pos _ (by omega)⟩
    intro c ns H2 hc0 hc e2 ln pn
    exact hN c ns H2 e2 hc0 hc (okStates_of ln pn)
  intro l xl H16 hl0 hl e16 ll rx
  have lb : LB H14 b l xl r.length s.length many H16 := ⟨e15.trans e16, hb0, ne_of_none hbs hl0, ⟨bs, e16 _ _ hbs, okStates_of lbs pbs⟩, hl, ll, fun x hx => by
    obtain ⟨c, row, h1, h2, h3, h4, h5⟩ := rx x hx
    exact ⟨c, row, h1, h2, h3, e15.free h4, h5, Ne.symm (ne_of_none hbs h4)⟩⟩
  clear rx hl ll hl0 pbs hbs hb0 e15 e16
  walk_at "rd"
  refine u_cut (fun σ' H' => ∃ (b l : Addr) (xl : List V) (o12 o13 o14 o15 o16 o17 : Option V), LB H14 b l xl r.length s.length many H' ∧ σ' = [some (.ref p), some (.int c), some (.int o), some (.int s.length), some (.ref q1), some (.ref q2), some (.int many), some (.ref b), some (.ref l), none, none, none, o12, o13, o14, o15, o16, o17, none, none]) ?_ ?_
  · exact tree K hp sl hq1 hq2 a0 hes m1 m7 lb fun b l xl H' o12 o13 o14 o15 o16 o17 h => ⟨b, l, xl, _, _, _, _, _, _, h, rfl⟩
  clear lb
  rintro σ' H17 ⟨b, l, xl, o12, o13, o14, o15, o16, o17, lb, rfl⟩
  walk_at "rd"
  refine ⟨szOf (by show 3 ≤ _; decide), fun w1 hw1 => ?_⟩
  have n1 := New.mk (o := .lst [.int 16, .int 4, .int 2]) hw1
  have e1 := n1.2.1
  walk_at "rd"
  refine u_ixL (sql (e1 _ _ (lb.e _ _ hq1))) (at_i (n := 2) rfl (mapm a2)) ?_
  have ht : ∃ tn : Nat, atI [V.int 16, .int 4, .int 2] d2 = some (.int tn) ∧ 0 < tn := by
    have : d2 = 0 ∨ d2 = 1 ∨ d2 = 2 := by omega
    rcases this with rfl | rfl | rfl
    · exact ⟨16, rfl, by decide⟩
    · exact ⟨4, rfl, by decide⟩
    · exact ⟨2, rfl, by decide⟩
  obtain ⟨tn, htn, tn0⟩ := ht
  refine u_ixL (sql n1.2.2.1) htn ?_
  have lb := lb.ex e1
  generalize upd H17 w1 (.lst [.int 16, .int 4, .int 2]) = H18 at lb
  clear n1 e1
  walk_at "rd"
  refine ⟨_, rfl, by omega, by omega, ?_⟩
  rw [Int.toNat_natCast]
  refine lc_vals sv (fun t => t.Sublist m) (walk_rX (n := many)) (fun _ _ => trivial) (szLt (by omega)) ?_ ?_
  · rintro i x H' hi rfl e4 N N' hN
    obtain ⟨d, hd, d0⟩ := dpos (27 + i) (by omega)
    walk_at "rd"
    refine ⟨rfl, ?_⟩
    walk_at "rd"
    refine u_ixL (sql (e4 _ _ (lb.e _ _ hp))) (at_i (n := 2) rfl rfl) ?_
    walk_at "rd"
    refine u_ixL (sql (e4 _ _ (lb.e _ _ hq1))) (at_i (n := 27 + i) (by omega) (mapm hd)) ?_
    walk_at "rd"
    refine u_mod (by omega) ?_
    walk_at "rd"
    exact ⟨m, _, rfl, gm.1, fun t H5 e5 sub => hN _ _ e5 sub⟩
  intro tx ts H19 ht0 hts e19 lts pts
  have lb := lb.ex e19
  clear e19
  walk_at "rd"
  refine ⟨by decide, fun od hod => ?_⟩
  walk_at "rd"
  refine ⟨_, rfl, by omega, by omega, ?_⟩
  refine for_r0 (n := many) (by omega) (fun i σ H' => ∃ (O : List Int) (o12 : Option V), σ = [some (.ref p), some (.int c), some (.int o), some (.int s.length), some (.ref q1), some (.ref q2), some (.int many), some (.ref b), some (.ref l), some (.int tn), some (.ref tx), some (.ref od), o12, o13, o14, o15, o16, o17, none, none] ∧ Ex H19 H' ∧ H' od = some (.lst (O.map V.int)) ∧ Ord i O)
    ⟨[], _, rfl, Ex.new hod, upd_same, rfl, fun v h0 h1 => by omega, fun _ h => nomatch h⟩ ?_ ?_
  · rintro i σ H' hi ⟨O, o12, rfl, e, ho, od1⟩
    obtain ⟨d, hd, d0, d1⟩ := hord i (by omega)
    walk_at "rd"
    refine u_tyL (sql ho) ?_
    walk_at "rd"
    refine u_ixL (sql (e _ _ (lb.e _ _ hq2))) (at_i rfl (mapm hd)) ?_
    walk_at "rd"
    have lo := od1.len
    refine u_insert (n := d.toNat) ho (by omega) (by omega) (by rw [List.length_map]; omega) ?_
    walk_at "rd"
    have em : (O.map V.int).take d.toNat ++ [V.int i] ++ (O.map V.int).drop d.toNat = (O.take d.toNat ++ [(i : Int)] ++ O.drop d.toNat).map V.int := by
      rw [List.map_append, List.map_append, List.map_take, List.map_drop] <;> rfl
    rw [em]
    exact ⟨_, _, rfl, e.mut hod, upd_same, od1.ins⟩
  rintro σ H20 ⟨O, o12, rfl, e20, ho, od1⟩
  have lb := lb.ex e20
  have hts := e20 _ _ hts
  obtain ⟨bs, hb, okb⟩ := lb.hb
  walk_at "rd"
  refine u_uC (k := false) (sql hb) ?_
  refine lc_vals V.int (fun v => 0 ≤ v ∧ v < (many : Int)) walk_kX (fun H' e => sql (e _ _ hb)) (szLt (by rw [List.length_map, okStates_len okb]; omega)) ?_ ?_
  · rintro i x H' hi hx e N N' hN
    obtain ⟨n, hn, rfl⟩ := getm hx
    have bn := okStates_mem okb (List.mem_of_getElem? hn)
    walk_at "rd"
    refine ⟨rfl, ?_⟩
    walk_at "rd"
    refine u_tyL (sql (e _ _ ho)) ?_
    walk_at "rd"
    refine u_index (sql (e _ _ ho)) (od1.all n bn.1 bn.2) fun j hj => ?_
    have := od1.len
    exact hN _ _ (Ex.refl _) ⟨by omega, by omega⟩
  intro b2 bs2 H21 hb20 hb2 e21 lb2 pb2
  have lb := lb.ex e21
  walk_at "rd"
  refine u_uC (k := false) (sql (e21 _ _ ho)) ?_
  refine lc_rows (p := fun row => okStates row s.length many = true) walk_kX (fun H' e => sql (e _ _ (e21 _ _ ho))) (szLt (by rw [List.length_map, od1.len]; omega)) ?_ ?_
  · rintro i x H' hi hx e N N' hN
    obtain ⟨n, hn, rfl⟩ := getm hx
    have bn := od1.lo n (List.mem_of_getElem? hn)
    have lb := lb.ex e
    have lxl := lb.ll
    have hxi := List.getElem?_eq_getElem (l := xl) (i := n.toNat) (by omega)
    have hxm := List.getElem_mem (l := xl) (n := n.toNat) (by omega)
    generalize xl[n.toNat]'(by omega) = x at hxi hxm
    obtain ⟨c2, row, rfl, g1, g2, _⟩ := lb.rows x hxm
    walk_at "rd"
    refine ⟨rfl, ?_⟩
    walk_at "rd"
    refine u_ixL (sql lb.hl) (at_i (n := n.toNat) (by omega) hxi) ?_
    refine u_uC (k := false) (sql g1) ?_
    have lrow := okStates_len g2
    refine lc_vals V.int (fun v => 0 ≤ v ∧ v < (many : Int)) walk_kX (fun H' e => sql (e _ _ g1)) (szLt (by rw [List.length_map]; omega)) ?_ ?_
    · rintro k x H2 hk hx e2 N N' hN
      obtain ⟨n, hn, rfl⟩ := getm hx
      have bn := okStates_mem g2 (List.mem_of_getElem? hn)
      walk_at "rd"
      refine ⟨rfl, ?_⟩
      walk_at "rd"
      have ho2 := e2 _ _ (e _ _ (e21 _ _ ho))
      refine u_tyL (sql ho2) ?_
      walk_at "rd"
      refine u_index (sql ho2) (od1.all n bn.1 bn.2) fun j hj => ?_
      have := od1.len
      exact hN _ _ (Ex.refl _) ⟨by omega, by omega⟩
    intro c ns H2 hc0 hc e2 ln pn
    exact hN c ns H2 e2 hc0 hc (okStates_of (by rw [ln, List.length_map]; omega) pn)
  intro l2 xl2 H22 hl20 hl2 e22 ll2 rx2
  walk_at "rd"
  refine u_uC (k := false) (sql (e22 _ _ (e21 _ _ ho))) ?_
  refine lc_vals sv (fun t => t.Sublist m) walk_kX (fun H' e => sql (e _ _ (e22 _ _ (e21 _ _ ho)))) (szLt (by rw [List.length_map, od1.len]; omega)) ?_ ?_
  · rintro i x H' hi hx e N N' hN
    obtain ⟨n, hn, rfl⟩ := getm hx
    have bn := od1.lo n (List.mem_of_getElem? hn)
    have hti := List.getElem?_eq_getElem (l := ts) (i := n.toNat) (by omega)
    have htm := List.getElem_mem (l := ts) (n := n.toNat) (by omega)
    walk_at "rd"
    refine ⟨rfl, ?_⟩
    walk_at "rd"
    refine u_ixL (sql (e _ _ (e22 _ _ (e21 _ _ hts)))) (at_i (n := n.toNat) (by omega) (mapm hti)) ?_
    exact hN _ _ (Ex.refl _) (pts _ htm)
  intro t2 ts2 H23 ht20 ht2 e23 lt2 pt2
  walk_at "rd"
  refine ⟨szOf (by show 3 ≤ _; decide), fun u hu => ?_⟩
  have e24 := Ex.new (o := .lst [.ref b2, .ref l2, .ref t2]) hu
  obtain ⟨rows, er, hr, pr⟩ := (rx2.ex (e23.trans e24)).rows
  have lo := od1.len
  rw [List.length_map] at ll2 lt2
  obtain ⟨g1, g2⟩ := good_of (ns := s.length) (nr := r.length) (bs := bs2) gm m1 (by omega) (okStates_of (by rw [lb2, List.length_map]; exact okStates_len okb) pb2) (show rows.length = many by omega) pr (show ts2.length = many by omega) pt2
  refine fin _ ⟨bs2, rows, ts2⟩ _ (((((f0.trans lb.e).trans ?_).trans e22).trans e23).trans e24) ⟨u, .ref b2, .ref l2, .ref t2, rfl, upd_same, ⟨b2, rfl, e24 _ _ (e23 _ _ (e22 _ _ hb2))⟩, ⟨l2, xl2, rfl, e24 _ _ (e23 _ _ hl2), er, hr⟩, ⟨t2, rfl, e24 _ _ ht2⟩⟩ g1 g2
  exact Ex.refl _

end K39
set_option Elab.async false
set_option linter.all false
set_option maxRecDepth 100000
set_option maxHeartbeats 2000000
namespace K39
open PySem L2 Uni
local macro_rules | `(tactic| walk_at "rd") => `(tactic| (repeat (first
  | (with_reducible refine u_var (by with_unfolding_all exact rfl) ?_) | (with_reducible refine u_seq ?_) | (with_reducible refine u_asg ?_) | (with_reducible refine u_gname ?_) | (with_reducible refine u_drop ?_) | (with_reducible refine u_ret ?_) | (with_reducible refine u_retN ?_) | (with_reducible refine u_next ?_) | (with_reducible refine u_break ?_) | (with_reducible refine u_cont ?_) | (with_reducible refine u_if ?_) | (with_reducible refine u_c ?_) | (with_reducible refine u_op ?_) | (with_reducible refine u_un ?_) | (with_reducible refine u_test ?_) | (with_reducible refine u_tb ?_) | (with_reducible refine u_bl ?_) | (with_reducible refine u_not ?_) | (with_reducible refine u_and ?_) | (with_reducible refine u_or ?_) | (with_reducible refine u_chain ?_) | (with_reducible refine u_ifE ?_) | (with_reducible refine u_andV ?_) | (with_reducible refine u_orV ?_) | (with_reducible refine u_notV ?_) | (with_reducible refine u_blE ?_) | (with_reducible refine u_nil ?_) | (with_reducible refine u_cons ?_) | (with_reducible refine u_tup ?_) | (with_reducible refine u_lst ?_) | (with_reducible refine u_cb ?_) | (with_reducible refine u_call ?_) | (with_reducible refine u_bm ?_) | (with_reducible refine u_bm0 ?_) | (with_reducible refine u_m1 ?_) | (with_reducible refine u_sl ?_) | (with_reducible refine u_nopart ?_) | (with_reducible refine u_part ?_) | (with_reducible refine u_int ?_) | (with_reducible refine u_yes ?_) | (with_reducible refine u_add ?_) | (with_reducible refine u_sub ?_) | (with_reducible refine u_neg ?_) | (with_reducible refine u_le ?_) | (with_reducible refine u_gt ?_) | (with_reducible refine u_ge ?_) | (with_reducible refine u_lt ?_) | (with_reducible refine u_ltS ?_) | (with_reducible refine u_eqI ?_) | (with_reducible refine u_neI ?_) | (with_reducible refine u_eqS ?_) | (with_reducible refine u_neS ?_) | (with_reducible refine u_eqB ?_) | (with_reducible refine u_neB ?_) | (with_reducible refine u_inS ?_) | (with_reducible refine u_ninS ?_) | (with_reducible refine u_intI ?_) | (with_reducible refine u_intB ?_) | (with_reducible refine u_for ?_) | (with_reducible refine u_iR1 ?_) | (with_reducible refine u_iR2 ?_) | (with_reducible refine u_uni ?_) | (with_reducible refine u_lc ?_)
  | (with_reducible refine iteT ?_) | (with_reducible refine iteF ?_) | (with_reducible refine iteNT ?_) | (with_reducible refine iteNF ?_))))
/-- pairs on the stack -/
def Prs (H : Hp) (xs : List V) (ns : List Nat) : Prop := xs.length = ns.length ∧ ∀ (i : Nat) x n, xs[i]? = some x → ns[i]? = some n → ∃ (T : Addr) (a b : V), x = .ref T ∧ H T = some (.tup [a, b]) ∧ Same H a b n
theorem Prs.tk {H H' : Hp} {xs : List V} {ns : List Nat} (e : TK H H') (h : Prs H xs ns) : Prs H' xs ns := ⟨h.1, fun i x n a b => let ⟨T, u, v, h1, h2, h3⟩ := h.2 i x n a b; ⟨T, u, v, h1, e _ _ h2, h3.tk e⟩⟩
theorem Prs.snoc {H : Hp} {xs : List V} {ns : List Nat} (h : Prs H xs ns) {T : Addr} {a b : V} {n : Nat} (hT : H T = some (.tup [a, b])) (s : Same H a b n) : Prs H (xs ++ [.ref T]) (ns ++ [n]) := by
  refine ⟨by rw [List.length_append, List.length_append, h.1] <;> rfl, fun i x it a' b' => ?_⟩
  by_cases hi : i < xs.length
  · rw [List.getElem?_append_left hi] at a'
    rw [List.getElem?_append_left (by rw [← h.1]; exact hi)] at b'
    exact h.2 i x it a' b'
  · rw [List.getElem?_append_right (by omega)] at a'
    rw [List.getElem?_append_right (by rw [← h.1]; omega), ← h.1] at b'
    have : i - xs.length = 0 := by
      have := (List.getElem?_eq_some_iff.mp a').1
      simp at this; omega
    rw [this] at a' b'
    cases a'
    cases b'
    exact ⟨T, a, b, rfl, hT, s⟩
theorem Prs.len {H : Hp} : ∀ {xs : List V} {ns : List Nat}, Prs H xs ns → ns.length ≤ ns.sum
  | [], [], _ => Nat.le_refl _
  | [], _ :: _, h => nomatch h.1
  | _ :: _, [], h => nomatch h.1
  | x :: xs, n :: ns, h => by
    have ih := Prs.len (xs := xs) (ns := ns) ⟨by have := h.1; simpa using this, fun i y m a b => h.2 (i + 1) y m (by simpa using a) (by simpa using b)⟩
    obtain ⟨_, _, _, _, _, s⟩ := h.2 0 x n rfl rfl
    have := s.pos
    rw [List.length_cons, List.sum_cons]
    omega
theorem Prs.pop {H : Hp} {xs : List V} {x : V} {ns : List Nat} (h : Prs H (xs ++ [x]) ns) : ∃ ms n, ns = ms ++ [n] ∧ Prs H xs ms ∧ ∃ (T : Addr) (a b : V), x = .ref T ∧ H T = some (.tup [a, b]) ∧ Same H a b n := by
  have hl := h.1
  rw [List.length_append, List.length_singleton] at hl
  have hne : ns ≠ [] := fun z => by rw [z] at hl; cases hl
  obtain ⟨ms, n, rfl⟩ : ∃ ms n, ns = ms ++ [n] := ⟨ns.dropLast, ns.getLast hne, (List.dropLast_concat_getLast hne).symm⟩
  rw [List.length_append, List.length_singleton] at hl
  have hl : xs.length = ms.length := by omega
  refine ⟨ms, n, rfl, ⟨hl, fun i y m a b => h.2 i y m (by rw [List.getElem?_append_left (List.getElem?_eq_some_iff.mp a).1]; exact a) (by rw [List.getElem?_append_left (List.getElem?_eq_some_iff.mp b).1]; exact b)⟩, ?_⟩
  exact h.2 xs.length x n (by simp) (by rw [hl]; simp)
theorem u_isN {x : V} {H : Hp} {Q : VK} (h : Q (.bl (decide (x = .non))) H) : rIsN x .non H Q := ⟨rfl, h⟩
theorem u_notN {x : V} {H : Hp} {Q : VK} (h : Q (.bl (!decide (x = .non))) H) : rNotN x .non H Q := ⟨rfl, h⟩
theorem sum_take_succ {ns : List Nat} {i n : Nat} (h : ns[i]? = some n) : (ns.take (i + 1)).sum = (ns.take i).sum + n := by
  rw [List.take_add_one, h, List.sum_append] <;> simp
theorem sum_mem_le : ∀ {ns : List Nat} {n : Nat}, (∀ m ∈ ns, 1 ≤ m) → ns.length ≤ ns.sum
  | [], _, _ => Nat.le_refl _
  | a :: r, n, h => by
    have := sum_mem_le (ns := r) (n := n) fun m hm => h m (List.mem_cons_of_mem _ hm)
    have := h a List.mem_cons_self
    rw [List.length_cons, List.sum_cons]
    omega
theorem pu_law_same (K : PySem.W.Frag) (vs : List V) (H : Hp) (Q : VK) (E : XK) (h : sp_law_same K vs H Q E) : t_law_same K { nx := fun _ H' => Q .non H', rt := Q } (start N_law_same vs) H := by
  obtain ⟨v, u, n0, rfl, sm, n9, k⟩ := h
  unfold t_law_same
  walk_at "rd"
  refine ⟨szOf (by show 2 ≤ _; decide), fun T0 hT0 => ?_⟩
  have e1 := Ex.new (o := .tup [v, u]) hT0
  walk_at "rd"
  refine ⟨szOf (by show 1 ≤ _; decide), fun q hq => ?_⟩
  have e2 := Ex.new (o := .lst [.ref T0]) hq
  walk_at "rd"
  refine ⟨_, rfl, by decide, by decide, ?_⟩
  refine for_r0 (n := 1000000) (by decide) (fun i σ H' => ∃ (xs : List V) (ns : List Nat) (o3 o4 o5 : Option V), σ = [some v, some u, some (.ref q), o3, o4, o5] ∧ Ex H H' ∧ H' q = some (.lst xs) ∧ Prs H' xs ns ∧ ns.sum + i = n0)
    ⟨[.ref T0], [n0], _, _, _, rfl, e1.trans e2, upd_same, ⟨rfl, fun i x n h1 h2 => ?_⟩, by simp⟩ ?_ ?_
  · cases i with
    | zero =>
      cases h1
      cases h2
      exact ⟨T0, v, u, rfl, e2 _ _ upd_same, sm.tk (TK.of (e1.trans e2))⟩
    | succ i => simp at h1
  · have q0 : H q = none := e1.free hq
    clear sm
    rintro i σ H1 hi ⟨xs, ns, o3, o4, o5, rfl, e, hq, ps, tot⟩
    have pl := ps.len
    walk_at "rd"
    refine u_lenL (sql hq) ?_
    walk_at "rd"
    refine iteD (fun c => ?_) (fun c => ?_)
    · walk_at "rd"
      exact k H1 e
    have hne : xs ≠ [] := fun z => c (by rw [z] <;> rfl)
    obtain ⟨zs, x, rfl⟩ : ∃ ms n, xs = ms ++ [n] := ⟨xs.dropLast, xs.getLast hne, (List.dropLast_concat_getLast hne).symm⟩
    obtain ⟨ms, n, rfl, ps1, T, a, b, rfl, hT, s⟩ := ps.pop
    clear ps
    rw [List.sum_append, List.sum_singleton] at tot
    walk_at "rd"
    refine u_tyL (sql hq) ?_
    refine u_pop hq ?_
    have tk : TK H1 (upd H1 q (.lst zs)) := TK.lst hq
    have ps := ps1.tk tk
    clear ps1
    have hT := tk _ _ hT
    have s := s.tk tk
    have e : Ex H (upd H1 q (.lst zs)) := e.mut q0
    have hq : upd H1 q (.lst zs) q = some (.lst zs) := upd_same
    generalize upd H1 q (.lst zs) = H2 at ps hT s e hq
    clear tk
    have ln : zs.length ≤ 900000 := by
      have := ps.len
      have := ps.1
      omega
    have msl : ms.length ≤ ms.sum := ps.len
    have stop : n = 1 → ∃ (xs : List V) (ns : List Nat) (o3 o4 o5' : Option V), [some v, some u, some (V.ref q), some (.int (i : Int)), some (.ref T), o5] = [some v, some u, some (.ref q), o3, o4, o5'] ∧ Ex H H2 ∧ H2 q = some (.lst xs) ∧ Prs H2 xs ns ∧ ns.sum + (i + 1) = n0 := fun h => ⟨zs, ms, _, _, _, rfl, e, hq, ps, by omega⟩
    walk_at "rd"
    refine u_ixT (sqt hT) (at_i (n := 1) rfl rfl) ?_
    walk_at "rd"
    cases s with
    | bl b =>
      refine u_isi (.base (.bl b)) (b := false) (by decide +kernel) ?_
      walk_at "rd"
      refine u_ixT (sqt hT) (at_i (n := 1) rfl rfl) ?_
      walk_at "rd"
      refine u_isi (.base (.bl b)) (b := false) (by decide +kernel) ?_
      walk_at "rd"
      refine u_ixT (sqt hT) (at_i (n := 1) rfl rfl) ?_
      walk_at "rd"
      refine u_isi (.base (.bl b)) (b := true) (by decide +kernel) ?_
      walk_at "rd"
      refine u_ixT (sqt hT) (at_i (n := 0) rfl rfl) ?_
      walk_at "rd"
      refine u_isi (.base (.bl b)) (b := true) (by decide +kernel) ?_
      walk_at "rd"
      refine u_ixT (sqt hT) (at_i (n := 0) rfl rfl) ?_
      walk_at "rd"
      refine u_ixT (sqt hT) (at_i (n := 1) rfl rfl) ?_
      walk_at "rd"
      rw [decide_eq_true rfl]
      walk_at "rd"
      exact stop rfl
    | str x =>
      refine u_isi (.base (.str _)) (b := false) (by decide +kernel) ?_
      walk_at "rd"
      refine u_ixT (sqt hT) (at_i (n := 1) rfl rfl) ?_
      walk_at "rd"
      refine u_isi (.base (.str _)) (b := true) (by decide +kernel) ?_
      walk_at "rd"
      refine u_ixT (sqt hT) (at_i (n := 0) rfl rfl) ?_
      walk_at "rd"
      refine u_isi (.base (.str _)) (b := true) (by decide +kernel) ?_
      walk_at "rd"
      refine u_ixT (sqt hT) (at_i (n := 0) rfl rfl) ?_
      walk_at "rd"
      refine u_ixT (sqt hT) (at_i (n := 1) rfl rfl) ?_
      walk_at "rd"
      rw [decide_eq_true rfl]
      walk_at "rd"
      exact stop rfl
    | int m =>
      refine u_isi (.base (.int m)) (b := false) (by decide +kernel) ?_
      walk_at "rd"
      refine u_ixT (sqt hT) (at_i (n := 1) rfl rfl) ?_
      walk_at "rd"
      refine u_isi (.base (.int m)) (b := false) (by decide +kernel) ?_
      walk_at "rd"
      refine u_ixT (sqt hT) (at_i (n := 1) rfl rfl) ?_
      walk_at "rd"
      refine u_isi (.base (.int m)) (b := false) (by decide +kernel) ?_
      walk_at "rd"
      refine u_ixT (sqt hT) (at_i (n := 1) rfl rfl) ?_
      walk_at "rd"
      refine u_isN ?_
      rw [decide_eq_false (fun z => nomatch z)]
      walk_at "rd"
      refine u_ixT (sqt hT) (at_i (n := 0) rfl rfl) ?_
      walk_at "rd"
      refine ⟨m, rfl, ?_⟩
      walk_at "rd"
      refine u_ixT (sqt hT) (at_i (n := 0) rfl rfl) ?_
      walk_at "rd"
      refine u_ixT (sqt hT) (at_i (n := 1) rfl rfl) ?_
      walk_at "rd"
      rw [decide_eq_true rfl]
      walk_at "rd"
      exact stop rfl
    | @tup a b xs ys ns ha hb hx hy all =>
      refine u_isi (.base (.tup hb)) (b := true) (by decide +kernel) ?_
      walk_at "rd"
      refine u_ixT (sqt hT) (at_i (n := 0) rfl rfl) ?_
      walk_at "rd"
      refine u_isi (.base (.tup ha)) (b := true) (by decide +kernel) ?_
      walk_at "rd"
      refine u_ixT (sqt hT) (at_i (n := 0) rfl rfl) ?_
      walk_at "rd"
      refine u_lenT (sqt ha) ?_
      walk_at "rd"
      refine u_ixT (sqt hT) (at_i (n := 1) rfl rfl) ?_
      walk_at "rd"
      refine u_lenT (sqt hb) ?_
      rw [hx, hy]
      walk_at "rd"
      rw [decide_eq_true rfl]
      walk_at "rd"
      refine u_ixT (sqt hT) (at_i (n := 1) rfl rfl) ?_
      walk_at "rd"
      refine u_lenT (sqt hb) ?_
      rw [hy]
      walk_at "rd"
      have nl : ns.length ≤ ns.sum := sum_mem_le (n := 0) fun m hm => by
        obtain ⟨j, hj, ej⟩ := List.mem_iff_getElem.mp hm
        have := all j _ _ m (List.getElem?_eq_getElem (by omega)) (List.getElem?_eq_getElem (by omega)) (by rw [List.getElem?_eq_getElem hj, ej])
        exact this.pos
      refine ⟨_, rfl, by omega, by omega, ?_⟩
      refine for_r0 (n := ns.length) (by omega) (fun j σ H' => ∃ (zs : List V) (o5 : Option V), σ = [some v, some u, some (.ref q), some (.int (i : Int)), some (.ref T), o5] ∧ Ex H H' ∧ TK H2 H' ∧ H' q = some (.lst zs) ∧ Prs H' zs (ms ++ ns.take j) ∧ zs.length ≤ 900000 + j)
        ⟨zs, _, rfl, e, TK.refl _, hq, by rw [List.take_zero, List.append_nil]; exact ps, by omega⟩ ?_ ?_
      · rintro j σ H3 hj ⟨zs, o5, rfl, e, tk, hq, ps, lz⟩
        have hxj := List.getElem?_eq_getElem (l := xs) (i := j) (by omega)
        have hyj := List.getElem?_eq_getElem (l := ys) (i := j) (by omega)
        have hnj := List.getElem?_eq_getElem (l := ns) (i := j) hj
        have sj := (all j _ _ _ hxj hyj hnj).tk tk
        generalize xs[j]'(by omega) = x at hxj sj
        generalize ys[j]'(by omega) = y at hyj sj
        generalize hm : ns[j] = m at hnj sj
        walk_at "rd"
        refine u_tyL (sql hq) ?_
        walk_at "rd"
        refine u_ixT (sqt (tk _ _ hT)) (at_i (n := 0) rfl rfl) ?_
        walk_at "rd"
        refine u_ixT (sqt (tk _ _ ha)) (at_i rfl hxj) ?_
        walk_at "rd"
        refine u_ixT (sqt (tk _ _ hT)) (at_i (n := 1) rfl rfl) ?_
        walk_at "rd"
        refine u_ixT (sqt (tk _ _ hb)) (at_i rfl hyj) ?_
        walk_at "rd"
        refine ⟨szOf (by show 2 ≤ _; decide), fun T2 hT2 => ?_⟩
        have e2 := Ex.new (o := .tup [x, y]) hT2
        have hq2 := e2 _ _ hq
        have hT3 : upd H3 T2 (.tup [x, y]) T2 = some (.tup [x, y]) := upd_same
        generalize upd H3 T2 (.tup [x, y]) = H4 at e2 hq2 hT3
        have lz2 : zs.length ≤ 999000 := by
          have h1 := ps.1
          rw [List.length_append, List.length_take] at h1
          omega
        walk_at "rd"
        refine u_append hq2 (szLt (by omega)) ?_
        have tk3 : TK H4 (upd H4 q (.lst (zs ++ [V.ref T2]))) := TK.lst hq2
        have et : ms ++ ns.take (j + 1) = (ms ++ ns.take j) ++ [m] := by
          rw [List.take_add_one, hnj, List.append_assoc] <;> rfl
        refine ⟨_, _, rfl, (e.trans e2).mut q0, (tk.trans (TK.of e2)).trans tk3, upd_same, ?_, by rw [List.length_append, List.length_singleton]; omega⟩
        rw [et]
        exact ((ps.tk (TK.of e2)).tk tk3).snoc (tk3 _ _ hT3) ((sj.tk (TK.of e2)).tk tk3)
      · rintro σ H3 ⟨zs, o5, rfl, e, tk, hq, ps, lz⟩
        rw [List.take_of_length_le (Nat.le_refl _)] at ps
        exact ⟨_, _, _, _, _, rfl, e, hq, ps, by rw [List.sum_append]; omega⟩
  · rintro σ H1 ⟨xs, ns, o3, o4, o5, rfl, e, hq, ps, tot⟩
    exact absurd tot (by omega)

end K39
set_option Elab.async false
set_option linter.all false
set_option maxRecDepth 100000
set_option maxHeartbeats 2000000
namespace K39
open PySem L2 Uni
local macro_rules | `(tactic| walk_at "rd") => `(tactic| (repeat (first
  | (with_reducible refine u_var (by with_unfolding_all exact rfl) ?_) | (with_reducible refine u_seq ?_) | (with_reducible refine u_asg ?_) | (with_reducible refine u_gname ?_) | (with_reducible refine u_drop ?_) | (with_reducible refine u_ret ?_) | (with_reducible refine u_retN ?_) | (with_reducible refine u_next ?_) | (with_reducible refine u_break ?_) | (with_reducible refine u_cont ?_) | (with_reducible refine u_if ?_) | (with_reducible refine u_c ?_) | (with_reducible refine u_op ?_) | (with_reducible refine u_un ?_) | (with_reducible refine u_test ?_) | (with_reducible refine u_tb ?_) | (with_reducible refine u_bl ?_) | (with_reducible refine u_not ?_) | (with_reducible refine u_and ?_) | (with_reducible refine u_or ?_) | (with_reducible refine u_chain ?_) | (with_reducible refine u_ifE ?_) | (with_reducible refine u_andV ?_) | (with_reducible refine u_orV ?_) | (with_reducible refine u_notV ?_) | (with_reducible refine u_blE ?_) | (with_reducible refine u_nil ?_) | (with_reducible refine u_cons ?_) | (with_reducible refine u_tup ?_) | (with_reducible refine u_lst ?_) | (with_reducible refine u_cb ?_) | (with_reducible refine u_call ?_) | (with_reducible refine u_bm ?_) | (with_reducible refine u_bm0 ?_) | (with_reducible refine u_m1 ?_) | (with_reducible refine u_sl ?_) | (with_reducible refine u_nopart ?_) | (with_reducible refine u_part ?_) | (with_reducible refine u_int ?_) | (with_reducible refine u_yes ?_) | (with_reducible refine u_add ?_) | (with_reducible refine u_sub ?_) | (with_reducible refine u_neg ?_) | (with_reducible refine u_le ?_) | (with_reducible refine u_gt ?_) | (with_reducible refine u_ge ?_) | (with_reducible refine u_lt ?_) | (with_reducible refine u_ltS ?_) | (with_reducible refine u_eqI ?_) | (with_reducible refine u_neI ?_) | (with_reducible refine u_eqS ?_) | (with_reducible refine u_neS ?_) | (with_reducible refine u_eqB ?_) | (with_reducible refine u_neB ?_) | (with_reducible refine u_inS ?_) | (with_reducible refine u_ninS ?_) | (with_reducible refine u_intI ?_) | (with_reducible refine u_intB ?_) | (with_reducible refine u_for ?_) | (with_reducible refine u_iR1 ?_) | (with_reducible refine u_iR2 ?_) | (with_reducible refine u_uni ?_) | (with_reducible refine u_lc ?_)
  | (with_reducible refine iteT ?_) | (with_reducible refine iteF ?_) | (with_reducible refine iteNT ?_) | (with_reducible refine iteNF ?_))))
theorem u_ost {K : PySem.W.Frag} {f : PySem.Str} {to te : TE} {D : Ends} {σ : L2.St} {H : Hp} (h : te σ H fun y H1 => to σ H1 fun x H2 => ∃ a C : Addr, x = .ref a ∧ OexC K C ∧ PySem.W.findIn K (.ref C) f = some none ∧
  ((H2 a = some (exo a C none) ∧ ∀ dx, H2 dx = none → dx ≠ a → D.nx σ (upd (upd H2 dx (exd dx [(f, y)])) a (exo a C (some dx)))) ∨
    ∃ (dx : Addr) (fs : List (PySem.Str × V)), H2 a = some (exo a C (some dx)) ∧ H2 dx = some (exd dx fs) ∧ fs.length ≤ 900 ∧ D.nx σ (upd H2 dx (exd dx ((f, y) :: fs))))) : tOst K f to te D σ H := h
theorem pu_exc {K : PySem.W.Frag} {C : Addr} {f : PySem.Str} (T : OexC K C) (hn : PySem.W.findIn K (.ref C) f = some none) (N : List PySem.Str) (hN : N.length = 2) (vs : List V) (H : Hp) (Q : VK) (E : XK) (h : sp_exc C f vs H Q E) :
    tOst K f (tVar 0) (tVar 1) { nx := fun _ H' => Q .non H', rt := Q } (start N vs) H := by
  obtain ⟨a, y, rfl, ha, k⟩ := h
  have es : L2.start N [V.ref a, y] = [some (.ref a), some y] := by
    unfold L2.start
    rw [hN] <;> rfl
  rw [es]
  refine u_ost ?_
  walk_at "rd"
  exact ⟨a, C, rfl, T, hn, Or.inl ⟨ha, fun dx h1 h2 => k dx h1 h2⟩⟩
theorem raise_out {C : Addr} {f : PySem.Str} {y : V} {H : Hp} {E : XK} (h : Out H E C f y) : ∀ a, H a = none → sp_exc C f (.ref a :: ([y] ++ [])) (upd H a (exo a C none))
    (fun v H2 => v = .non ∧ ∃ (d : Addr) (fs : List (PySem.Str × V)), H2 a = some (exo a C (some d)) ∧ H2 d = some (exd d fs) ∧ H d = none ∧ E (.ref C) (some d) (upd (del H2 a) d (.xd fs))) (fun _ _ _ => False) := by
  intro a ha
  refine ⟨a, y, rfl, upd_same, fun dx hdx hne => ⟨rfl, dx, [(f, y)], upd_same, off hne upd_same, (upd_none hdx).2, h dx _ (fun b o hb => ?_) upd_same⟩⟩
  have hba : b ≠ a := ne_of_none hb ha
  have hbd : b ≠ dx := ne_of_none hb (upd_none hdx).2
  rw [upd_ne hbd, del_ne hba, upd_ne hba, upd_ne hbd, upd_ne hba]
  exact hb
theorem u_raiseO {C : Addr} {sp : Sp} {W : WX} {t : TA} {D : Ends} {σ : L2.St} {H : Hp} (h : t σ H fun vs H1 => vs.length ≤ 1000 ∧ ∀ a, H1 a = none → sp (.ref a :: (vs ++ [])) (upd H1 a (exo a C none))
  (fun v H2 => v = .non ∧ ∃ (d : Addr) (fs : List (PySem.Str × V)), H2 a = some (exo a C (some d)) ∧ H2 d = some (exd d fs) ∧ H1 d = none ∧ W (.ref C) (some d) σ (upd (del H2 a) d (.xd fs))) (fun _ _ _ => False)) : tRaiseO C sp W t D σ H := h
theorem pu_check_signs (K : PySem.W.Frag) (vs : List V) (H : Hp) (Q : VK) (E : XK) (h : sp_check_signs K vs H Q E) : t_check_signs K E { nx := fun _ H' => Q .non H', rt := Q } (start N_check_signs vs) H := by
  obtain ⟨s, r, rfl, ls, lr, k1, k2, k3⟩ := h
  unfold t_check_signs
  rw [lit_steps, lit_roots]
  walk_at "rd"
  refine ⟨s, STEPSL, rfl, ls, ?_⟩
  walk_at "rd"
  refine iteNB (fun c => ?_) (fun c => ?_)
  · refine u_raiseO ?_
    walk_at "rd"
    exact ⟨by show 1 ≤ _; decide, raise_out (k2 c)⟩
  · walk_at "rd"
    refine ⟨r, ROOTSL, rfl, lr, ?_⟩
    walk_at "rd"
    refine iteNB (fun c2 => ?_) (fun c2 => ?_)
    · refine u_raiseO ?_
      walk_at "rd"
      exact ⟨by show 1 ≤ _; decide, raise_out (k3 c c2)⟩
    · walk_at "rd"
      exact k1 c c2
/-- a comprehension whose items are told ahead -/
theorem lc_fix (ys0 : List V) {J : It} {n : Nat} {G : Hp → Prop} {X : Nat → V → Prop} (w : Walk J n G (fun i H x H' => H' = H ∧ X i x)) {g : TG} {tt : TT} {te : TE} {vs : List Nat} {σ : L2.St} {H1 : Hp} {Q : VK} (hG : ∀ H, Ex H1 H → G H) (hn : n < sizeLine) (hl : ys0.length = n)
    (hs : ∀ i x y H, ys0[i]? = some y → X i x → Ex H1 H → ∀ (N : V → Hp → Prop) (N' : Hp → Prop), (∀ (H' : Hp), Ex H H' → N y H') →
      g x (wipe σ vs) H fun σ2 H2 => wipe σ2 vs = wipe σ vs ∧ tt σ2 H2 fun b H3 => if b = true then te σ2 H3 N else N' H3)
    (hd : ∀ (D : Addr) (H : Hp), H1 D = none → H D = some (.lst ys0) → Ex H1 H → Q (.ref D) H) : ∀ D, H1 D = none → LcW J g tt te vs σ H1 Q D := by
  refine lc_map w hG hn (fun D j y H => ys0[j]? = some y) (fun _ _ _ _ _ _ h => h) ?_ ?_
  · intro D i x H hi hx hD hacc e N N' hN
    have hy := List.getElem?_eq_getElem (l := ys0) (i := i) (by omega)
    exact hs i x _ H hy hx e N N' fun H' e' => hN _ H' e' hy
  · intro D ys H hD hDy e hl2 hy
    have : ys = ys0 := List.ext_getElem? fun j => by
      by_cases hj : j < n
      · have h1 := List.getElem?_eq_getElem (l := ys) (i := j) (by omega)
        rw [h1, hy j _ h1]
      · rw [List.getElem?_eq_none (by omega), List.getElem?_eq_none (by omega)]
    subst this
    exact hd D H hD hDy e
theorem all_bl {α : Type} (f : α → Bool) (l : List α) : ((l.map f).all id) = true ↔ ∀ x ∈ l, f x = true := by
  rw [List.all_eq_true]
  constructor
  · intro h x hx
    exact h _ (List.mem_map.mpr ⟨x, hx, rfl⟩)
  · intro h b hb
    obtain ⟨x, hx, rfl⟩ := List.mem_map.mp hb
    exact h x hx
theorem pu_check_table (K : PySem.W.Frag) (vs : List V) (H : Hp) (Q : VK) (E : XK) (h : sp_check_table K vs H Q E) : t_check_table K E { nx := fun _ H' => Q .non H', rt := Q } (start N_check_table vs) H := by
  obtain ⟨s, r, b, l, t, tb, rfl, ls, lr, ⟨⟨kb, b', rfl, hb⟩, ⟨kl, l', xs, rfl, hl, lx, hx⟩, ⟨kt, t', rfl, ht⟩, ⟨few, fewl⟩, short⟩, k1, k2, k3, k4⟩ := h
  unfold t_check_table
  walk_at "rd"
  refine u_lenK (k := kt) (Kd.of ht) ?_
  rw [List.length_map]
  walk_at "rd"
  have bad1 : badMarked tb → tRaiseO (He.ga K "BadWorld") (sp_exc (He.ga K "BadWorld") "part") (fun cls d _ H => E cls d H) (tCons (tC (.str "marked")) tNil) { nx := fun _ H' => True, rt := Q } [some (sv s), some (sv r), some (.ref b'), some (.ref l'), some (.ref t'), some (.int tb.texts.length), none, none] H := fun c => by
    refine u_raiseO ?_
    walk_at "rd"
    exact ⟨by show 1 ≤ _; decide, raise_out (k2 c)⟩
  have outE : ∀ {C : Addr} {f : PySem.Str} {y : V} {H' : Hp}, Ex H H' → Out H E C f y → Out H' E C f y := fun e o d H2 e2 hd => o d H2 (e.trans e2) hd
  refine iteD (fun c => ?_) (fun c => ?_)
  · walk_at "rd"
    refine u_raiseO ?_
    walk_at "rd"
    exact ⟨by show 1 ≤ _; decide, raise_out (k2 (Or.inl (List.length_eq_zero_iff.mp (by omega))))⟩
  have tn : tb.texts ≠ [] := fun z => c (by rw [z] <;> rfl)
  walk_at "rd"
  refine u_uC (k := kt) (Kd.of ht) ?_
  refine lc_fix ((tb.texts.map okMarks).map V.bl) walk_kX (fun H' e => (Kd.of ht).ex e) (szLt (by rw [List.length_map]; omega)) (by rw [List.length_map, List.length_map, List.length_map]) ?_ ?_
  · intro i x y H' hy hx e N N' hN
    obtain ⟨bb, hbb, rfl⟩ := getm hy
    obtain ⟨tt, htt, rfl⟩ := getm hbb
    obtain ⟨t2, ht2, rfl⟩ := getm hx
    rw [htt] at ht2
    cases ht2
    walk_at "rd"
    refine ⟨rfl, ?_⟩
    walk_at "rd"
    exact ⟨tt, rfl, short _ (List.mem_of_getElem? htt), hN H' (Ex.refl _)⟩
  intro D H1 hD hDy e1
  refine ⟨D, _, rfl, sql hDy, ?_⟩
  walk_at "rd"
  refine iteNB (fun c2 => ?_) (fun c2 => ?_)
  · refine u_raiseO ?_
    walk_at "rd"
    refine ⟨by show 1 ≤ _; decide, raise_out (outE e1 (k2 (Or.inr ?_)))⟩
    by_cases hbad : ∃ t ∈ tb.texts, okMarks t = false
    · exact hbad
    · have : ((tb.texts.map okMarks).all id) = true := (all_bl okMarks tb.texts).mpr fun x hx => by
        cases e : okMarks x with
        | true => rfl
        | false => exact absurd ⟨x, hx, e⟩ hbad
      rw [this] at c2
      cases c2
  have nm : ¬ badMarked tb := by
    rintro (z | ⟨t, ht, z⟩)
    · exact tn z
    · rw [(all_bl okMarks tb.texts).mp c2 t ht] at z
      cases z
  walk_at "rd"
  refine u_lenK (k := kl) (Kd.of (e1 _ _ hl)) ?_
  rw [lx]
  walk_at "rd"
  refine iteND (fun c3 => ?_) (fun c3 => ?_)
  · walk_at "rd"
    refine u_raiseO ?_
    walk_at "rd"
    exact ⟨by show 1 ≤ _; decide, raise_out (outE e1 (k3 nm (Or.inl fun z => c3 (by omega))))⟩
  walk_at "rd"
  refine u_uC (k := kl) (Kd.of (e1 _ _ hl)) ?_
  refine lc_fix ((tb.lines.map fun row => okStates row s.length tb.texts.length).map V.bl) walk_kX (fun H' e => (Kd.of (e1 _ _ hl)).ex e) (szLt (by omega)) (by rw [List.length_map, List.length_map]; omega) ?_ ?_
  · intro i x y H' hy hxi e N N' hN
    obtain ⟨bb, hbb, rfl⟩ := getm hy
    obtain ⟨row, hrow, rfl⟩ := getm hbb
    obtain ⟨j, hj⟩ := hx i x row hxi hrow
    walk_at "rd"
    refine ⟨rfl, ?_⟩
    walk_at "rd"
    refine u_lenS (szOf (by omega)) ?_
    walk_at "rd"
    exact ⟨j, x, row, s.length, tb.texts.length, rfl, (hj.ex e1).ex e, hN H' (Ex.refl _)⟩
  intro D2 H2 hD2 hDy2 e2
  refine ⟨D2, _, rfl, sql hDy2, ?_⟩
  have e12 := e1.trans e2
  walk_at "rd"
  refine iteNB (fun c4 => ?_) (fun c4 => ?_)
  · refine u_raiseO ?_
    walk_at "rd"
    refine ⟨by show 1 ≤ _; decide, raise_out (outE e12 (k3 nm (Or.inr ?_)))⟩
    by_cases hbad : ∃ t ∈ tb.lines, okStates t s.length tb.texts.length = false
    · exact hbad
    · have : ((tb.lines.map fun row => okStates row s.length tb.texts.length).all id) = true := (all_bl _ tb.lines).mpr fun x hx => by
        cases e : okStates x s.length tb.texts.length with
        | true => rfl
        | false => exact absurd ⟨x, hx, e⟩ hbad
      rw [this] at c4
      cases c4
  have nv : ¬ badMoves s.length tb := by
    rintro (z | ⟨t, ht, z⟩)
    · exact z (by omega)
    · rw [(all_bl _ tb.lines).mp c4 t ht] at z
      cases z
  walk_at "rd"
  refine u_lenS (szOf (by omega)) ?_
  walk_at "rd"
  refine ⟨kb, .ref b', tb.begins, r.length, tb.texts.length, rfl, ⟨b', rfl, e12 _ _ hb⟩, ?_⟩
  walk_at "rd"
  refine iteNB (fun c5 => ?_) (fun c5 => ?_)
  · refine u_raiseO ?_
    walk_at "rd"
    exact ⟨by show 1 ≤ _; decide, raise_out (outE e12 (k4 nm nv c5))⟩
  · walk_at "rd"
    exact k1 nm nv (fun z => by unfold badStarts at z; rw [c5] at z; cases z) H2 e12

end K39
set_option Elab.async false
set_option linter.all false
set_option maxRecDepth 100000
set_option maxHeartbeats 2000000
namespace K39
open PySem L2 Uni
local macro_rules | `(tactic| walk_at "rd") => `(tactic| (repeat (first
  | (with_reducible refine u_var (by with_unfolding_all exact rfl) ?_) | (with_reducible refine u_seq ?_) | (with_reducible refine u_asg ?_) | (with_reducible refine u_gname ?_) | (with_reducible refine u_drop ?_) | (with_reducible refine u_ret ?_) | (with_reducible refine u_retN ?_) | (with_reducible refine u_next ?_) | (with_reducible refine u_break ?_) | (with_reducible refine u_cont ?_) | (with_reducible refine u_if ?_) | (with_reducible refine u_c ?_) | (with_reducible refine u_op ?_) | (with_reducible refine u_un ?_) | (with_reducible refine u_test ?_) | (with_reducible refine u_tb ?_) | (with_reducible refine u_bl ?_) | (with_reducible refine u_not ?_) | (with_reducible refine u_and ?_) | (with_reducible refine u_or ?_) | (with_reducible refine u_chain ?_) | (with_reducible refine u_ifE ?_) | (with_reducible refine u_andV ?_) | (with_reducible refine u_orV ?_) | (with_reducible refine u_notV ?_) | (with_reducible refine u_blE ?_) | (with_reducible refine u_nil ?_) | (with_reducible refine u_cons ?_) | (with_reducible refine u_tup ?_) | (with_reducible refine u_lst ?_) | (with_reducible refine u_cb ?_) | (with_reducible refine u_call ?_) | (with_reducible refine u_bm ?_) | (with_reducible refine u_bm0 ?_) | (with_reducible refine u_m1 ?_) | (with_reducible refine u_sl ?_) | (with_reducible refine u_nopart ?_) | (with_reducible refine u_part ?_) | (with_reducible refine u_int ?_) | (with_reducible refine u_yes ?_) | (with_reducible refine u_add ?_) | (with_reducible refine u_sub ?_) | (with_reducible refine u_neg ?_) | (with_reducible refine u_le ?_) | (with_reducible refine u_gt ?_) | (with_reducible refine u_ge ?_) | (with_reducible refine u_lt ?_) | (with_reducible refine u_ltS ?_) | (with_reducible refine u_eqI ?_) | (with_reducible refine u_neI ?_) | (with_reducible refine u_eqS ?_) | (with_reducible refine u_neS ?_) | (with_reducible refine u_eqB ?_) | (with_reducible refine u_neB ?_) | (with_reducible refine u_inS ?_) | (with_reducible refine u_ninS ?_) | (with_reducible refine u_intI ?_) | (with_reducible refine u_intB ?_) | (with_reducible refine u_for ?_) | (with_reducible refine u_iR1 ?_) | (with_reducible refine u_iR2 ?_) | (with_reducible refine u_uni ?_) | (with_reducible refine u_lc ?_)
  | (with_reducible refine iteT ?_) | (with_reducible refine iteF ?_) | (with_reducible refine iteNT ?_) | (with_reducible refine iteNF ?_))))
theorem ExB.of {a : Addr} {H H' : Hp} (e : Ex H H') : ExB a H H' := fun b o _ h => e b o h
theorem ExB.trans {a : Addr} {H H1 H2 : Hp} (e : ExB a H H1) (e' : ExB a H1 H2) : ExB a H H2 := fun b o n h => e' b o n (e b o n h)
theorem ExB.upd {a : Addr} {H : Hp} {o : HO} : ExB a H (upd H a o) := fun b u n h => by rw [upd_ne n]; exact h
theorem ins_ne {H : Hp} {a b C dx : Addr} {fs : List (PySem.Str × V)} {k : Bool} {xs : List V} (ha : H a = some (.ins C dx fs)) (hb : H b = some (kho k xs)) : b ≠ a := fun z => by
  rw [z, ha] at hb
  cases k <;> cases hb
theorem u_sfld {K : PySem.W.Frag} {ta tv : TE} {f : PySem.Str} {D : Ends} {σ : L2.St} {H : Hp} (h : tv σ H fun y H1 => ta σ H1 fun x H2 => ∃ a C dx fs, x = .ref a ∧ H2 a = some (.ins C dx fs) ∧ Cls K C ∧ NoAttr K C f ∧ fs.length < 1000 ∧ D.nx σ (L2.upd H2 a (.ins C dx (putF f y fs)))) : sFld K ta tv f D σ H := h
theorem u_callS {sp : Sp} {E : L2.St → XK} {t : TA} {σ : L2.St} {H : Hp} {Q : VK} (h : t σ H fun vs H1 => sp vs H1 Q (E σ)) : tCallS sp E t σ H Q := h
/-- [tuple(row) for row in ..], rows of any kind -/
theorem lc_tups {K : PySem.W.Frag} {σ : L2.St} {H1 : Hp} {Q : VK} {a : Addr} {xs : List V} {rows : List (List Int)} {k : Bool} {i : Nat} {te : TE}
    (hσ : ∀ v : V, ((wipe σ [i]).set i (some v))[i]? = some (some v)) (hw : ∀ v : V, wipe ((wipe σ [i]).set i (some v)) [i] = wipe σ [i]) (hte : ∀ (v : V) (H : Hp) (Q : VK), uTuple K [v] H Q → te ((wipe σ [i]).set i (some v)) H Q)
    (ha : H1 a = some (kho k xs)) (hlen : xs.length = rows.length) (hn : rows.length ≤ 1000) (hr : ∀ (i : Nat) (x : V) (row : List Int), xs[i]? = some x → rows[i]? = some row → ∃ j, SeqI j H1 x row)
    (hq : ∀ (D : Addr) (H' : Hp) (ys : List V), H1 D = none → Ex H1 H' → H' D = some (.lst ys) → ys.length = rows.length → (∀ (i : Nat) x row, ys[i]? = some x → rows[i]? = some row → SeqI true H' x row) → Q (.ref D) H') :
    ∀ D, H1 D = none → LcW (Jk K k a) (gName i) tYes te [i] σ H1 Q D := by
  refine lc_map walk_kX (fun H e => (Kd.of ha).ex e) (szLt (by omega)) (fun D n y H => ∃ (c : Addr) (row : List Int), y = .ref c ∧ rows[n]? = some row ∧ H c = some (.tup (row.map V.int)) ∧ c ≠ D) ?_ ?_ ?_
  · rintro D n y H H' kk ⟨c, row, e1, e2, e3, e4⟩
    exact ⟨c, row, e1, e2, kk _ _ e4 e3, e4⟩
  · rintro D n v H hi hx hD ⟨acc, hacc⟩ e N N' hN
    refine u_gname ⟨hw _, u_yes (iteT (hte _ _ _ ?_))⟩
    have hr1 : rows[n]? = some rows[n] := List.getElem?_eq_getElem (by omega)
    generalize rows[n] = row at hr1
    obtain ⟨j, c, rfl, hc⟩ := hr n v row hx hr1
    refine u_tupK (e _ _ hc) fun p H' e' hp => hN _ H' e' ⟨p, row, rfl, hr1, hp, fun z => ?_⟩
    rw [z, e' _ _ hacc] at hp
    cases hp
  · intro D ys H hD hDy e hl hy
    refine hq D H ys hD e hDy (by omega) fun n x row h1 h2 => ?_
    obtain ⟨c, row', e1, e2, e3, _⟩ := hy n x h1
    rw [h2] at e2
    cases e2
    exact ⟨c, e1, e3⟩
abbrev F1 (s : List Nat) : List (PySem.Str × V) := [("steps", sv s)]
abbrev F2 (s r : List Nat) : List (PySem.Str × V) := [("steps", sv s), ("roots", sv r)]
abbrev F3 (s r : List Nat) (b : Addr) : List (PySem.Str × V) := [("steps", sv s), ("roots", sv r), ("starts", .ref b)]
abbrev F4 (s r : List Nat) (b l : Addr) : List (PySem.Str × V) := [("steps", sv s), ("roots", sv r), ("starts", .ref b), ("moves", .ref l)]
abbrev F5 (s r : List Nat) (b l t : Addr) : List (PySem.Str × V) := [("steps", sv s), ("roots", sv r), ("starts", .ref b), ("moves", .ref l), ("marked", .ref t)]
theorem pu_World_init (K : PySem.W.Frag) (W : WCls K) (vs : List V) (H : Hp) (Q : VK) (E : XK) (h : sp_World_init K vs H Q E) : t_World_init K E { nx := fun _ H' => Q .non H', rt := Q } (start N_World_init vs) H := by
  obtain ⟨a, dx, s, r, b, l, t, tb, rfl, ha, ls, lr, tin, k1, k2, x1, x2, x3, x4, x5⟩ := h
  unfold t_World_init
  walk_at "rd"
  refine u_callS ?_
  walk_at "rd"
  refine ⟨s, r, rfl, ls, lr, fun gs gr => ?_, x1, x2⟩
  have G : GoodSg s r := ⟨gs, gr⟩
  walk_at "rd"
  refine u_callS ?_
  walk_at "rd"
  refine ⟨s, r, b, l, t, tb, rfl, ls, lr, tin, fun c1 c2 c3 H1 e1 => ?_, x3 G, x4 G, x5 G⟩
  have T : GoodTb s.length r.length tb := by
    rcases k2 G with z | z | z | z
    · exact z
    · exact absurd z c1
    · exact absurd z c2
    · exact absurd z c3
  obtain ⟨⟨kb, b', rfl, hb⟩, ⟨kl, l', xs, rfl, hl, lx, hx⟩, ⟨kt, t', rfl, ht⟩, ⟨few, fewl⟩, short⟩ := tin.ex e1
  have ha1 := e1 _ _ ha
  have eB : ExB a H H1 := ExB.of e1
  clear x1 x2 x3 x4 x5 k2 tin ha
  walk_at "rd"
  refine u_sfld ?_
  walk_at "rd"
  refine ⟨a, gW K, dx, [], rfl, ha1, W.cls, W.steps, by decide, ?_⟩
  rw [show putF "steps" (sv s) [] = (F1 s) from rfl]
  have e2 : ExB a H1 (L2.upd H1 a (.ins (gW K) dx (F1 s))) := ExB.upd
  have q2 : L2.upd H1 a (.ins (gW K) dx (F1 s)) a = some (.ins (gW K) dx (F1 s)) := upd_same
  generalize L2.upd H1 a (.ins (gW K) dx (F1 s)) = H2 at e2 q2
  walk_at "rd"
  refine u_sfld ?_
  walk_at "rd"
  refine ⟨a, gW K, dx, _, rfl, q2, W.cls, W.roots, by show 1 < _; decide, ?_⟩
  rw [show putF "roots" (sv r) (F1 s) = (F2 s r) from rfl]
  have e3 : ExB a H1 (L2.upd H2 a (.ins (gW K) dx (F2 s r))) := e2.trans ExB.upd
  have q3 : L2.upd H2 a (.ins (gW K) dx (F2 s r)) a = some (.ins (gW K) dx (F2 s r)) := upd_same
  generalize L2.upd H2 a (.ins (gW K) dx (F2 s r)) = H3 at e3 q3
  clear e2 q2
  walk_at "rd"
  refine u_sfld ?_
  walk_at "rd"
  refine u_tupK (e3 _ _ (ins_ne ha1 hb) hb) fun pb H4 e4 hpb => ?_
  walk_at "rd"
  have q4 := e4 _ _ q3
  refine ⟨a, gW K, dx, _, rfl, q4, W.cls, W.starts, by show 2 < _; decide, ?_⟩
  rw [show putF "starts" (.ref pb) (F2 s r) = (F3 s r pb) from rfl]
  have npb : pb ≠ a := ins_ne (k := true) q4 hpb
  have e5 : ExB a H1 (L2.upd H4 a (.ins (gW K) dx (F3 s r pb))) := (e3.trans (ExB.of e4)).trans ExB.upd
  have q5 : L2.upd H4 a (.ins (gW K) dx (F3 s r pb)) a = some (.ins (gW K) dx (F3 s r pb)) := upd_same
  have hpb := off (o := .ins (gW K) dx (F3 s r pb)) npb hpb
  generalize L2.upd H4 a (.ins (gW K) dx (F3 s r pb)) = H5 at e5 q5 hpb
  clear e3 q3 e4 q4
  walk_at "rd"
  refine u_sfld ?_
  walk_at "rd"
  refine u_uC (k := kl) (Kd.of (e5 _ _ (ins_ne ha1 hl) hl)) ?_
  refine lc_tups (rows := tb.lines) (fun _ => rfl) (fun _ => rfl) (fun v H Q h => ?_) (e5 _ _ (ins_ne ha1 hl) hl) lx (by have := T.llen; have := T.few; omega) (fun i x row h1 h2 => ?_) fun pl0 H6 ys hp0 e6 hpl0 ly sq => ?_
  · walk_at "rd"
    exact h
  · obtain ⟨j, c, rfl, hc⟩ := hx i x row h1 h2
    exact ⟨j, c, rfl, e5 _ _ (ins_ne ha1 hc) hc⟩
  walk_at "rd"
  refine n_tupL (sql hpl0) fun pl H7 n7 => ?_
  have e57 := e6.trans n7.2.1
  walk_at "rd"
  have q7 := e57 _ _ q5
  refine ⟨a, gW K, dx, _, rfl, q7, W.cls, W.moves, by show 3 < _; decide, ?_⟩
  rw [show putF "moves" (.ref pl) (F3 s r pb) = (F4 s r pb pl) from rfl]
  have e8 : ExB a H1 (L2.upd H7 a (.ins (gW K) dx (F4 s r pb pl))) := (e5.trans (ExB.of e57)).trans ExB.upd
  have q8 : L2.upd H7 a (.ins (gW K) dx (F4 s r pb pl)) a = some (.ins (gW K) dx (F4 s r pb pl)) := upd_same
  have hpb := off (o := .ins (gW K) dx (F4 s r pb pl)) npb (e57 _ _ hpb)
  have npl : pl ≠ a := ins_ne (k := true) q7 n7.2.2.1
  have hpl := off (o := .ins (gW K) dx (F4 s r pb pl)) npl n7.2.2.1
  have sq8 : ∀ (i : Nat) x row, ys[i]? = some x → tb.lines[i]? = some row → SeqI true (L2.upd H7 a (.ins (gW K) dx (F4 s r pb pl))) x row := fun i x row h1 h2 => by
    obtain ⟨c, rfl, hc⟩ := (sq i x row h1 h2).ex n7.2.1
    exact ⟨c, rfl, off (ins_ne q7 hc) hc⟩
  generalize L2.upd H7 a (.ins (gW K) dx (F4 s r pb pl)) = H8 at e8 q8 hpb hpl sq8
  clear e5 q5 e6 hpl0 sq n7 e57 q7 hp0
  walk_at "rd"
  refine u_sfld ?_
  walk_at "rd"
  refine u_tupK (e8 _ _ (ins_ne ha1 ht) ht) fun pt H9 e9 hpt => ?_
  walk_at "rd"
  have q9 := e9 _ _ q8
  refine ⟨a, gW K, dx, _, rfl, q9, W.cls, W.marked, by show 4 < _; decide, ?_⟩
  rw [show putF "marked" (.ref pt) (F4 s r pb pl) = (F5 s r pb pl pt) from rfl]
  have e10 : ExB a H1 (L2.upd H9 a (.ins (gW K) dx (F5 s r pb pl pt))) := (e8.trans (ExB.of e9)).trans ExB.upd
  have q10 : L2.upd H9 a (.ins (gW K) dx (F5 s r pb pl pt)) a = some (.ins (gW K) dx (F5 s r pb pl pt)) := upd_same
  have npt : pt ≠ a := ins_ne (k := true) q9 hpt
  have hpb := off (o := .ins (gW K) dx (F5 s r pb pl pt)) npb (e9 _ _ hpb)
  have hpl := off (o := .ins (gW K) dx (F5 s r pb pl pt)) npl (e9 _ _ hpl)
  have hpt := off (o := .ins (gW K) dx (F5 s r pb pl pt)) npt hpt
  have sq10 : ∀ (i : Nat) x row, ys[i]? = some x → tb.lines[i]? = some row → SeqI true (L2.upd H9 a (.ins (gW K) dx (F5 s r pb pl pt))) x row := fun i x row h1 h2 => by
    obtain ⟨c, rfl, hc⟩ := (sq8 i x row h1 h2).ex e9
    exact ⟨c, rfl, off (ins_ne q9 hc) hc⟩
  generalize L2.upd H9 a (.ins (gW K) dx (F5 s r pb pl pt)) = H10 at e10 q10 hpb hpl hpt sq10
  clear e8 q8 e9 q9 sq8
  walk_at "rd"
  show sFld K (tVar 0) (tCall (sp_least_places_of K) [] E0 (tCons (tFld K (tVar 0) "steps") (tCons (tFld K (tVar 0) "roots") (tCons (tFld K (tVar 0) "starts") (tCons (tFld K (tVar 0) "moves") tNil))))) "_places" { nx := fun _ H' => Q .non H', rt := Q } _ _
  refine u_sfld ?_
  walk_at "rd"
  refine u_fld ?_
  walk_at "rd"
  refine ⟨a, _, dx, _, _, rfl, q10, W.cls, W.steps, rfl, ?_⟩
  walk_at "rd"
  refine u_fld ?_
  walk_at "rd"
  refine ⟨a, _, dx, _, _, rfl, q10, W.cls, W.roots, rfl, ?_⟩
  walk_at "rd"
  refine u_fld ?_
  walk_at "rd"
  refine ⟨a, _, dx, _, _, rfl, q10, W.cls, W.starts, rfl, ?_⟩
  walk_at "rd"
  refine u_fld ?_
  walk_at "rd"
  refine ⟨a, _, dx, _, _, rfl, q10, W.cls, W.moves, rfl, ?_⟩
  walk_at "rd"
  refine ⟨.ref pb, .ref pl, s, r, tb, rfl, ⟨pb, rfl, hpb⟩, ⟨pl, ys, rfl, hpl, ly, sq10⟩, G, T, ?_⟩
  intro q kvs R H11 e11 hq0 hq hk hQ hR
  walk_at "rd"
  have q11 := e11 _ _ q10
  refine ⟨a, gW K, dx, _, rfl, q11, W.cls, W.places, by show 5 < _; decide, ?_⟩
  rw [show putF "_places" (.ref q) (F5 s r pb pl pt) = wfs s r (.ref pb) (.ref pl) (.ref pt) (.ref q) from rfl]
  have nq : q ≠ a := fun z => by rw [z, q10] at hq0; cases hq0
  refine k1 G T _ ((eB.trans (e10.trans (ExB.of e11))).trans ExB.upd) ⟨a, dx, .ref pb, .ref pl, .ref pt, q, kvs, R, rfl, upd_same, ⟨pb, rfl, off npb (e11 _ _ hpb)⟩, ⟨pl, ys, rfl, off npl (e11 _ _ hpl), ly, fun i x row h1 h2 => ?_⟩, ⟨pt, rfl, off npt (e11 _ _ hpt)⟩, off nq hq, hk, hQ, hR⟩
  obtain ⟨c, rfl, hc⟩ := (sq10 i x row h1 h2).ex e11
  exact ⟨c, rfl, off (ins_ne q11 hc) hc⟩

end K39
set_option Elab.async false
set_option linter.all false
set_option maxRecDepth 100000
set_option maxHeartbeats 2000000
namespace K39
open PySem L2 Uni
local macro_rules | `(tactic| walk_at "rd") => `(tactic| (repeat (first
  | (with_reducible refine u_var (by with_unfolding_all exact rfl) ?_) | (with_reducible refine u_seq ?_) | (with_reducible refine u_asg ?_) | (with_reducible refine u_gname ?_) | (with_reducible refine u_drop ?_) | (with_reducible refine u_ret ?_) | (with_reducible refine u_retN ?_) | (with_reducible refine u_next ?_) | (with_reducible refine u_break ?_) | (with_reducible refine u_cont ?_) | (with_reducible refine u_if ?_) | (with_reducible refine u_c ?_) | (with_reducible refine u_op ?_) | (with_reducible refine u_un ?_) | (with_reducible refine u_test ?_) | (with_reducible refine u_tb ?_) | (with_reducible refine u_bl ?_) | (with_reducible refine u_not ?_) | (with_reducible refine u_and ?_) | (with_reducible refine u_or ?_) | (with_reducible refine u_chain ?_) | (with_reducible refine u_ifE ?_) | (with_reducible refine u_andV ?_) | (with_reducible refine u_orV ?_) | (with_reducible refine u_notV ?_) | (with_reducible refine u_blE ?_) | (with_reducible refine u_nil ?_) | (with_reducible refine u_cons ?_) | (with_reducible refine u_tup ?_) | (with_reducible refine u_lst ?_) | (with_reducible refine u_cb ?_) | (with_reducible refine u_call ?_) | (with_reducible refine u_bm ?_) | (with_reducible refine u_bm0 ?_) | (with_reducible refine u_m1 ?_) | (with_reducible refine u_sl ?_) | (with_reducible refine u_nopart ?_) | (with_reducible refine u_part ?_) | (with_reducible refine u_int ?_) | (with_reducible refine u_yes ?_) | (with_reducible refine u_add ?_) | (with_reducible refine u_sub ?_) | (with_reducible refine u_neg ?_) | (with_reducible refine u_le ?_) | (with_reducible refine u_gt ?_) | (with_reducible refine u_ge ?_) | (with_reducible refine u_lt ?_) | (with_reducible refine u_ltS ?_) | (with_reducible refine u_eqI ?_) | (with_reducible refine u_neI ?_) | (with_reducible refine u_eqS ?_) | (with_reducible refine u_neS ?_) | (with_reducible refine u_eqB ?_) | (with_reducible refine u_neB ?_) | (with_reducible refine u_inS ?_) | (with_reducible refine u_ninS ?_) | (with_reducible refine u_intI ?_) | (with_reducible refine u_intB ?_) | (with_reducible refine u_for ?_) | (with_reducible refine u_iR1 ?_) | (with_reducible refine u_iR2 ?_) | (with_reducible refine u_uni ?_) | (with_reducible refine u_lc ?_)
  | (with_reducible refine iteT ?_) | (with_reducible refine iteF ?_) | (with_reducible refine iteNT ?_) | (with_reducible refine iteNF ?_))))
/-! ### data, compared -/
theorem eqvAll_map {α : Type} [DecidableEq α] (f : α → PyData) (hf : ∀ a b, PyData.eqv (f a) (f b) = decide (a = b)) : ∀ xs ys : List α, PyData.eqvAll (xs.map f) (ys.map f) = decide (xs = ys)
  | [], [] => by simp [PyData.eqvAll]
  | [], _ :: _ => by simp [PyData.eqvAll]
  | _ :: _, [] => by simp [PyData.eqvAll]
  | x :: xs, y :: ys => by
    rw [List.map_cons, List.map_cons, PyData.eqvAll, hf, eqvAll_map f hf xs ys]
    by_cases h1 : x = y <;> by_cases h2 : xs = ys <;> simp [h1, h2]
theorem canLay_map {α : Type} (f : α → PyData) {xs : List α} (h : ∀ x ∈ xs, (f x).canLay0 = true) : PyData.canLayAll0 (xs.map f) = true := by
  induction xs with
  | nil => rfl
  | cons a r ih =>
    rw [List.map_cons, PyData.canLayAll0, h a List.mem_cons_self, ih fun x hx => h x (List.mem_cons_of_mem _ hx)] <;> rfl
theorem depth_map {α : Type} (f : α → PyData) {n : Nat} {xs : List α} (h : ∀ x ∈ xs, (f x).depth ≤ n) : PyData.depthAll (xs.map f) ≤ n := by
  induction xs with
  | nil => rw [List.map_nil, PyData.depthAll]; omega
  | cons a r ih =>
    rw [List.map_cons, PyData.depthAll]
    have := h a List.mem_cons_self
    have := ih fun x hx => h x (List.mem_cons_of_mem _ hx)
    omega
/-- a list or a tuple of data -/
def pk (k : Bool) (ds : List PyData) : PyData := if k then .tuple ds else .list ds
theorem pk_lay {k : Bool} {ds : List PyData} (h : PyData.canLayAll0 ds = true) : (pk k ds).canLay0 = true := by
  cases k
  · show (PyData.list ds).canLay0 = true
    rw [PyData.canLay0]; exact h
  · show (PyData.tuple ds).canLay0 = true
    rw [PyData.canLay0]; exact h
theorem pk_depth {k : Bool} {ds : List PyData} : (pk k ds).depth = PyData.depthAll ds + 1 := by
  cases k
  · show (PyData.list ds).depth = _
    rw [PyData.depth]
  · show (PyData.tuple ds).depth = _
    rw [PyData.depth]
theorem pk_eqv {k : Bool} {xs ys : List PyData} : PyData.eqv (pk k xs) (pk k ys) = PyData.eqvAll xs ys := by
  cases k
  · show PyData.eqv (.list xs) (.list ys) = _
    rw [PyData.eqv]
  · show PyData.eqv (.tuple xs) (.tuple ys) = _
    rw [PyData.eqv]
theorem shaped_of {d : PyData} (h1 : d.canLay0 = true) (h2 : d.depth ≤ 64) : SeqAt.shaped d = true := by
  unfold SeqAt.shaped
  rw [h1, decide_eq_true h2] <;> rfl
theorem dp_k {K : PySem.W.Frag} {H : Hp} {k : Bool} {a : Addr} {xs : List V} {ds : List PyData} (h : H a = some (kho k xs)) (d : DpAll K H xs ds) : Dp K H (.ref a) (pk k ds) := by
  cases k
  · exact .lst (sql h) d
  · exact .tup (sqt h) d
theorem dpAll_of {K : PySem.W.Frag} {H : Hp} : ∀ {xs : List V} {ds : List PyData}, xs.length = ds.length → (∀ (i : Nat) x d, xs[i]? = some x → ds[i]? = some d → Dp K H x d) → DpAll K H xs ds
  | [], [], _, _ => .nil
  | [], _ :: _, h, _ => nomatch h
  | _ :: _, [], h, _ => nomatch h
  | x :: xs, d :: ds, h, g => .cons (g 0 x d rfl rfl) (dpAll_of (by simpa using h) fun i y e a b => g (i + 1) y e (by simpa using a) (by simpa using b))
def pI (n : Int) : PyData := .int n
def pS (t : List Nat) : PyData := .str (S t)
def pR (j : Bool) (row : List Int) : PyData := pk j (row.map pI)
theorem eqv_I (a b : Int) : PyData.eqv (pI a) (pI b) = decide (a = b) := by
  unfold pI
  rw [PyData.eqv]
  rw [Bool.eq_iff_iff, beq_iff_eq, decide_eq_true_iff]
theorem eqv_S (a b : List Nat) : PyData.eqv (pS a) (pS b) = decide (a = b) := by
  unfold pS
  rw [PyData.eqv, Bool.eq_iff_iff, beq_iff_eq, decide_eq_true_iff, S_eq]
theorem eqv_R (j : Bool) (a b : List Int) : PyData.eqv (pR j a) (pR j b) = decide (a = b) := by
  unfold pR
  rw [pk_eqv, eqvAll_map pI eqv_I]
theorem lay_I (n : Int) : (pI n).canLay0 = true := by unfold pI; rw [PyData.canLay0]
theorem lay_R (j : Bool) (row : List Int) : (pR j row).canLay0 = true := pk_lay (canLay_map pI fun x _ => lay_I x)
theorem dep_I (n : Int) : (pI n).depth = 0 := by unfold pI; rw [PyData.depth]
theorem dep_S (n : List Nat) : (pS n).depth = 0 := by unfold pS; rw [PyData.depth]
theorem dep_R (j : Bool) (row : List Int) : (pR j row).depth ≤ 1 := by
  unfold pR
  rw [pk_depth]
  have := depth_map pI (n := 0) (xs := row) fun x _ => by rw [dep_I]; exact Nat.le_refl _
  omega
theorem dp_I {K : PySem.W.Frag} {H : Hp} {k : Bool} {v : V} {ns : List Int} (h : SeqI k H v ns) : Dp K H v (pR k ns) := by
  obtain ⟨a, rfl, ha⟩ := h
  refine dp_k ha (dpAll_of (by rw [List.length_map, List.length_map]) fun i x d h1 h2 => ?_)
  obtain ⟨n, hn, rfl⟩ := getm h1
  obtain ⟨m, hm, rfl⟩ := getm h2
  rw [hn] at hm
  cases hm
  exact .int n
theorem dp_S {K : PySem.W.Frag} {H : Hp} {k : Bool} {v : V} {ts : List (List Nat)} (h : SeqS k H v ts) : Dp K H v (pk k (ts.map pS)) := by
  obtain ⟨a, rfl, ha⟩ := h
  refine dp_k ha (dpAll_of (by rw [List.length_map, List.length_map]) fun i x d h1 h2 => ?_)
  obtain ⟨n, hn, rfl⟩ := getm h1
  obtain ⟨m, hm, rfl⟩ := getm h2
  rw [hn] at hm
  cases hm
  exact .str _
theorem dp_II {K : PySem.W.Frag} {H : Hp} {k j : Bool} {v : V} {rows : List (List Int)} (h : SeqII k j H v rows) : Dp K H v (pk k (rows.map (pR j))) := by
  obtain ⟨a, xs, rfl, ha, hl, hx⟩ := h
  refine dp_k ha (dpAll_of (by rw [List.length_map, hl]) fun i x d h1 h2 => ?_)
  obtain ⟨row, hr, rfl⟩ := getm h2
  exact dp_I (hx i x row h1 hr)
theorem sh_I (k : Bool) (ns : List Int) : SeqAt.shaped (pR k ns) = true := shaped_of (lay_R k ns) (Nat.le_trans (dep_R k ns) (by decide))
theorem sh_II (k j : Bool) (rows : List (List Int)) : SeqAt.shaped (pk k (rows.map (pR j))) = true := shaped_of (pk_lay (canLay_map (pR j) fun x _ => lay_R j x)) (by
  rw [pk_depth]
  have := depth_map (pR j) (n := 1) (xs := rows) fun x _ => dep_R j x
  omega)
theorem low_marks : ∀ c ∈ MARKSL, c < 91 := by decide
theorem lay_S {t : List Nat} (h : ∀ c ∈ t, c ∈ MARKSL) : (pS t).canLay0 = true := by
  unfold pS
  rw [PyData.canLay0]
  show t.toArray.all _ = true
  rw [List.all_toArray, List.all_eq_true]
  intro c hc
  have := low_marks c (h c hc)
  exact decide_eq_true (by omega)
theorem sh_S (k : Bool) {ts : List (List Nat)} (h : ∀ t ∈ ts, okMarks t = true) : SeqAt.shaped (pk k (ts.map pS)) = true := shaped_of (pk_lay (canLay_map pS fun x hx => lay_S (of_decide_eq_true (h x hx)).1)) (by
  rw [pk_depth]
  have := depth_map pS (n := 0) (xs := ts) fun x _ => by rw [dep_S]; exact Nat.le_refl _
  omega)
theorem u_eqI2 {K : PySem.W.Frag} {H : Hp} {Q : VK} {x y : V} {k : Bool} {a b : List Int} (h1 : SeqI k H x a) (h2 : SeqI k H y b) (q : Q (.bl (decide (a = b))) H) : uEq K x y H Q :=
  Or.inr ⟨_, _, dp_I h1, dp_I h2, sh_I k a, sh_I k b, by rw [eqv_R]; exact q⟩
theorem u_eqII {K : PySem.W.Frag} {H : Hp} {Q : VK} {x y : V} {k j : Bool} {a b : List (List Int)} (h1 : SeqII k j H x a) (h2 : SeqII k j H y b) (q : Q (.bl (decide (a = b))) H) : uEq K x y H Q :=
  Or.inr ⟨_, _, dp_II h1, dp_II h2, sh_II k j a, sh_II k j b, by rw [pk_eqv, eqvAll_map (pR j) (eqv_R j)]; exact q⟩
theorem u_eqSS {K : PySem.W.Frag} {H : Hp} {Q : VK} {x y : V} {k : Bool} {a b : List (List Nat)} (o1 : ∀ t ∈ a, okMarks t = true) (o2 : ∀ t ∈ b, okMarks t = true) (h1 : SeqS k H x a) (h2 : SeqS k H y b) (q : Q (.bl (decide (a = b))) H) : uEq K x y H Q :=
  Or.inr ⟨_, _, dp_S h1, dp_S h2, sh_S k o1, sh_S k o2, by rw [pk_eqv, eqvAll_map pS eqv_S]; exact q⟩
/-- what the class has for isinstance -/
structure WIs (K : PySem.W.Frag) : Prop where
  ha : PySem.W.findIn K (.ref (gW K)) "__class__" = some (some (.builtin "object.__class__"))
  hn : PySem.W.specialIn K (.builtin "object.__class__") "__get__" = some (some (.builtin "getset_descriptor.__get__"))
  htk : PySem.W.takesIn K (.builtin "object.__class__") = some true
  hm : PySem.W.mroIn K (gW K) (.type "object") = some true
  no : ∀ T ∈ (["tuple", "list", "str", "int", "NoneType", "bool"] : List String), PySem.W.kitOne K (.type T) (.ref (gW K)) = some false ∧ PySem.W.notFirst K (gW K) (.type T) = true
theorem Wd.ty {K : PySem.W.Frag} (W : WCls K) (I : WIs K) {H : Hp} {v : V} {s r : List Nat} {tb : Tb} (h : Wd K H v s r tb) : TyX K H v (.ref (gW K)) := by
  obtain ⟨a, dx, b, l, t, d, kvs, R, rfl, ha, _⟩ := h.at_
  exact .base (.ins ha W.cls I.ha I.hn I.htk I.hm)
theorem kit_self (K : PySem.W.Frag) : PySem.W.kitOne K (.ref (gW K)) (.ref (gW K)) = some true := by
  unfold PySem.W.kitOne
  rw [if_pos (by simp)]
theorem u_isi2 {K : PySem.W.Frag} {H : Hp} {Q : VK} {x : V} {C : Addr} {t : Value} {b : Bool} (ht : TyX K H x t) (e : PySem.W.kitOne K t (.ref C) = some b) (h : Q (.bl b) H) : rIsi K [x, .ref C] H Q := ⟨x, .ref C, t, .ref C, b, rfl, .own C, ht, e, h⟩
theorem Tb.ext' {a b : Tb} (h1 : a.begins = b.begins) (h2 : a.lines = b.lines) (h3 : a.texts = b.texts) : a = b := by
  cases a
  cases b
  cases h1
  cases h2
  cases h3
  rfl
theorem pu_World_eq (K : PySem.W.Frag) (W : WCls K) (I : WIs K) (vs : List V) (H : Hp) (Q : VK) (E : XK) (h : sp_World_eq K vs H Q E) : t_World_eq K { nx := fun _ H' => Q .non H', rt := Q } (start N_World_eq vs) H := by
  obtain ⟨v, y, s, r, tb, rfl, w, h⟩ := h
  unfold t_World_eq
  walk_at "rd"
  rcases h with ⟨s', r', tb', w', k⟩ | ⟨t, ty, kit, k⟩
  · have no : ∀ {P : Prop}, (¬ (s = s' ∧ r = r' ∧ tb = tb')) → Q (.bl false) H := fun n => k false ⟨fun z => (by cases z), fun z => absurd z n⟩
    refine u_isi2 (w'.ty W I) (kit_self K) ?_
    obtain ⟨⟨a, dx, b, l, t, d, kvs, R, rfl, ha, hb, hl, ht, _⟩, sg, g⟩ := w
    obtain ⟨⟨a', dx', b', l', t', d', kvs', R', rfl, ha', hb', hl', ht', _⟩, sg', g'⟩ := w'
    walk_at "rd"
    refine u_fld ?_
    walk_at "rd"
    refine ⟨a, _, dx, _, _, rfl, ha, W.cls, W.steps, rfl, ?_⟩
    refine u_fld ?_
    walk_at "rd"
    refine ⟨a', _, dx', _, _, rfl, ha', W.cls, W.steps, rfl, ?_⟩
    walk_at "rd"
    refine iteD (fun c1 => ?_) (fun c1 => ?_)
    case refine_2 => exact no (P := True) fun z => c1 z.1
    walk_at "rd"
    refine u_fld ?_
    walk_at "rd"
    refine ⟨a, _, dx, _, _, rfl, ha, W.cls, W.roots, rfl, ?_⟩
    refine u_fld ?_
    walk_at "rd"
    refine ⟨a', _, dx', _, _, rfl, ha', W.cls, W.roots, rfl, ?_⟩
    walk_at "rd"
    refine iteD (fun c2 => ?_) (fun c2 => ?_)
    case refine_2 => exact no (P := True) fun z => c2 z.2.1
    walk_at "rd"
    refine u_fld ?_
    walk_at "rd"
    refine ⟨a, _, dx, _, _, rfl, ha, W.cls, W.starts, rfl, ?_⟩
    refine u_fld ?_
    walk_at "rd"
    refine ⟨a', _, dx', _, _, rfl, ha', W.cls, W.starts, rfl, ?_⟩
    refine u_eqI2 hb hb' ?_
    refine ⟨_, rfl, ?_⟩
    refine iteD (fun c3 => ?_) (fun c3 => ?_)
    case refine_2 => exact no (P := True) fun z => c3 (by rw [z.2.2])
    walk_at "rd"
    refine u_fld ?_
    walk_at "rd"
    refine ⟨a, _, dx, _, _, rfl, ha, W.cls, W.moves, rfl, ?_⟩
    refine u_fld ?_
    walk_at "rd"
    refine ⟨a', _, dx', _, _, rfl, ha', W.cls, W.moves, rfl, ?_⟩
    refine u_eqII hl hl' ?_
    refine ⟨_, rfl, ?_⟩
    refine iteD (fun c4 => ?_) (fun c4 => ?_)
    case refine_2 => exact no (P := True) fun z => c4 (by rw [z.2.2])
    walk_at "rd"
    refine u_fld ?_
    walk_at "rd"
    refine ⟨a, _, dx, _, _, rfl, ha, W.cls, W.marked, rfl, ?_⟩
    refine u_fld ?_
    walk_at "rd"
    refine ⟨a', _, dx', _, _, rfl, ha', W.cls, W.marked, rfl, ?_⟩
    refine u_eqSS (fun t ht => g.txt ht) (fun t ht => g'.txt ht) ht ht' ?_
    refine k _ ?_
    rw [decide_eq_true_iff]
    exact ⟨fun c5 => ⟨c1, c2, Tb.ext' c3 c4 c5⟩, fun z => by rw [z.2.2]⟩
  · refine u_isi2 ty kit ?_
    walk_at "rd"
    exact k
theorem pu_World_state_behind (K : PySem.W.Frag) (W : WCls K) (vs : List V) (H : Hp) (Q : VK) (E : XK) (h : sp_World_state_behind K vs H Q E) : t_World_state_behind K { nx := fun _ H' => Q .non H', rt := Q } (start N_World_state_behind vs) H := by
  obtain ⟨v, s, r, row, n0, tb, rfl, ⟨⟨a, dx, b, l, t, d, kvs, R, rfl, ha, hb, ⟨l', xs, rfl, hl, hxl, hx⟩, ht, _⟩, gs, gt⟩, f2, f3, hr, k⟩ := h
  unfold t_World_state_behind
  walk_at "rd"
  show ForW (Its (S row)) _ _ _ _ _
  refine for_text (z := row) (fun i σ H' => H' = H ∧ ∃ o, σ = [some (.ref a), some (.int (wlk s tb.lines n0 (row.take i))), some (sv row), o]) ⟨rfl, _, rfl⟩ ?_ ?_
  · rintro i d σ H' hi ⟨rfl, o, rfl⟩
    have hd : d ∈ s := hr d (List.mem_of_getElem? hi)
    obtain ⟨w1, w2⟩ := gt.wlk (row.take i) _ f2 f3 fun e he => hr e (List.mem_of_mem_take he)
    have es : wlk s tb.lines n0 (row.take (i + 1)) = stp s tb.lines (wlk s tb.lines n0 (row.take i)) d := take_foldl hi
    rw [es]
    generalize wlk s tb.lines n0 (row.take i) = n at w1 w2
    obtain ⟨g1, g2⟩ := gt.row w1 w2
    obtain ⟨q1, q2, q3⟩ := gt.stp w1 w2 hd
    have ll := gt.llen
    have hxi := List.getElem?_eq_getElem (l := xs) (i := n.toNat) (by omega)
    generalize xs[n.toNat]'(by omega) = x at hxi
    obtain ⟨c2, rfl, hc2⟩ := hx _ _ _ hxi g1
    walk_at "rd"
    refine u_fld ?_
    walk_at "rd"
    refine ⟨a, _, dx, _, _, rfl, ha, W.cls, W.moves, rfl, ?_⟩
    walk_at "rd"
    refine u_ixT (sqt hl) (at_i (n := n.toNat) (by omega) hxi) ?_
    walk_at "rd"
    refine u_fld ?_
    walk_at "rd"
    refine ⟨a, _, dx, _, _, rfl, ha, W.cls, W.steps, rfl, ?_⟩
    refine ⟨rfl, ?_⟩
    walk_at "rd"
    refine u_sindex hd ?_
    refine u_ixT (sqt hc2) (at_i rfl (mapm q1)) ?_
    walk_at "rd"
    exact ⟨rfl, _, rfl⟩
  · rintro σ H' ⟨rfl, o, rfl⟩
    walk_at "rd"
    rw [List.take_of_length_le (Nat.le_refl _)]
    exact k
theorem u_meth {C : Addr} {m : PySem.Str} {sp : Sp} {dvs : List V} {E : XK} {ta : TE} {t : TA} {σ : L2.St} {H : Hp} {Q : VK} (h : ta σ H fun x H1 => ∃ a dx fs, x = .ref a ∧ H1 a = some (.ins C dx fs) ∧ fs.lookup m = none ∧ t σ H1 fun vs H2 => sp (x :: (vs ++ dvs)) H2 Q E) : tMeth C m sp dvs E ta t σ H Q := h
theorem pu_World_state_of (K : PySem.W.Frag) (W : WCls K) (vs : List V) (H : Hp) (Q : VK) (E : XK) (h : sp_World_state_of K vs H Q E) : t_World_state_of K { nx := fun _ H' => Q .non H', rt := Q } (start N_World_state_of vs) H := by
  obtain ⟨v, s, r, spot, tb, rfl, w, ⟨c, row, rfl, hc, hr⟩, hlen, k⟩ := h
  have w0 := w
  obtain ⟨⟨a, dx, b, l, t, d, kvs, R, rfl, ha, ⟨b', rfl, hb⟩, hl, ht, _⟩, gs, gt⟩ := w
  have sl := gs.sl
  rw [List.length_cons] at hlen
  obtain ⟨f1, f2, f3⟩ := gt.fst hc
  unfold t_World_state_of
  walk_at "rd"
  refine u_meth ?_
  walk_at "rd"
  refine ⟨a, dx, _, rfl, ha, rfl, ?_⟩
  walk_at "rd"
  refine u_fld ?_
  walk_at "rd"
  refine ⟨a, _, dx, _, _, rfl, ha, W.cls, W.starts, rfl, ?_⟩
  walk_at "rd"
  refine u_fld ?_
  walk_at "rd"
  refine ⟨a, _, dx, _, _, rfl, ha, W.cls, W.roots, rfl, ?_⟩
  refine ⟨rfl, ?_⟩
  walk_at "rd"
  refine u_ixS (szOf (by rw [List.length_cons]; omega)) (at_i (n := 0) rfl rfl) ?_
  walk_at "rd"
  refine u_sindex hc ?_
  refine u_ixT (sqt hb) (at_i rfl (mapm f1)) ?_
  walk_at "rd"
  refine u_slS (l := c :: row) (cutL_from _ (n := 1) rfl) (by rw [List.length_cons]; omega) ?_
  walk_at "rd"
  exact ⟨.ref a, s, r, row, _, tb, rfl, w0, f2, f3, hr, k⟩
theorem pu_World_call (K : PySem.W.Frag) (W : WCls K) (vs : List V) (H : Hp) (Q : VK) (E : XK) (h : sp_World_call K vs H Q E) : t_World_call K { nx := fun _ H' => Q .non H', rt := Q } (start N_World_call vs) H := by
  obtain ⟨v, s, r, spot, m, tb, rfl, w, hs, hlen, k⟩ := h
  have w0 := w
  obtain ⟨⟨a, dx, b, l, t, d, kvs, R, rfl, ha, hb, hl, ⟨t', rfl, ht⟩, _⟩, gs, gt⟩ := w
  have bn := gt.at hs
  have hti := List.getElem?_eq_getElem (l := tb.texts) (i := (stAt s r tb spot).toNat) (by omega)
  have hd : hasM tb (stAt s r tb spot) m = decide (m ∈ tb.texts[(stAt s r tb spot).toNat]'(by omega)) := by
    unfold hasM
    rw [List.getD_eq_getElem?_getD, hti] <;> rfl
  rw [hd] at k
  generalize tb.texts[(stAt s r tb spot).toNat]'(by omega) = text at hti k
  unfold t_World_call
  walk_at "rd"
  refine u_ixS (szOf (by rw [List.length_cons]; omega)) (at_i (n := 0) rfl rfl) ?_
  walk_at "rd"
  refine u_fld ?_
  walk_at "rd"
  refine ⟨a, _, dx, _, _, rfl, ha, W.cls, W.marked, rfl, ?_⟩
  refine u_meth ?_
  walk_at "rd"
  refine ⟨a, dx, _, rfl, ha, rfl, ?_⟩
  walk_at "rd"
  refine u_slS (l := m :: spot) (cutL_from _ (n := 1) rfl) (by rw [List.length_cons]; omega) ?_
  walk_at "rd"
  refine ⟨.ref a, s, r, spot, tb, rfl, w0, hs, hlen, ?_⟩
  refine u_ixT (sqt ht) (at_i (n := (stAt s r tb spot).toNat) (by omega) (mapm hti)) ?_
  walk_at "rd"
  exact k
theorem pu_World_reached (K : PySem.W.Frag) (W : WCls K) (vs : List V) (H : Hp) (Q : VK) (E : XK) (h : sp_World_reached K vs H Q E) : t_World_reached K { nx := fun _ H' => Q .non H', rt := Q } (start N_World_reached vs) H := by
  obtain ⟨v, s, r, tb, rfl, ⟨⟨a, dx, b, l, t, d, kvs, R, rfl, ha, hb, hl, ht, hd, ek, qu, lR⟩, gs, gt⟩, k⟩ := h
  unfold t_World_reached
  walk_at "rd"
  refine u_fld ?_
  walk_at "rd"
  refine ⟨a, _, dx, _, _, rfl, ha, W.cls, W.places, rfl, ?_⟩
  walk_at "rd"
  refine u_tupD hd fun p hp => ?_
  have em : (kvs.map fun kv => kV kv.1) = R.map V.int := by
    have : (kvs.map fun kv => kV kv.1) = (kvs.map (·.1)).map kV := by rw [List.map_map] <;> rfl
    rw [this, ek, List.map_map] <;> rfl
  rw [em]
  exact k p R _ (Ex.new hp) upd_same qu lR

end K39
set_option Elab.async false
set_option linter.all false
set_option maxRecDepth 100000
set_option maxHeartbeats 2000000
namespace K39
open PySem L2 Uni
local macro_rules | `(tactic| walk_at "rd") => `(tactic| (repeat (first
  | (with_reducible refine u_var (by with_unfolding_all exact rfl) ?_) | (with_reducible refine u_seq ?_) | (with_reducible refine u_asg ?_) | (with_reducible refine u_gname ?_) | (with_reducible refine u_drop ?_) | (with_reducible refine u_ret ?_) | (with_reducible refine u_retN ?_) | (with_reducible refine u_next ?_) | (with_reducible refine u_break ?_) | (with_reducible refine u_cont ?_) | (with_reducible refine u_if ?_) | (with_reducible refine u_c ?_) | (with_reducible refine u_op ?_) | (with_reducible refine u_un ?_) | (with_reducible refine u_test ?_) | (with_reducible refine u_tb ?_) | (with_reducible refine u_bl ?_) | (with_reducible refine u_not ?_) | (with_reducible refine u_and ?_) | (with_reducible refine u_or ?_) | (with_reducible refine u_chain ?_) | (with_reducible refine u_ifE ?_) | (with_reducible refine u_andV ?_) | (with_reducible refine u_orV ?_) | (with_reducible refine u_notV ?_) | (with_reducible refine u_blE ?_) | (with_reducible refine u_nil ?_) | (with_reducible refine u_cons ?_) | (with_reducible refine u_tup ?_) | (with_reducible refine u_lst ?_) | (with_reducible refine u_cb ?_) | (with_reducible refine u_call ?_) | (with_reducible refine u_bm ?_) | (with_reducible refine u_bm0 ?_) | (with_reducible refine u_m1 ?_) | (with_reducible refine u_sl ?_) | (with_reducible refine u_nopart ?_) | (with_reducible refine u_part ?_) | (with_reducible refine u_int ?_) | (with_reducible refine u_yes ?_) | (with_reducible refine u_add ?_) | (with_reducible refine u_sub ?_) | (with_reducible refine u_neg ?_) | (with_reducible refine u_le ?_) | (with_reducible refine u_gt ?_) | (with_reducible refine u_ge ?_) | (with_reducible refine u_lt ?_) | (with_reducible refine u_ltS ?_) | (with_reducible refine u_eqI ?_) | (with_reducible refine u_neI ?_) | (with_reducible refine u_eqS ?_) | (with_reducible refine u_neS ?_) | (with_reducible refine u_eqB ?_) | (with_reducible refine u_neB ?_) | (with_reducible refine u_inS ?_) | (with_reducible refine u_ninS ?_) | (with_reducible refine u_intI ?_) | (with_reducible refine u_intB ?_) | (with_reducible refine u_for ?_) | (with_reducible refine u_iR1 ?_) | (with_reducible refine u_iR2 ?_) | (with_reducible refine u_uni ?_) | (with_reducible refine u_lc ?_)
  | (with_reducible refine iteT ?_) | (with_reducible refine iteF ?_) | (with_reducible refine iteNT ?_) | (with_reducible refine iteNF ?_))))
/-! ### a world that is made, told, compared -/
theorem make_ok {K : PySem.W.Frag} {H : Hp} {R : Addr → Hp → Prop} {s r : List Nat} {b l t : V} {tb : Tb} (tin : TabIn H b l t tb) (G : GoodSg s r) (T : GoodTb s.length r.length tb) (q : ∀ x H', Ex H H' → Wd K H' (.ref x) s r tb → R x H') :
    ∀ x dx, H x = none → H dx = none → dx ≠ x → sp_World_init K (.ref x :: ([sv s, sv r, b, l, t] ++ [])) (upd (upd H dx (.own x)) x (.ins (gW K) dx [])) (fun v H2 => v = .non ∧ R x H2) (fun _ _ _ => False) := by
  intro x dx hx hdx ne
  have sl := G.sl
  have e : Ex H (upd (upd H dx (.own x)) x (.ins (gW K) dx [])) := (Ex.new hdx).up (by rw [upd_ne (Ne.symm ne)]; exact hx)
  refine ⟨x, dx, s, r, b, l, t, tb, rfl, upd_same, by omega, by omega, tin.ex e, fun _ _ H' eb w => ⟨rfl, q x H' (fun c o hc => eb c o (ne_of_none hc hx) (e c o hc)) ⟨w, G, T⟩⟩, fun _ => Or.inl T, fun z => ?_, fun _ z => ?_, fun _ z => absurd z T.marked, fun _ _ z => absurd z T.moves, fun _ _ _ z => absurd z T.starts⟩
  · rw [G.s] at z; cases z
  · rw [G.r] at z; cases z
theorem TabIn.fields {H : Hp} {ns nr : Nat} {b l t : V} {tb : Tb} (T : GoodTb ns nr tb) (hb : SeqI true H b tb.begins) (hl : SeqII true true H l tb.lines) (ht : SeqS true H t tb.texts) : TabIn H b l t tb :=
  ⟨⟨true, hb⟩, let ⟨a, xs, e1, e2, e3, e4⟩ := hl; ⟨true, a, xs, e1, e2, e3, fun i x row h1 h2 => ⟨true, e4 i x row h1 h2⟩⟩, ⟨true, ht⟩, ⟨by have := T.few; omega, by have := T.few; have := T.llen; omega⟩, fun x hx => by have := T.short x hx; omega⟩
theorem sum_ones {α : Type} (l : List α) : (l.map fun _ => 1).sum = l.length := by
  induction l with
  | nil => rfl
  | cons a r ih => rw [List.map_cons, List.sum_cons, ih, List.length_cons]; omega
theorem same_I {H : Hp} {u v : V} {ns : List Int} (h1 : SeqI true H u ns) (h2 : SeqI true H v ns) : Same H u v (1 + ns.length) := by
  obtain ⟨a, rfl, ha⟩ := h1
  obtain ⟨b, rfl, hb⟩ := h2
  rw [← sum_ones ns]
  refine .tup (ns.map fun _ => 1) ha hb (by rw [List.length_map, List.length_map]) (by rw [List.length_map, List.length_map]) fun i x y n g1 g2 g3 => ?_
  rw [g1] at g2
  cases g2
  obtain ⟨m, _, rfl⟩ := getm g1
  obtain ⟨_, _, rfl⟩ := getm g3
  exact .int m
theorem same_S {H : Hp} {u v : V} {ns : List (List Nat)} (h1 : SeqS true H u ns) (h2 : SeqS true H v ns) : Same H u v (1 + ns.length) := by
  obtain ⟨a, rfl, ha⟩ := h1
  obtain ⟨b, rfl, hb⟩ := h2
  rw [← sum_ones ns]
  refine .tup (ns.map fun _ => 1) ha hb (by rw [List.length_map, List.length_map]) (by rw [List.length_map, List.length_map]) fun i x y n g1 g2 g3 => ?_
  rw [g1] at g2
  cases g2
  obtain ⟨m, _, rfl⟩ := getm g1
  obtain ⟨_, _, rfl⟩ := getm g3
  exact .str m
theorem same_II {H : Hp} {u v : V} {rows : List (List Int)} (h1 : SeqII true true H u rows) (h2 : SeqII true true H v rows) : Same H u v (1 + (rows.map fun r => 1 + r.length).sum) := by
  obtain ⟨a, xs, rfl, ha, lx, hx⟩ := h1
  obtain ⟨b, ys, rfl, hb, ly, hy⟩ := h2
  refine .tup (rows.map fun r => 1 + r.length) ha hb (by rw [List.length_map, lx]) (by rw [List.length_map, ly]) fun i x y n g1 g2 g3 => ?_
  obtain ⟨row, hr, rfl⟩ := getm g3
  exact same_I (hx i x row g1 hr) (hy i y row g2 hr)
theorem rows_sum : ∀ {rows : List (List Int)} {c : Nat}, (∀ r ∈ rows, r.length ≤ c) → (rows.map fun r => 1 + r.length).sum ≤ rows.length * (1 + c)
  | [], _, _ => Nat.zero_le _
  | r :: rs, c, h => by
    have ih := rows_sum (rows := rs) (c := c) fun x hx => h x (List.mem_cons_of_mem _ hx)
    have := h r List.mem_cons_self
    rw [List.map_cons, List.sum_cons, List.length_cons, Nat.succ_mul]
    omega
theorem same_fields {H : Hp} {u v : V} {s r : List Nat} {tb : Tb} (G : GoodSg s r) (T : GoodTb s.length r.length tb) (h1 : FieldsAt H u s r tb) (h2 : FieldsAt H v s r tb) : ∃ n, n ≤ 900000 ∧ Same H u v n := by
  obtain ⟨a, b, l, t, rfl, ha, hb, hl, ht⟩ := h1
  obtain ⟨a', b', l', t', rfl, ha', hb', hl', ht'⟩ := h2
  refine ⟨1 + [1, 1, 1 + tb.begins.length, 1 + (tb.lines.map fun r => 1 + r.length).sum, 1 + tb.texts.length].sum, ?_, .tup _ ha ha' rfl rfl fun i x y n g1 g2 g3 => ?_⟩
  · have sl := G.sl
    have f := T.few
    have ll := T.llen
    have bl := okStates_len T.beg
    have := rows_sum (rows := tb.lines) (c := 3) fun r hr => by have := okStates_len (T.lin hr); omega
    simp only [List.sum_cons, List.sum_nil]
    omega
  · match i with
    | 0 => cases g1; cases g2; cases g3; exact .str s
    | 1 => cases g1; cases g2; cases g3; exact .str r
    | 2 => cases g1; cases g2; cases g3; exact same_I hb hb'
    | 3 => cases g1; cases g2; cases g3; exact same_II hl hl'
    | 4 => cases g1; cases g2; cases g3; exact same_S ht ht'
    | i + 5 => simp at g1
theorem not_first_self {K : PySem.W.Frag} : PySem.W.notFirst K (gW K) (.ref (gW K)) = true := by
  unfold PySem.W.notFirst
  rw [beq_self_eq_true] <;> rfl
theorem u_eqW {K : PySem.W.Frag} (W : WCls K) (I : WIs K) {H : Hp} {Q : VK} {v y : V} {s r s' r' : List Nat} {tb tb' : Tb} (w : Wd K H v s r tb) (w' : Wd K H y s' r' tb') (q : ∀ k : Bool, (k = true ↔ (s = s' ∧ r = r' ∧ tb = tb')) → Q (.bl k) H) :
    rEqO K (gW K) (fun vs H Q E => sp_World_eq K (vs ++ []) H Q E) v y H Q := by
  have ty := w'.ty W I
  have w0 := w
  obtain ⟨⟨a, dx, b, l, t, d, kvs, R, rfl, ha, _⟩, _, _⟩ := w
  exact ⟨a, dx, _, _, rfl, ha, ty, not_first_self, _, y, s, r, tb, rfl, w0, Or.inl ⟨s', r', tb', w', fun k hk => ⟨k, rfl, q k hk⟩⟩⟩
theorem u_neW {K : PySem.W.Frag} (W : WCls K) (I : WIs K) {H : Hp} {Q : VK} {v y : V} {s r s' r' : List Nat} {tb tb' : Tb} (w : Wd K H v s r tb) (w' : Wd K H y s' r' tb') (q : ∀ k : Bool, (k = true ↔ (s = s' ∧ r = r' ∧ tb = tb')) → Q (.bl (!k)) H) :
    rNeO K (gW K) (fun vs H Q E => sp_World_eq K (vs ++ []) H Q E) v y H Q := by
  have ty := w'.ty W I
  have w0 := w
  obtain ⟨⟨a, dx, b, l, t, d, kvs, R, rfl, ha, _⟩, _, _⟩ := w
  exact ⟨a, dx, _, _, rfl, ha, ty, not_first_self, _, y, s, r, tb, rfl, w0, Or.inl ⟨s', r', tb', w', fun k hk => ⟨k, rfl, q k hk⟩⟩⟩
theorem u_eqN {K : PySem.W.Frag} (I : WIs K) {H : Hp} {Q : VK} {v y : V} {s r : List Nat} {tb : Tb} {T : String} (w : Wd K H v s r tb) (ty : TyX K H y (.type T)) (hT : T ∈ (["tuple", "list", "str", "int", "NoneType", "bool"] : List String)) (q : Q (.bl false) H) :
    rEqO K (gW K) (fun vs H Q E => sp_World_eq K (vs ++ []) H Q E) v y H Q := by
  have w0 := w
  obtain ⟨⟨a, dx, b, l, t, d, kvs, R, rfl, ha, _⟩, _, _⟩ := w
  exact ⟨a, dx, _, _, rfl, ha, ty, (I.no T hT).2, _, y, s, r, tb, rfl, w0, Or.inr ⟨_, ty, (I.no T hT).1, false, rfl, q⟩⟩
theorem u_neN {K : PySem.W.Frag} (I : WIs K) {H : Hp} {Q : VK} {v y : V} {s r : List Nat} {tb : Tb} {T : String} (w : Wd K H v s r tb) (ty : TyX K H y (.type T)) (hT : T ∈ (["tuple", "list", "str", "int", "NoneType", "bool"] : List String)) (q : Q (.bl true) H) :
    rNeO K (gW K) (fun vs H Q E => sp_World_eq K (vs ++ []) H Q E) v y H Q := by
  have w0 := w
  obtain ⟨⟨a, dx, b, l, t, d, kvs, R, rfl, ha, _⟩, _, _⟩ := w
  exact ⟨a, dx, _, _, rfl, ha, ty, (I.no T hT).2, _, y, s, r, tb, rfl, w0, Or.inr ⟨_, ty, (I.no T hT).1, false, rfl, q⟩⟩
theorem u_notB {a b : Bool} {H : Hp} {Q : VK} (h : Q (.bl (!decide (a = b))) H) : rNotB (.bl a) (.bl b) H Q := ⟨a, b, rfl, rfl, h⟩
theorem u_make {C : Addr} {sp : Sp} {dvs : List V} {E : XK} {t : TA} {σ : L2.St} {H : Hp} {Q : VK} (h : t σ H fun vs H1 => ∀ x dx, H1 x = none → H1 dx = none → dx ≠ x → sp (.ref x :: (vs ++ dvs)) (upd (upd H1 dx (.own x)) x (.ins C dx [])) (fun v H2 => v = .non ∧ Q (.ref x) H2) E) : tMake C sp dvs E t σ H Q := h
theorem u_callI {C : Addr} {sp : Sp} {E : XK} {tf : TE} {t : TA} {σ : L2.St} {H : Hp} {Q : VK} (h : tf σ H fun y H1 => ∃ a, y = V.ref a ∧ t σ H1 fun vs H2 => ((∃ dx ws, SlX.Slt H2 a C dx ws) ∨ ∃ dx fs, H2 a = some (.ins C dx fs)) ∧ sp (V.ref a :: vs) H2 Q E) : tCallI C sp E tf t σ H Q := h
theorem pu_law_walks (K : PySem.W.Frag) (vs : List V) (H : Hp) (Q : VK) (E : XK) (h : sp_law_walks K vs H Q E) : t_law_walks K { nx := fun _ H' => Q .non H', rt := Q } (start N_law_walks vs) H := by
  obtain ⟨v, due, p, s, r, marks, tb, spots, rfl, w, fd, hp, hs, lm, k⟩ := h
  obtain ⟨a, dx, _, _, _, _, _, _, rfl, ha, _⟩ := w.at_
  have fd0 := fd
  obtain ⟨u, b, l, t, rfl, hu, hb, hl, ⟨t', rfl, ht⟩⟩ := fd
  unfold t_law_walks
  walk_at "rd"
  refine u_uF (k := false) (sql hp) ?_
  refine for_k (xs := spots.map sv) (fun i σ H' => Ex H H' ∧ ∃ o4 o5 o6, σ = [some (.ref a), some (.ref u), some (.ref p), some (sv marks), o4, o5, o6]) ⟨Ex.refl H, _, _, _, rfl⟩ (fun i σ H' _ ⟨e, _⟩ => sql (e _ _ hp)) ?_ ?_
  · rintro i x σ H' hi ⟨e, o4, o5, o6, rfl⟩
    obtain ⟨spot, hsp, rfl⟩ := getm hi
    obtain ⟨sp, sl⟩ := hs spot (List.mem_of_getElem? hsp)
    have bn := w.tb.at sp
    have hti := List.getElem?_eq_getElem (l := tb.texts) (i := (stAt s r tb spot).toNat) (by omega)
    have hd : ∀ m, hasM tb (stAt s r tb spot) m = decide (m ∈ tb.texts[(stAt s r tb spot).toNat]'(by omega)) := fun m => by
      unfold hasM
      rw [List.getD_eq_getElem?_getD, hti] <;> rfl
    generalize tb.texts[(stAt s r tb spot).toNat]'(by omega) = text at hti hd
    walk_at "rd"
    refine ⟨.ref u, s, r, tb, spot, rfl, fd0.ex e, w.sg, w.tb, sp, by omega, ?_⟩
    walk_at "rd"
    refine u_meth ?_
    walk_at "rd"
    refine ⟨a, dx, _, rfl, e _ _ ha, rfl, ?_⟩
    walk_at "rd"
    refine ⟨.ref a, s, r, spot, tb, rfl, w.ex e, sp, by omega, ?_⟩
    walk_at "rd"
    refine ⟨_, _, 1, rfl, .int _, by decide, fun H1 e1 => ?_⟩
    have e01 := e.trans e1
    walk_at "rd"
    show ForW (Its (S marks)) _ _ _ _ _
    refine for_text (z := marks) (fun j σ H' => Ex H H' ∧ ∃ o6, σ = [some (.ref a), some (.ref u), some (.ref p), some (sv marks), some (sv spot), some (.int (stAt s r tb spot)), o6]) ⟨e01, _, rfl⟩ ?_ ?_
    · rintro j m σ H2 hj ⟨e2, o6, rfl⟩
      walk_at "rd"
      refine u_callI ?_
      walk_at "rd"
      refine ⟨a, rfl, ?_⟩
      walk_at "rd"
      refine u_addS (szOf (by rw [List.length_singleton]; omega)) ?_
      walk_at "rd"
      refine ⟨Or.inr ⟨dx, _, e2 _ _ ha⟩, .ref a, s, r, spot, m, tb, rfl, w.ex e2, sp, by omega, ?_⟩
      walk_at "rd"
      refine u_ixT (sqt (e2 _ _ hu)) (at_i (n := 4) rfl rfl) ?_
      walk_at "rd"
      refine u_ixT (sqt (e2 _ _ ht)) (at_i (n := (stAt s r tb spot).toNat) (by omega) (mapm hti)) ?_
      walk_at "rd"
      rw [hd m]
      refine ⟨_, _, 1, rfl, .bl _, by decide, fun H3 e3 => ?_⟩
      walk_at "rd"
      exact ⟨e2.trans e3, _, rfl⟩
    · rintro σ H2 ⟨e2, o6, rfl⟩
      exact ⟨e2, _, _, _, rfl⟩
  · rintro σ H' ⟨e, o4, o5, o6, rfl⟩
    walk_at "rd"
    exact k H' e
theorem pu_law_equalities (K : PySem.W.Frag) (W : WCls K) (I : WIs K) (vs : List V) (H : Hp) (Q : VK) (E : XK) (h : sp_law_equalities K vs H Q E) : t_law_equalities K { nx := fun _ H' => Q .non H', rt := Q } (start N_law_equalities vs) H := by
  obtain ⟨v, u, due, p, xs, s, r, tb, rfl, w, w2, fd, hp, hn, k⟩ := h
  have T := w.tb
  unfold t_law_equalities
  walk_at "rd"
  refine u_eqW W I w w2 fun k1 h1 => ?_
  obtain rfl : k1 = true := h1.mpr ⟨rfl, rfl, rfl⟩
  walk_at "rd"
  refine u_notB ?_
  rw [decide_eq_true rfl]
  walk_at "rd"
  refine u_neW W I w w2 fun k1 h1 => ?_
  obtain rfl : k1 = true := h1.mpr ⟨rfl, rfl, rfl⟩
  walk_at "rd"
  refine u_notB ?_
  rw [show (!true) = false from rfl, decide_eq_true rfl]
  walk_at "rd"
  refine u_eqW W I w2 w fun k1 h1 => ?_
  obtain rfl : k1 = true := h1.mpr ⟨rfl, rfl, rfl⟩
  walk_at "rd"
  refine u_notB ?_
  rw [decide_eq_true rfl]
  walk_at "rd"
  refine u_uF (k := false) (sql hp) ?_
  refine for_k (xs := xs) (fun i σ H' => Ex H H' ∧ ∃ o4 o5 o6, σ = [some v, some u, some due, some (.ref p), o4, o5, o6]) ⟨Ex.refl H, _, _, _, rfl⟩ (fun i σ H' _ ⟨e, _⟩ => sql (e _ _ hp)) ?_ ?_
  · rintro i x σ H' hi ⟨e, o4, o5, o6, rfl⟩
    obtain ⟨s', r', tb', fx, G', T', ne⟩ := hn x (List.mem_of_getElem? hi)
    have fx := fx.ex e
    have fx0 := fx
    obtain ⟨q, b', l', t', rfl, hq, hb', hl', ht'⟩ := fx
    walk_at "rd"
    refine u_make ?_
    walk_at "rd"
    refine u_ixT (sqt hq) (at_i (n := 0) rfl rfl) ?_
    walk_at "rd"
    refine u_ixT (sqt hq) (at_i (n := 1) rfl rfl) ?_
    walk_at "rd"
    refine u_ixT (sqt hq) (at_i (n := 2) rfl rfl) ?_
    walk_at "rd"
    refine u_ixT (sqt hq) (at_i (n := 3) rfl rfl) ?_
    walk_at "rd"
    refine u_ixT (sqt hq) (at_i (n := 4) rfl rfl) ?_
    walk_at "rd"
    refine make_ok (TabIn.fields T' hb' hl' ht') G' T' fun z H1 e1 w3 => ?_
    walk_at "rd"
    refine ⟨gW K, .ref z, s', r', tb', rfl, rfl, w3.at_, fun u2 H2 e2 f2 => ?_⟩
    have e12 := e1.trans e2
    walk_at "rd"
    obtain ⟨n, hn9, sm⟩ := same_fields G' T' f2 (fx0.ex e12)
    refine ⟨_, _, n, rfl, sm, hn9, fun H3 e3 => ?_⟩
    have e03 := e.trans (e12.trans e3)
    have w3 := w3.ex (e2.trans e3)
    walk_at "rd"
    refine u_eqW W I (w.ex e03) w3 fun k1 h1 => ?_
    obtain rfl : k1 = false := by
      cases k1
      · rfl
      · exact absurd (h1.mp rfl) ne
    walk_at "rd"
    refine u_notB ?_
    rw [decide_eq_true rfl]
    walk_at "rd"
    refine u_neW W I (w.ex e03) w3 fun k1 h1 => ?_
    obtain rfl : k1 = false := by
      cases k1
      · rfl
      · exact absurd (h1.mp rfl) ne
    walk_at "rd"
    refine u_notB ?_
    rw [show (!false) = true from rfl, decide_eq_true rfl]
    walk_at "rd"
    refine u_eqW W I w3 (w2.ex e03) fun k1 h1 => ?_
    obtain rfl : k1 = false := by
      cases k1
      · rfl
      · obtain ⟨z1, z2, z3⟩ := h1.mp rfl
        exact absurd ⟨z1.symm, z2.symm, z3.symm⟩ ne
    walk_at "rd"
    refine u_notB ?_
    rw [decide_eq_true rfl]
    walk_at "rd"
    exact ⟨e03, _, _, _, rfl⟩
  · rintro σ H' ⟨e, o4, o5, o6, rfl⟩
    have fd := fd.ex e
    obtain ⟨q, b', l', t', rfl, hq, hb', hl', ⟨t'', rfl, ht'⟩⟩ := fd
    walk_at "rd"
    refine u_listT (sqt hq) fun q2 hq2 => ?_
    have e1 := Ex.new (o := .lst [sv s, sv r, b', l', .ref t'']) hq2
    have g1 : upd H' q2 (.lst [sv s, sv r, b', l', .ref t'']) q2 = some (.lst [sv s, sv r, b', l', .ref t'']) := upd_same
    generalize upd H' q2 (.lst [sv s, sv r, b', l', .ref t'']) = H1 at e1 g1
    walk_at "rd"
    refine u_ixT (sqt (e1 _ _ hq)) (at_i (n := 4) rfl rfl) ?_
    walk_at "rd"
    refine u_ixT (sqt (e1 _ _ hq)) (at_i (n := 0) rfl rfl) ?_
    walk_at "rd"
    refine u_ixT (sqt (e1 _ _ hq)) (at_i (n := 4) rfl rfl) ?_
    walk_at "rd"
    refine u_lenT (sqt (e1 _ _ ht')) ?_
    walk_at "rd"
    refine ⟨szOf (by show 8 ≤ _; decide), fun p2 hp2 => ?_⟩
    have e2 := Ex.new (o := .lst [.ref q, .ref q2, .ref t'', sv s, .int ((tb.texts.map sv).length : Nat), .non, .bl true, .str ""]) hp2
    have g2 : upd H1 p2 (.lst [.ref q, .ref q2, .ref t'', sv s, .int ((tb.texts.map sv).length : Nat), .non, .bl true, .str ""]) p2 = some (.lst [.ref q, .ref q2, .ref t'', sv s, .int ((tb.texts.map sv).length : Nat), .non, .bl true, .str ""]) := upd_same
    generalize upd H1 p2 (.lst [.ref q, .ref q2, .ref t'', sv s, .int ((tb.texts.map sv).length : Nat), .non, .bl true, .str ""]) = H2 at e2 g2
    have e02 := e.trans (e1.trans e2)
    have tys : ∀ x ∈ ([.ref q, .ref q2, .ref t'', sv s, .int ((tb.texts.map sv).length : Nat), .non, .bl true, .str ""] : List V), ∃ T, TyX K H2 x (.type T) ∧ T ∈ (["tuple", "list", "str", "int", "NoneType", "bool"] : List String) := by
      intro x hx
      simp only [List.mem_cons, List.mem_nil_iff, or_false] at hx
      rcases hx with rfl | rfl | rfl | rfl | rfl | rfl | rfl | rfl
      · exact ⟨"tuple", .base (.tup (e2 _ _ (e1 _ _ hq))), by decide⟩
      · exact ⟨"list", .base (.lst (e2 _ _ g1)), by decide⟩
      · exact ⟨"tuple", .base (.tup (e2 _ _ (e1 _ _ ht'))), by decide⟩
      · exact ⟨"str", .base (.str _), by decide⟩
      · exact ⟨"int", .base (.int _), by decide⟩
      · exact ⟨"NoneType", .base .non, by decide⟩
      · exact ⟨"bool", .base (.bl _), by decide⟩
      · exact ⟨"str", .base (.str _), by decide⟩
    have w2 := w2.ex e02
    have w := w.ex e02
    refine u_uF (k := false) (sql g2) ?_
    refine for_k (xs := [.ref q, .ref q2, .ref t'', sv s, .int ((tb.texts.map sv).length : Nat), .non, .bl true, .str ""]) (fun i σ H' => H' = H2 ∧ ∃ o4 o5 o6, σ = [some v, some u, some (.ref q), some (.ref p), o4, o5, o6]) ⟨rfl, _, _, _, rfl⟩ (fun i σ H' _ ⟨e, _⟩ => by rw [e]; exact sql g2) ?_ ?_
    · rintro i x σ H3 hi ⟨rfl, o4, o5, o6, rfl⟩
      obtain ⟨T, ty, hT⟩ := tys x (List.mem_of_getElem? hi)
      walk_at "rd"
      refine u_eqN I w ty hT ?_
      walk_at "rd"
      refine u_notB ?_
      rw [decide_eq_true rfl]
      walk_at "rd"
      refine u_neN I w ty hT ?_
      walk_at "rd"
      refine u_notB ?_
      rw [decide_eq_true rfl]
      walk_at "rd"
      exact ⟨rfl, _, _, _, rfl⟩
    · rintro σ H3 ⟨rfl, o4, o5, o6, rfl⟩
      walk_at "rd"
      exact k _ e02

end K39
set_option Elab.async false
set_option linter.all false
set_option maxRecDepth 100000
set_option maxHeartbeats 2000000
namespace K39
open PySem L2 Uni
local macro_rules | `(tactic| walk_at "rd") => `(tactic| (repeat (first
  | (with_reducible refine u_var (by with_unfolding_all exact rfl) ?_) | (with_reducible refine u_seq ?_) | (with_reducible refine u_asg ?_) | (with_reducible refine u_gname ?_) | (with_reducible refine u_drop ?_) | (with_reducible refine u_ret ?_) | (with_reducible refine u_retN ?_) | (with_reducible refine u_next ?_) | (with_reducible refine u_break ?_) | (with_reducible refine u_cont ?_) | (with_reducible refine u_if ?_) | (with_reducible refine u_c ?_) | (with_reducible refine u_op ?_) | (with_reducible refine u_un ?_) | (with_reducible refine u_test ?_) | (with_reducible refine u_tb ?_) | (with_reducible refine u_bl ?_) | (with_reducible refine u_not ?_) | (with_reducible refine u_and ?_) | (with_reducible refine u_or ?_) | (with_reducible refine u_chain ?_) | (with_reducible refine u_ifE ?_) | (with_reducible refine u_andV ?_) | (with_reducible refine u_orV ?_) | (with_reducible refine u_notV ?_) | (with_reducible refine u_blE ?_) | (with_reducible refine u_nil ?_) | (with_reducible refine u_cons ?_) | (with_reducible refine u_tup ?_) | (with_reducible refine u_lst ?_) | (with_reducible refine u_cb ?_) | (with_reducible refine u_call ?_) | (with_reducible refine u_bm ?_) | (with_reducible refine u_bm0 ?_) | (with_reducible refine u_m1 ?_) | (with_reducible refine u_sl ?_) | (with_reducible refine u_nopart ?_) | (with_reducible refine u_part ?_) | (with_reducible refine u_int ?_) | (with_reducible refine u_yes ?_) | (with_reducible refine u_add ?_) | (with_reducible refine u_sub ?_) | (with_reducible refine u_neg ?_) | (with_reducible refine u_le ?_) | (with_reducible refine u_gt ?_) | (with_reducible refine u_ge ?_) | (with_reducible refine u_lt ?_) | (with_reducible refine u_ltS ?_) | (with_reducible refine u_eqI ?_) | (with_reducible refine u_neI ?_) | (with_reducible refine u_eqS ?_) | (with_reducible refine u_neS ?_) | (with_reducible refine u_eqB ?_) | (with_reducible refine u_neB ?_) | (with_reducible refine u_inS ?_) | (with_reducible refine u_ninS ?_) | (with_reducible refine u_intI ?_) | (with_reducible refine u_intB ?_) | (with_reducible refine u_for ?_) | (with_reducible refine u_iR1 ?_) | (with_reducible refine u_iR2 ?_) | (with_reducible refine u_uni ?_) | (with_reducible refine u_lc ?_)
  | (with_reducible refine iteT ?_) | (with_reducible refine iteF ?_) | (with_reducible refine iteNT ?_) | (with_reducible refine iteNF ?_))))
theorem rows_set {H : Hp} {c : Addr} {ys : List V} {rows : List (List Int)} {j : Nat} {row' : List Int} (nd : ys.Nodup) (hj : ys[j]? = some (.ref c)) (sq : ∀ (i : Nat) x row, ys[i]? = some x → rows[i]? = some row → SeqI false H x row) :
    ∀ (i : Nat) x row, ys[i]? = some x → (rows.set j row')[i]? = some row → SeqI false (upd H c (.lst (row'.map V.int))) x row := by
  intro i x row h1 h2
  by_cases e : i = j
  · subst e
    rw [hj] at h1
    cases h1
    have hi : i < rows.length := by
      have := (List.getElem?_eq_some_iff.mp h2).1
      rw [List.length_set] at this
      exact this
    rw [List.getElem?_set_self hi] at h2
    cases h2
    exact ⟨c, rfl, upd_same⟩
  · rw [List.getElem?_set_ne (Ne.symm e)] at h2
    obtain ⟨a, rfl, ha⟩ := sq i x row h1 h2
    refine ⟨a, rfl, off (fun z => ?_) ha⟩
    subst z
    exact e (nd_ne nd h1 hj)
theorem okMarks_all : okMarks MARKSL = true := decide_eq_true ⟨fun _ h => h, pw_marks⟩
/-- one start, one move, one text changed -/
theorem good_set {ns nr : Nat} {tb : Tb} {i j k m : Nat} {v u : Int} {text : List Nat} {row : List Int} (T : GoodTb ns nr tb) (hr : tb.lines[j]? = some row) (v0 : 0 ≤ v ∧ v < (tb.texts.length : Int)) (u0 : 0 ≤ u ∧ u < (tb.texts.length : Int)) (ht : okMarks text = true) (hl : text.length ≤ 26) :
    GoodTb ns nr ⟨tb.begins.set i v, tb.lines.set j (row.set k u), tb.texts.set m text⟩ := by
  have lt : (tb.texts.set m text).length = tb.texts.length := List.length_set
  refine ⟨?_, ?_, ?_, by show (tb.texts.set m text).length ≤ _; rw [lt]; exact T.few, fun t h => ?_⟩
  · rintro (h | ⟨t, h, b⟩)
    · have h : tb.texts.set m text = [] := h
      have := T.many
      rw [← lt, h] at this
      exact absurd this (by decide)
    · have h : t ∈ tb.texts.set m text := h
      rcases List.mem_or_eq_of_mem_set h with h | rfl
      · rw [T.txt h] at b; cases b
      · rw [ht] at b; cases b
  · rintro (h | ⟨l, h, b⟩)
    · apply h
      show (tb.lines.set j (row.set k u)).length = (tb.texts.set m text).length
      rw [lt, List.length_set, T.llen]
    · have h : l ∈ tb.lines.set j (row.set k u) := h
      have b : okStates l ns (tb.texts.set m text).length = false := b
      rw [lt] at b
      rcases List.mem_or_eq_of_mem_set h with h | rfl
      · rw [T.lin h] at b; cases b
      · rw [okStates_set (T.lin (List.mem_of_getElem? hr)) u0.1 u0.2] at b; cases b
  · intro b
    have b : okStates (tb.begins.set i v) nr (tb.texts.set m text).length = false := b
    rw [lt, okStates_set T.beg v0.1 v0.2] at b
    cases b
  · have h : t ∈ tb.texts.set m text := h
    rcases List.mem_or_eq_of_mem_set h with h | rfl
    · exact T.short t h
    · exact hl
theorem pu_law_greatest (K : PySem.W.Frag) (vs : List V) (H : Hp) (Q : VK) (E : XK) (h : sp_law_greatest K vs H Q E) : t_law_greatest K { nx := fun _ H' => Q .non H', rt := Q } (start N_law_greatest vs) H := by
  obtain ⟨due, q, ds, s, r, tb, rfl, ⟨u, b0, l0, t0, rfl, hu, ⟨b, rfl, hb⟩, ⟨l, xl, rfl, hl, lxl, hxl⟩, ⟨t, rfl, ht⟩⟩, G, T, ⟨hq, hlen, hd⟩, k⟩ := h
  have sl := G.sl
  have ll := T.llen
  have m1 := T.many
  have few := T.few
  have bl := okStates_len T.beg
  obtain ⟨d0, a0, b00, c0⟩ := dig hlen hd 0 rfl
  obtain ⟨d2, a2, b2, c2⟩ := dig hlen hd 2 rfl
  unfold t_law_greatest
  rw [lit_marks]
  walk_at "rd"
  refine u_ixT (sqt hu) (at_i (n := 4) rfl rfl) ?_
  walk_at "rd"
  refine u_lenT (sqt ht) ?_
  rw [List.length_map]
  walk_at "rd"
  refine u_ixT (sqt hu) (at_i (n := 2) rfl rfl) ?_
  walk_at "rd"
  refine n_listK (k := true) (sqt hb) fun p1 H1 n1 => ?_
  have e1 := n1.2.1
  walk_at "rd"
  refine u_gsub ?_
  walk_at "rd"
  refine u_ixL (sql (e1 _ _ hq)) (at_i (n := 0) rfl (mapm a0)) ?_
  walk_at "rd"
  refine u_lenL (sql n1.2.2.1) ?_
  rw [List.length_map]
  refine u_mod (by omega) ?_
  rw [mod_nat b00 (by omega)]
  have hi : d0.toNat % ((tb.begins.length : Nat) : Int).toNat < tb.begins.length := Nat.mod_lt _ (by omega)
  generalize d0.toNat % ((tb.begins.length : Nat) : Int).toNat = i at hi
  refine u_setL (j := i) n1.2.2.1 rfl (by rw [List.length_map]; exact hi) ?_
  rw [← List.map_set]
  have e2 : Ex H (upd H1 p1 (.lst ((tb.begins.set i ((tb.texts.length : Int) - 1)).map V.int))) := e1.mut n1.1
  have g2 : upd H1 p1 (.lst ((tb.begins.set i ((tb.texts.length : Int) - 1)).map V.int)) p1 = some (.lst ((tb.begins.set i ((tb.texts.length : Int) - 1)).map V.int)) := upd_same
  generalize upd H1 p1 (.lst ((tb.begins.set i ((tb.texts.length : Int) - 1)).map V.int)) = H2 at e2 g2
  walk_at "rd"
  refine u_ixT (sqt (e2 _ _ hu)) (at_i (n := 3) rfl rfl) ?_
  refine u_uC (k := true) (sqt (e2 _ _ hl)) ?_
  refine copiesN (j := true) (m := false) (xs := xl) (rows := tb.lines) (tr := fun v H Q => uList K [v] H Q) (fun _ => rfl) (fun _ => rfl) (fun v H Q h => ?_) (fun c ns H Q hc hQ => n_listK (k := true) (sqt hc) hQ) (e2 _ _ hl) lxl (by omega) (fun i x row h1 h2 => (hxl i x row h1 h2).ex e2) fun p2 H3 ys hp20 e3 hp2 ly nd sq al => ?_
  · walk_at "rd"
    exact h
  have e03 := e2.trans e3
  walk_at "rd"
  refine u_ixL (sql (e03 _ _ hq)) (at_i (n := 2) rfl (mapm a2)) ?_
  walk_at "rd"
  refine u_mod (by omega) ?_
  rw [mod_nat b2 (by omega)]
  have hj : d2.toNat % ((tb.texts.length : Nat) : Int).toNat < tb.texts.length := Nat.mod_lt _ (by omega)
  have ej : d2 % (tb.texts.length : Int) = ((d2.toNat % ((tb.texts.length : Nat) : Int).toNat : Nat) : Int) := mod_nat b2 (by omega)
  generalize d2.toNat % ((tb.texts.length : Nat) : Int).toNat = j at hj ej
  have hyj := List.getElem?_eq_getElem (l := ys) (i := j) (by omega)
  have hlj := List.getElem?_eq_getElem (l := tb.lines) (i := j) (by omega)
  have okl := T.lin (List.getElem_mem (l := tb.lines) (n := j) (by omega))
  generalize ys[j]'(by omega) = y at hyj
  generalize tb.lines[j]'(by omega) = line at hlj okl
  obtain ⟨c, rfl, hc⟩ := sq j y line hyj hlj
  have len := okStates_len okl
  obtain ⟨c', ec, c20, ncp⟩ := al _ (List.mem_of_getElem? hyj)
  cases ec
  refine u_ixL (sql hp2) (at_i rfl hyj) ?_
  walk_at "rd"
  refine u_gsub ?_
  walk_at "rd"
  refine u_ixL (sql (e03 _ _ hq)) (at_i (n := 0) rfl (mapm a0)) ?_
  walk_at "rd"
  refine u_lenL (sql hc) ?_
  rw [List.length_map]
  refine u_mod (by omega) ?_
  rw [mod_nat b00 (by omega)]
  have hk : d0.toNat % ((line.length : Nat) : Int).toNat < line.length := Nat.mod_lt _ (by omega)
  generalize d0.toNat % ((line.length : Nat) : Int).toNat = kk at hk
  refine u_setL (j := kk) hc rfl (by rw [List.length_map]; exact hk) ?_
  rw [← List.map_set]
  have e4 : Ex H2 (upd H3 c (.lst ((line.set kk ((tb.texts.length : Int) - 1)).map V.int))) := e3.mut c20
  have sq4 := rows_set (row' := line.set kk ((tb.texts.length : Int) - 1)) nd hyj sq
  have hp4 : upd H3 c (.lst ((line.set kk ((tb.texts.length : Int) - 1)).map V.int)) p2 = some (.lst ys) := off (Ne.symm ncp) hp2
  generalize upd H3 c (.lst ((line.set kk ((tb.texts.length : Int) - 1)).map V.int)) = H4 at e4 sq4 hp4
  have e04 := e2.trans e4
  have g4 := e4 _ _ g2
  walk_at "rd"
  refine u_ixT (sqt (e04 _ _ hu)) (at_i (n := 4) rfl rfl) ?_
  walk_at "rd"
  refine n_listK (k := true) (sqt (e04 _ _ ht)) fun p3 H5 n5 => ?_
  have e05 := e04.trans n5.2.1
  walk_at "rd"
  refine u_gsub ?_
  walk_at "rd"
  refine u_ixL (sql (e05 _ _ hq)) (at_i (n := 2) rfl (mapm a2)) ?_
  walk_at "rd"
  refine u_mod (by omega) ?_
  rw [ej]
  refine u_setL (j := j) n5.2.2.1 rfl (by rw [List.length_map]; exact hj) ?_
  rw [← List.map_set]
  have e6 : Ex H4 (upd H5 p3 (.lst ((tb.texts.set j MARKSL).map sv))) := n5.2.1.mut n5.1
  have hp6 : upd H5 p3 (.lst ((tb.texts.set j MARKSL).map sv)) p3 = some (.lst ((tb.texts.set j MARKSL).map sv)) := upd_same
  generalize upd H5 p3 (.lst ((tb.texts.set j MARKSL).map sv)) = H6 at e6 hp6
  have e06 := e04.trans e6
  walk_at "rd"
  refine u_ixT (sqt (e06 _ _ hu)) (at_i (n := 0) rfl rfl) ?_
  walk_at "rd"
  refine u_ixT (sqt (e06 _ _ hu)) (at_i (n := 1) rfl rfl) ?_
  walk_at "rd"
  refine n_tupL (sql (e6 _ _ g4)) fun f3 H7 n7 => ?_
  walk_at "rd"
  refine u_uC (k := false) (sql (n7.2.1 _ _ (e6 _ _ hp4))) ?_
  have lrs : ys.length = (tb.lines.set j (line.set kk ((tb.texts.length : Int) - 1))).length := by rw [List.length_set, ly]
  have e67 := e6.trans n7.2.1
  refine lc_tups (k := false) (rows := tb.lines.set j (line.set kk ((tb.texts.length : Int) - 1))) (fun _ => rfl) (fun _ => rfl) (fun v H Q h => ?_) (e67 _ _ hp4) lrs (by rw [List.length_set]; omega) (fun i x row h1 h2 => ⟨false, (sq4 i x row h1 h2).ex e67⟩) fun f40 H8 zs h80 e8 hf40 lz sqz => ?_
  · walk_at "rd"
    exact h
  walk_at "rd"
  refine n_tupL (sql hf40) fun f4 H9 n9 => ?_
  have e79 := e8.trans n9.2.1
  have e69 := n7.2.1.trans e79
  walk_at "rd"
  refine n_tupL (sql (e69 _ _ hp6)) fun f5 H10 n10 => ?_
  have e610 := e69.trans n10.2.1
  walk_at "rd"
  refine ⟨szOf (by show 5 ≤ _; decide), fun f hf => ?_⟩
  have e11 := Ex.new (o := .tup [sv s, sv r, .ref f3, .ref f4, .ref f5]) hf
  have hf11 : upd H10 f (.tup [sv s, sv r, .ref f3, .ref f4, .ref f5]) f = some (.tup [sv s, sv r, .ref f3, .ref f4, .ref f5]) := upd_same
  generalize upd H10 f (.tup [sv s, sv r, .ref f3, .ref f4, .ref f5]) = H11 at e11 hf11
  have e611 := e610.trans e11
  have T' : GoodTb s.length r.length ⟨tb.begins.set i ((tb.texts.length : Int) - 1), tb.lines.set j (line.set kk ((tb.texts.length : Int) - 1)), tb.texts.set j MARKSL⟩ := good_set T hlj (by omega) (by omega) okMarks_all (by decide)
  have F : FieldsAt H11 (.ref f) s r ⟨tb.begins.set i ((tb.texts.length : Int) - 1), tb.lines.set j (line.set kk ((tb.texts.length : Int) - 1)), tb.texts.set j MARKSL⟩ :=
    ⟨f, .ref f3, .ref f4, .ref f5, rfl, hf11, ⟨f3, rfl, e11 _ _ (n10.2.1 _ _ (e79 _ _ n7.2.2.1))⟩, ⟨f4, zs, rfl, e11 _ _ (n10.2.1 _ _ n9.2.2.1), lz, fun i x row h1 h2 => (sqz i x row h1 h2).ex ((n9.2.1.trans n10.2.1).trans e11)⟩, ⟨f5, rfl, e11 _ _ n10.2.2.1⟩⟩
  have tin : TabIn H11 (.ref p1) (.ref p2) (.ref p3) ⟨tb.begins.set i ((tb.texts.length : Int) - 1), tb.lines.set j (line.set kk ((tb.texts.length : Int) - 1)), tb.texts.set j MARKSL⟩ :=
    ⟨⟨false, p1, rfl, e611 _ _ (e6 _ _ g4)⟩, ⟨false, p2, ys, rfl, e611 _ _ (e6 _ _ hp4), lrs, fun i x row h1 h2 => ⟨false, (sq4 i x row h1 h2).ex (e6.trans e611)⟩⟩, ⟨false, p3, rfl, e611 _ _ hp6⟩,
      ⟨by show (tb.texts.set j MARKSL).length ≤ _; rw [List.length_set]; omega, by show (tb.lines.set j _).length ≤ _; rw [List.length_set]; omega⟩, fun x hx => by have := T'.short x hx; omega⟩
  have e011 := e06.trans e611
  generalize (⟨tb.begins.set i ((tb.texts.length : Int) - 1), tb.lines.set j (line.set kk ((tb.texts.length : Int) - 1)), tb.texts.set j MARKSL⟩ : Tb) = tb' at T' F tin
  walk_at "rd"
  refine u_make ?_
  walk_at "rd"
  refine u_ixT (sqt (e011 _ _ hu)) (at_i (n := 0) rfl rfl) ?_
  walk_at "rd"
  refine u_ixT (sqt (e011 _ _ hu)) (at_i (n := 1) rfl rfl) ?_
  walk_at "rd"
  refine make_ok tin G T' fun z H12 e12 w => ?_
  walk_at "rd"
  refine ⟨gW K, .ref z, s, r, tb', rfl, rfl, w.at_, fun u2 H13 e13 f2 => ?_⟩
  have e1213 := e12.trans e13
  walk_at "rd"
  obtain ⟨n, hn9, sm⟩ := same_fields G T' f2 (F.ex e1213)
  refine ⟨_, _, n, rfl, sm, hn9, fun H14 e14 => ?_⟩
  have e1114 := e1213.trans e14
  walk_at "rd"
  refine ⟨.ref f, s, r, tb', 1, rfl, F.ex e1114, G, by decide, fun q5 spots H15 e15 hq50 hq5 hsp hsl => ?_⟩
  walk_at "rd"
  have e1115 := e1114.trans e15
  refine ⟨.ref z, .ref f, q5, s, r, MARKSL, tb', spots, rfl, w.ex ((e13.trans e14).trans e15), F.ex e1115, hq5, fun x hx => ⟨(hsp x hx).1, by have := (hsp x hx).2; omega⟩, by decide, fun H16 e16 => ?_⟩
  exact k H16 ((e011.trans e1115).trans e16)

end K39
set_option Elab.async false
set_option linter.all false
set_option maxRecDepth 100000
set_option maxHeartbeats 2000000
namespace K39
open PySem L2 Uni
local macro_rules | `(tactic| walk_at "rd") => `(tactic| (repeat (first
  | (with_reducible refine u_var (by with_unfolding_all exact rfl) ?_) | (with_reducible refine u_seq ?_) | (with_reducible refine u_asg ?_) | (with_reducible refine u_gname ?_) | (with_reducible refine u_drop ?_) | (with_reducible refine u_ret ?_) | (with_reducible refine u_retN ?_) | (with_reducible refine u_next ?_) | (with_reducible refine u_break ?_) | (with_reducible refine u_cont ?_) | (with_reducible refine u_if ?_) | (with_reducible refine u_c ?_) | (with_reducible refine u_op ?_) | (with_reducible refine u_un ?_) | (with_reducible refine u_test ?_) | (with_reducible refine u_tb ?_) | (with_reducible refine u_bl ?_) | (with_reducible refine u_not ?_) | (with_reducible refine u_and ?_) | (with_reducible refine u_or ?_) | (with_reducible refine u_chain ?_) | (with_reducible refine u_ifE ?_) | (with_reducible refine u_andV ?_) | (with_reducible refine u_orV ?_) | (with_reducible refine u_notV ?_) | (with_reducible refine u_blE ?_) | (with_reducible refine u_nil ?_) | (with_reducible refine u_cons ?_) | (with_reducible refine u_tup ?_) | (with_reducible refine u_lst ?_) | (with_reducible refine u_cb ?_) | (with_reducible refine u_call ?_) | (with_reducible refine u_bm ?_) | (with_reducible refine u_bm0 ?_) | (with_reducible refine u_m1 ?_) | (with_reducible refine u_sl ?_) | (with_reducible refine u_nopart ?_) | (with_reducible refine u_part ?_) | (with_reducible refine u_int ?_) | (with_reducible refine u_yes ?_) | (with_reducible refine u_add ?_) | (with_reducible refine u_sub ?_) | (with_reducible refine u_neg ?_) | (with_reducible refine u_le ?_) | (with_reducible refine u_gt ?_) | (with_reducible refine u_ge ?_) | (with_reducible refine u_lt ?_) | (with_reducible refine u_ltS ?_) | (with_reducible refine u_eqI ?_) | (with_reducible refine u_neI ?_) | (with_reducible refine u_eqS ?_) | (with_reducible refine u_neS ?_) | (with_reducible refine u_eqB ?_) | (with_reducible refine u_neB ?_) | (with_reducible refine u_inS ?_) | (with_reducible refine u_ninS ?_) | (with_reducible refine u_intI ?_) | (with_reducible refine u_intB ?_) | (with_reducible refine u_for ?_) | (with_reducible refine u_iR1 ?_) | (with_reducible refine u_iR2 ?_) | (with_reducible refine u_uni ?_) | (with_reducible refine u_lc ?_)
  | (with_reducible refine iteT ?_) | (with_reducible refine iteF ?_) | (with_reducible refine iteNT ?_) | (with_reducible refine iteNF ?_))))
theorem lc_filter {zs : List Nat} {p : Nat → Bool} {j : Nat} {σ : L2.St} {H1 : Hp} {Q : VK} {tt : TT} (hσ : ∀ v : V, ((wipe σ [j]).set j (some v))[j]? = some (some v)) (hw : ∀ v : V, wipe ((wipe σ [j]).set j (some v)) [j] = wipe σ [j])
    (htt : ∀ (c : Nat) (H : Hp) (QT : Bool → Hp → Prop), Ex H1 H → QT (p c) H → tt ((wipe σ [j]).set j (some (sv [c]))) H QT) (hz : zs.length ≤ 1000)
    (hq : ∀ (D : Addr) (H' : Hp), H1 D = none → Ex H1 H' → H' D = some (.lst (G1 (zs.filter p))) → Q (.ref D) H') : ∀ D, H1 D = none → LcW (Its (S zs)) (gName j) tt (tVar j) [j] σ H1 Q D := by
  refine lc_inv (walk_tX (z := zs)) (fun _ _ => trivial) (szLt (by omega)) (fun D i acc H' => acc = G1 ((zs.take i).filter p)) (fun D _ => rfl) ?_ ?_
  · rintro D i x acc H' hi ⟨c, hc, rfl⟩ hD hacc e hl rfl N hN
    have tf := take_filter (p := p) hc
    refine u_gname ⟨hw _, htt c H' _ e ?_⟩
    refine iteB (fun q => ?_) (fun q => ?_)
    · refine u_var (hσ _) ⟨_, hacc, szLt (by omega), hN _ _ upd_same (e.mut hD) (by rw [List.length_append, List.length_singleton]; omega) ?_⟩
      rw [tf, if_pos q]
      exact (List.map_append (f := fun c => sv [c]) (l₂ := [c])).symm
    · refine hN _ _ hacc e (by omega) ?_
      rw [tf, if_neg (by rw [q]; decide), List.append_nil]
  · intro D acc H' hD hacc e hl hacc2
    subst hacc2
    rw [List.take_of_length_le (Nat.le_refl _)] at hacc
    exact hq D H' hD e hacc
theorem swap_ok {s al : List Nat} {k c : Nat} (h : okSigns s al = true) (hk : k < s.length) (hc : c ∈ al) (hn : c ∉ s) {t' : List Nat} (pm : t'.Perm (s.take k ++ s.drop (k + 1) ++ [c])) (hs : t'.Pairwise (· ≤ ·)) : okSigns t' al = true ∧ t'.length = s.length ∧ t' ≠ s := by
  obtain ⟨h1, h2, h3, h4⟩ := of_decide_eq_true h
  have len : t'.length = s.length := by
    rw [pm.length_eq, List.length_append, List.length_append, List.length_take, List.length_drop, List.length_singleton]
    omega
  have sub : (s.take k ++ s.drop (k + 1)).Sublist s := by
    have e := List.take_append_drop k s
    conv => rhs; rw [← e]
    refine List.Sublist.append (List.Sublist.refl _) ?_
    rw [List.drop_eq_getElem_cons hk]
    exact List.sublist_cons_self _ _
  have nd : (s.take k ++ s.drop (k + 1) ++ [c]).Nodup := by
    rw [List.nodup_append]
    refine ⟨(nodup_of_lt h4).sublist sub, by simp, fun a ha b hb => ?_⟩
    rw [List.mem_singleton.mp hb]
    exact fun z => hn (z ▸ sub.subset ha)
  refine ⟨decide_eq_true ⟨by omega, by omega, fun a ha => ?_, lt_of_le_nodup hs (pm.nodup_iff.mpr nd)⟩, len, fun z => hn (z ▸ pm.mem_iff.mpr (by simp))⟩
  rcases List.mem_append.mp (pm.mem_iff.mp ha) with ha | ha
  · exact h3 a (sub.subset ha)
  · rw [List.mem_singleton.mp ha]; exact hc
theorem FieldsAt.tk {H H' : Hp} {v : V} {s r : List Nat} {tb : Tb} (e : TK H H') (h : FieldsAt H v s r tb) : FieldsAt H' v s r tb := by
  obtain ⟨a, b, l, t, rfl, ha, ⟨b', rfl, hb⟩, ⟨l', xs, rfl, hl, lx, hx⟩, ⟨t', rfl, ht⟩⟩ := h
  refine ⟨a, _, _, _, rfl, e _ _ ha, ⟨b', rfl, e _ _ hb⟩, ⟨l', xs, rfl, e _ _ hl, lx, fun i x row h1 h2 => ?_⟩, ⟨t', rfl, e _ _ ht⟩⟩
  obtain ⟨c, rfl, hc⟩ := hx i x row h1 h2
  exact ⟨c, rfl, e _ _ hc⟩
theorem Near.tk {H H' : Hp} {s r : List Nat} {tb : Tb} {x : V} (e : TK H H') (h : Near H s r tb x) : Near H' s r tb x :=
  let ⟨s', r', tb', f, g⟩ := h; ⟨s', r', tb', f.tk e, g⟩
theorem mod_ne {v e m : Int} (v0 : 0 ≤ v) (vm : v < m) (e1 : 1 ≤ e) (em : e ≤ m - 1) : (v + e) % m ≠ v ∧ 0 ≤ (v + e) % m ∧ (v + e) % m < m := by
  have h0 := Int.emod_nonneg (v + e) (show m ≠ 0 by omega)
  have h1 := Int.emod_lt_of_pos (v + e) (show 0 < m by omega)
  refine ⟨fun z => ?_, h0, h1⟩
  by_cases h : v + e < m
  · rw [Int.emod_eq_of_lt (by omega) h] at z
    omega
  · have : (v + e) % m = v + e - m := by
      rw [← Int.sub_emod_right, Int.emod_eq_of_lt (by omega) (by omega)]
    omega
theorem set_ne {α : Type} {l : List α} {i : Nat} {x y : α} (h : l[i]? = some x) (n : y ≠ x) : l.set i y ≠ l := fun z => by
  have hi := (List.getElem?_eq_some_iff.mp h).1
  have : (l.set i y)[i]? = some y := List.getElem?_set_self hi
  rw [z, h] at this
  exact n (Option.some.inj this).symm
theorem set_same {α : Type} : ∀ {l : List α} {i : Nat} {x : α}, l[i]? = some x → l.set i x = l
  | [], _, _, h => by simp at h
  | a :: r, 0, x, h => by cases h; rfl
  | a :: r, i + 1, x, h => by
    have := set_same (l := r) (i := i) (x := x) (by simpa using h)
    rw [List.set_cons_succ, this]
theorem take_set {α : Type} : ∀ {l : List α} {i : Nat} (y : α), i < l.length → l.take i ++ [y] ++ l.drop (i + 1) = l.set i y
  | [], _, _, h => absurd h (Nat.not_lt_zero _)
  | a :: r, 0, y, _ => rfl
  | a :: r, i + 1, y, h => by
    have ih := take_set (l := r) (i := i) y (by simpa using h)
    rw [List.set_cons_succ, ← ih]
    rfl
theorem good_b {ns nr : Nat} {tb : Tb} {i : Nat} {v : Int} (T : GoodTb ns nr tb) (v0 : 0 ≤ v ∧ v < (tb.texts.length : Int)) : GoodTb ns nr ⟨tb.begins.set i v, tb.lines, tb.texts⟩ :=
  ⟨T.marked, T.moves, (by
    intro b
    have b : okStates (tb.begins.set i v) nr tb.texts.length = false := b
    rw [okStates_set T.beg v0.1 v0.2] at b
    cases b), T.few, T.short⟩
theorem good_l {ns nr : Nat} {tb : Tb} {j k : Nat} {u : Int} {row : List Int} (T : GoodTb ns nr tb) (hr : tb.lines[j]? = some row) (u0 : 0 ≤ u ∧ u < (tb.texts.length : Int)) : GoodTb ns nr ⟨tb.begins, tb.lines.set j (row.set k u), tb.texts⟩ := by
  refine ⟨T.marked, ?_, T.starts, T.few, T.short⟩
  rintro (h | ⟨l, h, b⟩)
  · apply h
    show (tb.lines.set j (row.set k u)).length = tb.texts.length
    rw [List.length_set, T.llen]
  · have h : l ∈ tb.lines.set j (row.set k u) := h
    have b : okStates l ns tb.texts.length = false := b
    rcases List.mem_or_eq_of_mem_set h with h | rfl
    · rw [T.lin h] at b; cases b
    · rw [okStates_set (T.lin (List.mem_of_getElem? hr)) u0.1 u0.2] at b; cases b
theorem good_t {ns nr : Nat} {tb : Tb} {m : Nat} {text : List Nat} (T : GoodTb ns nr tb) (ht : okMarks text = true) (hl : text.length ≤ 26) : GoodTb ns nr ⟨tb.begins, tb.lines, tb.texts.set m text⟩ := by
  have lt : (tb.texts.set m text).length = tb.texts.length := List.length_set
  refine ⟨?_, ?_, ?_, by show (tb.texts.set m text).length ≤ _; rw [lt]; exact T.few, fun t h => ?_⟩
  · rintro (h | ⟨t, h, b⟩)
    · have h : tb.texts.set m text = [] := h
      have := T.many
      rw [← lt, h] at this
      exact absurd this (by decide)
    · have h : t ∈ tb.texts.set m text := h
      rcases List.mem_or_eq_of_mem_set h with h | rfl
      · rw [T.txt h] at b; cases b
      · rw [ht] at b; cases b
  · rintro (h | ⟨l, h, b⟩)
    · apply h
      show tb.lines.length = (tb.texts.set m text).length
      rw [lt, T.llen]
    · have b : okStates l ns (tb.texts.set m text).length = false := b
      rw [lt, T.lin h] at b
      cases b
  · intro b
    have b : okStates tb.begins nr (tb.texts.set m text).length = false := b
    rw [lt, T.beg] at b
    cases b
  · have h : t ∈ tb.texts.set m text := h
    rcases List.mem_or_eq_of_mem_set h with h | rfl
    · exact T.short t h
    · exact hl
/-- a number at its own place of a digit -/
theorem grow {H2 Hx : Hp} {fo : Addr} (fo0 : H2 fo = none) {s r : List Nat} {tb : Tb} {xs : List V} {T1 : Addr} {R : Hp → Prop} {s' r' : List Nat} {b' l' t' : V} {tb' : Tb} (ex : Ex H2 Hx) (hfo : Hx fo = some (.lst xs)) (lx : xs.length ≤ 10) (hN : ∀ x ∈ xs, Near Hx s r tb x) (hT : Hx T1 = some (.tup [sv s', sv r', b', l', t'])) (hb1 : SeqI true Hx b' tb'.begins) (hl1 : SeqII true true Hx l' tb'.lines) (ht1 : SeqS true Hx t' tb'.texts)
    (G1' : GoodSg s' r') (T1' : GoodTb s'.length r'.length tb') (ne : ¬ (s = s' ∧ r = r' ∧ tb = tb')) (hR : (Ex H2 (upd Hx fo (.lst (xs ++ [V.ref T1]))) → TK Hx (upd Hx fo (.lst (xs ++ [V.ref T1]))) → (∀ x ∈ xs ++ [V.ref T1], Near (upd Hx fo (.lst (xs ++ [V.ref T1]))) s r tb x) → R (upd Hx fo (.lst (xs ++ [V.ref T1]))))) : rAppend (.ref fo) [.ref T1] Hx (fun _ H' => R H') := by
  refine u_append hfo (szLt (by omega)) (hR (ex.mut fo0) (TK.lst hfo) (mem_snoc (fun x hx => (hN x hx).tk (TK.lst hfo)) ?_))
  exact Near.tk (TK.lst hfo) ⟨s', r', tb', ⟨T1, b', l', t', rfl, hT, hb1, hl1, ht1⟩, G1', T1', ne⟩
def tt_near2 (K : PySem.W.Frag) : TS := (tIfS (tTest (tOp uGt (tVar 2) (tC (.int 1)))) (tSeq (tAsg (tCB (uList K) (tCons (tOp (uIx K) (tVar 0) (tC (.int 2))) tNil)) (gName 12)) (tSeq (tAsg (tOp uMod (tOp (uAdd K) (tOp (uAdd K) (tOp (uIx K) (tVar 12) (tVar 5)) (tC (.int 1))) (tOp uMod (tOp (uIx K) (tVar 1) (tC (.int 3))) (tOp uSub (tVar 2) (tC (.int 1))))) (tVar 2)) (gSub (tVar 12) (tVar 5) rSetL)) (tSeq (tDrop (tBM K "list" rAppend (tVar 7) (tCons (tTup (tCons (tOp (uIx K) (tVar 0) (tC (.int 0))) (tCons (tOp (uIx K) (tVar 0) (tC (.int 1))) (tCons (tCB (uTuple K) (tCons (tVar 12) tNil)) (tCons (tOp (uIx K) (tVar 0) (tC (.int 3))) (tCons (tOp (uIx K) (tVar 0) (tC (.int 4))) tNil)))))) tNil))) (tSeq (tAsg (tLc (iUni K (tOp (uIx K) (tVar 0) (tC (.int 3)))) (gName 14) tYes (tCB (uList K) (tCons (tVar 14) tNil)) [14]) (gName 13)) (tSeq (tAsg (tOp (uIx K) (tVar 13) (tVar 8)) (gName 14)) (tSeq (tAsg (tOp uMod (tOp (uIx K) (tVar 1) (tC (.int 0))) (tCB (uLen K) (tCons (tVar 14) tNil))) (gName 5)) (tSeq (tAsg (tOp uMod (tOp (uAdd K) (tOp (uAdd K) (tOp (uIx K) (tVar 14) (tVar 5)) (tC (.int 1))) (tOp uMod (tOp (uIx K) (tVar 1) (tC (.int 3))) (tOp uSub (tVar 2) (tC (.int 1))))) (tVar 2)) (gSub (tVar 14) (tVar 5) rSetL)) (tDrop (tBM K "list" rAppend (tVar 7) (tCons (tTup (tCons (tOp (uIx K) (tVar 0) (tC (.int 0))) (tCons (tOp (uIx K) (tVar 0) (tC (.int 1))) (tCons (tOp (uIx K) (tVar 0) (tC (.int 2))) (tCons (tCB (uTuple K) (tCons (tLc (iUni K (tVar 13)) (gName 16) tYes (tCB (uTuple K) (tCons (tVar 16) tNil)) [16]) tNil)) (tCons (tOp (uIx K) (tVar 0) (tC (.int 4))) tNil)))))) tNil)))))))))) tNext)
def tt_near3 (K : PySem.W.Frag) : TS := (tSeq (tAsg (tOp (uIx K) (tC (.str "ABCDEFGHIJKLMNOPQRSTUVWXYZ")) (tOp (uIx K) (tVar 1) (tC (.int 1)))) (gName 9)) (tSeq (tAsg (tLc (iUni K (tOp (uIx K) (tOp (uIx K) (tVar 0) (tC (.int 4))) (tVar 8))) (gName 15) (tTest (tOp (uNe K) (tVar 15) (tVar 9))) (tVar 15) [15]) (gName 10)) (C8.tCut (tIfS (tTest (tOp (uIn K true) (tVar 9) (tOp (uIx K) (tOp (uIx K) (tVar 0) (tC (.int 4))) (tVar 8)))) (tAsg (tCB (uSorted K) (tCons (tOp (uAdd K) (tVar 10) (tLst (tCons (tVar 9) tNil))) tNil)) (gName 10)) tNext) (tSeq (tAsg (tOp (uAdd K) (tOp (uAdd K) (tSl (uSl K) (tOp (uIx K) (tVar 0) (tC (.int 4))) tNoPart (tPart (tVar 8))) (tTup (tCons (tM1 (rJoin K) (tC (.str "")) (tVar 10)) tNil))) (tSl (uSl K) (tOp (uIx K) (tVar 0) (tC (.int 4))) (tPart (tOp (uAdd K) (tVar 8) (tC (.int 1)))) tNoPart)) (gName 11)) (tSeq (tDrop (tBM K "list" rAppend (tVar 7) (tCons (tTup (tCons (tOp (uIx K) (tVar 0) (tC (.int 0))) (tCons (tOp (uIx K) (tVar 0) (tC (.int 1))) (tCons (tOp (uIx K) (tVar 0) (tC (.int 2))) (tCons (tOp (uIx K) (tVar 0) (tC (.int 3))) (tCons (tVar 11) tNil)))))) tNil))) (tRet (tVar 7)))))))
theorem near_mid (K : PySem.W.Frag) {D : Ends} {H10 : Hp} {f1 f2 : Addr} {H2 : Hp} {u q b l t p1 p2 fo : Addr} {ds : List Int} {s r r' : List Nat} {tb : Tb} {xl : List V} (G : GoodSg s r) (T : GoodTb s.length r.length tb) (sm : Small tb) (hu : H2 u = some (.tup [sv s, sv r, .ref b, .ref l, .ref t])) (hq : H2 q = some (.lst (ds.map V.int))) (hb : H2 b = some (.tup (tb.begins.map V.int))) (hl : H2 l = some (.tup xl)) (ht : H2 t = some (.tup (tb.texts.map sv)))
    (lxl : xl.length = tb.lines.length) (hxl : ∀ (i : Nat) x row, xl[i]? = some x → tb.lines[i]? = some row → SeqI true H2 x row) (hfo00 : H2 fo = none) (parts : ∀ {Hx : Hp}, Ex H2 Hx → SeqI true Hx (.ref b) tb.begins ∧ SeqII true true Hx (.ref l) tb.lines ∧ SeqS true Hx (.ref t) tb.texts)
    {d0 d1 d3 : Int} (a0 : ds[0]? = some d0) (b00 : 0 ≤ d0) (a1 : ds[1]? = some d1) (b1 : 0 ≤ d1) (c1 : d1 < 26) (a3 : ds[3]? = some d3) (b3 : 0 ≤ d3) {st : Nat} (hst : st < tb.texts.length) {kr : Nat} (hkr : kr < r.length)
    (e2a : Ex H2 H10) (hfo10 : H10 fo = some (.lst ([V.ref f1] ++ [V.ref f2]))) (N10 : ∀ x ∈ [V.ref f1] ++ [V.ref f2], Near H10 s r tb x)
    (fin : ∀ (o5 o12 o13 o14 : Option V) (xs : List V) (H' : Hp), Ex H2 H' → H' fo = some (.lst xs) → xs.length ≤ 4 → (∀ x ∈ xs, Near H' s r tb x) → D.nx [some (.ref u), some (.ref q), some (.int tb.texts.length), some (.ref p1), some (.ref p2), o5, some (sv r'), some (.ref fo), some (.int (st : Int)), none, none, none, o12, o13, o14, none, none] H') :
    tt_near2 K D [some (.ref u), some (.ref q), some (.int tb.texts.length), some (.ref p1), some (.ref p2), some (.int (kr : Int)), some (sv r'), some (.ref fo), some (.int (st : Int)), none, none, none, none, none, none, none, none] H10 := by
  have sl := G.sl
  have ll := T.llen
  have m1 := T.many
  have few := T.few
  have bl := okStates_len T.beg
  unfold tt_near2
  walk_at "rd"
  refine iteD (fun cm => ?_) (fun cm => ?_)
  case refine_2 =>
    walk_at "rd"
    exact fin _ _ _ _ _ _ e2a hfo10 (by show 2 ≤ 4; decide) N10
  have e3m : 0 ≤ d3 % ((tb.texts.length : Int) - 1) ∧ d3 % ((tb.texts.length : Int) - 1) < (tb.texts.length : Int) - 1 := ⟨Int.emod_nonneg _ (by omega), Int.emod_lt_of_pos _ (by omega)⟩
  walk_at "rd"
  refine u_ixT (sqt (e2a _ _ hu)) (at_i (n := 2) rfl rfl) ?_
  walk_at "rd"
  refine n_listK (k := true) (sqt (e2a _ _ hb)) fun p7 H11 n11 => ?_
  have e11 := e2a.trans n11.2.1
  walk_at "rd"
  have hv := List.getElem?_eq_getElem (l := tb.begins) (i := kr) (by omega)
  have vb := okStates_mem T.beg (List.getElem_mem (l := tb.begins) (n := kr) (by omega))
  generalize tb.begins[kr]'(by omega) = v at hv vb
  refine u_ixL (sql n11.2.2.1) (at_i rfl (mapm hv)) ?_
  walk_at "rd"
  refine u_ixL (sql (e11 _ _ hq)) (at_i (n := 3) rfl (mapm a3)) ?_
  walk_at "rd"
  refine u_mod (by omega) ?_
  walk_at "rd"
  refine u_mod (by omega) ?_
  refine u_gsub ?_
  walk_at "rd"
  have mn := mod_ne (v := v) (e := 1 + d3 % ((tb.texts.length : Int) - 1)) (m := tb.texts.length) vb.1 vb.2 (by omega) (by omega)
  rw [← Int.add_assoc] at mn
  generalize (v + 1 + d3 % ((tb.texts.length : Int) - 1)) % (tb.texts.length : Int) = v' at mn
  refine u_setL (j := kr) n11.2.2.1 rfl (by rw [List.length_map]; omega) ?_
  rw [← List.map_set]
  have e12 : Ex H10 (upd H11 p7 (.lst ((tb.begins.set kr v').map V.int))) := n11.2.1.mut n11.1
  have g12 : upd H11 p7 (.lst ((tb.begins.set kr v').map V.int)) p7 = some (.lst ((tb.begins.set kr v').map V.int)) := upd_same
  generalize upd H11 p7 (.lst ((tb.begins.set kr v').map V.int)) = H12 at e12 g12
  have e212 := e2a.trans e12
  clear e11 n11
  walk_at "rd"
  refine u_tyL (sql (e12 _ _ hfo10)) ?_
  walk_at "rd"
  have hu12 := e212 _ _ hu
  refine u_ixT (sqt hu12) (at_i (n := 0) rfl rfl) ?_
  walk_at "rd"
  refine u_ixT (sqt hu12) (at_i (n := 1) rfl rfl) ?_
  walk_at "rd"
  refine n_tupL (sql g12) fun p8 H13 n13 => ?_
  have e213 := e212.trans n13.2.1
  have hu13 := e213 _ _ hu
  walk_at "rd"
  refine u_ixT (sqt hu13) (at_i (n := 3) rfl rfl) ?_
  walk_at "rd"
  refine u_ixT (sqt hu13) (at_i (n := 4) rfl rfl) ?_
  walk_at "rd"
  refine ⟨szOf (by show 5 ≤ _; decide), fun f3 hf3 => ?_⟩
  have e14 := Ex.new (o := .tup [sv s, sv r, .ref p8, .ref l, .ref t]) hf3
  have g14 : upd H13 f3 (.tup [sv s, sv r, .ref p8, .ref l, .ref t]) f3 = some (.tup [sv s, sv r, .ref p8, .ref l, .ref t]) := upd_same
  generalize upd H13 f3 (.tup [sv s, sv r, .ref p8, .ref l, .ref t]) = H14 at e14 g14
  have e214 := e213.trans e14
  have e1014 := (e12.trans n13.2.1).trans e14
  obtain ⟨pb, pl, pt⟩ := parts e214
  walk_at "rd"
  refine grow hfo00 (tb' := ⟨tb.begins.set kr v', tb.lines, tb.texts⟩) (s' := s) (r' := r) e214 (e1014 _ _ hfo10) (by show 2 ≤ 10; decide) (fun x hx => (N10 x hx).tk (TK.of e1014)) g14 ⟨p8, rfl, e14 _ _ n13.2.2.1⟩ pl pt G (good_b T mn.2) (fun z => set_ne hv mn.1 (congrArg Tb.begins z.2.2).symm) fun e2b _ N15 => ?_
  have hfo15 : upd H14 fo (.lst ([V.ref f1] ++ [V.ref f2] ++ [V.ref f3])) fo = some (.lst ([V.ref f1] ++ [V.ref f2] ++ [V.ref f3])) := upd_same
  generalize upd H14 fo (.lst ([V.ref f1] ++ [V.ref f2] ++ [V.ref f3])) = H15 at e2b N15 hfo15
  clear hfo10 N10 e2a e12 g12 e212 hu12 n13 e213 hu13 hf3 e14 g14 e214 e1014 pb pl pt
  walk_at "rd"
  refine u_ixT (sqt (e2b _ _ hu)) (at_i (n := 3) rfl rfl) ?_
  refine u_uC (k := true) (sqt (e2b _ _ hl)) ?_
  refine copiesN (j := true) (m := false) (xs := xl) (rows := tb.lines) (tr := fun v H Q => uList K [v] H Q) (fun _ => rfl) (fun _ => rfl) (fun v H Q h => ?_) (fun c ns H Q hc hQ => n_listK (k := true) (sqt hc) hQ) (e2b _ _ hl) lxl (by omega) (fun i x row h1 h2 => (hxl i x row h1 h2).ex e2b) fun p9 H16 ys hp90 e16 hp9 ly nd sq al => ?_
  · walk_at "rd"
    exact h
  have e216 := e2b.trans e16
  walk_at "rd"
  have hyj := List.getElem?_eq_getElem (l := ys) (i := st) (by omega)
  have hlj := List.getElem?_eq_getElem (l := tb.lines) (i := st) (by omega)
  have okl := T.lin (List.getElem_mem (l := tb.lines) (n := st) (by omega))
  generalize ys[st]'(by omega) = y at hyj
  generalize tb.lines[st]'(by omega) = line at hlj okl
  obtain ⟨c, rfl, hc⟩ := sq st y line hyj hlj
  have len := okStates_len okl
  obtain ⟨c', ec, c20, ncp⟩ := al _ (List.mem_of_getElem? hyj)
  cases ec
  refine u_ixL (sql hp9) (at_i rfl hyj) ?_
  walk_at "rd"
  refine u_ixL (sql (e216 _ _ hq)) (at_i (n := 0) rfl (mapm a0)) ?_
  walk_at "rd"
  refine u_lenL (sql hc) ?_
  rw [List.length_map]
  refine u_mod (by omega) ?_
  rw [mod_nat b00 (by omega)]
  have hkl : d0.toNat % ((line.length : Nat) : Int).toNat < line.length := Nat.mod_lt _ (by omega)
  generalize d0.toNat % ((line.length : Nat) : Int).toNat = kl at hkl
  have hlv := List.getElem?_eq_getElem hkl
  have lvb := okStates_mem okl (List.getElem_mem hkl)
  generalize line[kl] = lv at hlv lvb
  walk_at "rd"
  refine u_ixL (sql hc) (at_i rfl (mapm hlv)) ?_
  walk_at "rd"
  refine u_ixL (sql (e216 _ _ hq)) (at_i (n := 3) rfl (mapm a3)) ?_
  walk_at "rd"
  refine u_mod (by omega) ?_
  walk_at "rd"
  refine u_mod (by omega) ?_
  refine u_gsub ?_
  walk_at "rd"
  have mn2 := mod_ne (v := lv) (e := 1 + d3 % ((tb.texts.length : Int) - 1)) (m := tb.texts.length) lvb.1 lvb.2 (by omega) (by omega)
  rw [← Int.add_assoc] at mn2
  generalize (lv + 1 + d3 % ((tb.texts.length : Int) - 1)) % (tb.texts.length : Int) = lv' at mn2
  refine u_setL (j := kl) hc rfl (by rw [List.length_map]; exact hkl) ?_
  rw [← List.map_set]
  have e17 : Ex H15 (upd H16 c (.lst ((line.set kl lv').map V.int))) := e16.mut c20
  have sq17 := rows_set (row' := line.set kl lv') nd hyj sq
  have hp17 : upd H16 c (.lst ((line.set kl lv').map V.int)) p9 = some (.lst ys) := off (Ne.symm ncp) hp9
  generalize upd H16 c (.lst ((line.set kl lv').map V.int)) = H17 at e17 sq17 hp17
  have e217 := e2b.trans e17
  clear e16 hp9 sq al hc e216
  walk_at "rd"
  refine u_tyL (sql (e17 _ _ hfo15)) ?_
  walk_at "rd"
  have hu17 := e217 _ _ hu
  refine u_ixT (sqt hu17) (at_i (n := 0) rfl rfl) ?_
  walk_at "rd"
  refine u_ixT (sqt hu17) (at_i (n := 1) rfl rfl) ?_
  walk_at "rd"
  refine u_ixT (sqt hu17) (at_i (n := 2) rfl rfl) ?_
  walk_at "rd"
  refine u_uC (k := false) (sql hp17) ?_
  have lrs : ys.length = (tb.lines.set st (line.set kl lv')).length := by rw [List.length_set, ly]
  refine lc_tups (k := false) (rows := tb.lines.set st (line.set kl lv')) (fun _ => rfl) (fun _ => rfl) (fun v H Q h => ?_) hp17 lrs (by rw [List.length_set]; omega) (fun i x row h1 h2 => ⟨false, sq17 i x row h1 h2⟩) fun fz H18 zs h80 e18 hf40 lz sqz => ?_
  · walk_at "rd"
    exact h
  walk_at "rd"
  refine n_tupL (sql hf40) fun f4 H19 n19 => ?_
  have e219 := (e217.trans e18).trans n19.2.1
  walk_at "rd"
  refine u_ixT (sqt (e219 _ _ hu)) (at_i (n := 4) rfl rfl) ?_
  walk_at "rd"
  refine ⟨szOf (by show 5 ≤ _; decide), fun f5 hf5 => ?_⟩
  have e20 := Ex.new (o := .tup [sv s, sv r, .ref b, .ref f4, .ref t]) hf5
  have g20 : upd H19 f5 (.tup [sv s, sv r, .ref b, .ref f4, .ref t]) f5 = some (.tup [sv s, sv r, .ref b, .ref f4, .ref t]) := upd_same
  generalize upd H19 f5 (.tup [sv s, sv r, .ref b, .ref f4, .ref t]) = H20 at e20 g20
  have e220 := e219.trans e20
  have e1520 := ((e17.trans e18).trans n19.2.1).trans e20
  obtain ⟨pb, pl, pt⟩ := parts e220
  walk_at "rd"
  refine grow hfo00 (tb' := ⟨tb.begins, tb.lines.set st (line.set kl lv'), tb.texts⟩) (s' := s) (r' := r) e220 (e1520 _ _ hfo15) (by show 3 ≤ 10; decide) (fun x hx => (N15 x hx).tk (TK.of e1520)) g20 pb ⟨f4, zs, rfl, e20 _ _ n19.2.2.1, lz, fun i x row h1 h2 => (sqz i x row h1 h2).ex (n19.2.1.trans e20)⟩ pt G (good_l T hlj mn2.2) (fun z => ?_) fun e2c _ N21 => ?_
  · have z := (congrArg Tb.lines z.2.2).symm
    have z : tb.lines.set st (line.set kl lv') = tb.lines := z
    exact set_ne hlj (set_ne hlv mn2.1) z
  · exact fin _ _ _ _ _ _ e2c upd_same (by show 4 ≤ 4; decide) N21
theorem near_end (K : PySem.W.Frag) {Q : VK} {H11 : Hp} {o5 o12 o13 o14 : Option V} {xs : List V} {H2 : Hp} {u q b l t p1 p2 fo : Addr} {ds : List Int} {s r r' : List Nat} {tb : Tb} {xl : List V} (G : GoodSg s r) (T : GoodTb s.length r.length tb) (sm : Small tb) (hu : H2 u = some (.tup [sv s, sv r, .ref b, .ref l, .ref t])) (hq : H2 q = some (.lst (ds.map V.int))) (hb : H2 b = some (.tup (tb.begins.map V.int))) (hl : H2 l = some (.tup xl)) (ht : H2 t = some (.tup (tb.texts.map sv)))
    (lxl : xl.length = tb.lines.length) (hxl : ∀ (i : Nat) x row, xl[i]? = some x → tb.lines[i]? = some row → SeqI true H2 x row) (hfo00 : H2 fo = none) (parts : ∀ {Hx : Hp}, Ex H2 Hx → SeqI true Hx (.ref b) tb.begins ∧ SeqII true true Hx (.ref l) tb.lines ∧ SeqS true Hx (.ref t) tb.texts)
    {d0 d1 d3 : Int} (a0 : ds[0]? = some d0) (b00 : 0 ≤ d0) (a1 : ds[1]? = some d1) (b1 : 0 ≤ d1) (c1 : d1 < 26) (a3 : ds[3]? = some d3) (b3 : 0 ≤ d3) {st : Nat} (hst : st < tb.texts.length)
    (e2a : Ex H2 H11) (hfo : H11 fo = some (.lst xs)) (lx : xs.length ≤ 4) (N : ∀ x ∈ xs, Near H11 s r tb x)
    (k : ∀ (p : Addr) (xs : List V) (H' : Hp), Ex H2 H' → H' p = some (.lst xs) → (∀ x ∈ xs, Near H' s r tb x) → Q (.ref p) H') :
    tt_near3 K { nx := fun _ H' => Q .non H', rt := Q } [some (.ref u), some (.ref q), some (.int tb.texts.length), some (.ref p1), some (.ref p2), o5, some (sv r'), some (.ref fo), some (.int (st : Int)), none, none, none, o12, o13, o14, none, none] H11 := by
  have sl := G.sl
  have ll := T.llen
  have m1 := T.many
  have few := T.few
  unfold tt_near3
  rw [lit_marks, lit_empty]
  walk_at "rd"
  refine u_ixL (sql (e2a _ _ hq)) (at_i (n := 1) rfl (mapm a1)) ?_
  have hm := List.getElem?_eq_getElem (l := MARKSL) (i := d1.toNat) (by show _ < 26; omega)
  have mm := List.getElem_mem (l := MARKSL) (n := d1.toNat) (by show _ < 26; omega)
  generalize MARKSL[d1.toNat]'(by show _ < 26; omega) = mk at hm mm
  refine u_ixS (szOf (by decide)) (at_i (n := d1.toNat) (by omega) hm) ?_
  walk_at "rd"
  have hti := List.getElem?_eq_getElem hst
  have okt := T.txt (List.getElem_mem hst)
  have smt := sm _ (List.getElem_mem hst)
  generalize tb.texts[st] = t0 at hti okt smt
  have ok2 : (∀ c ∈ t0, c ∈ MARKSL) ∧ t0.Pairwise (· < ·) := of_decide_eq_true okt
  refine u_ixT (sqt (e2a _ _ hu)) (at_i (n := 4) rfl rfl) ?_
  walk_at "rd"
  refine u_ixT (sqt (e2a _ _ ht)) (at_i rfl (mapm hti)) ?_
  refine lc_filter (p := fun c => !decide ([c] = [mk])) (fun _ => rfl) (fun _ => rfl) (fun c H' QT e h => ?_) (by omega) fun p3 H12 hp30 e12 hp3 => ?_
  · walk_at "rd"
    exact h
  have hfil : ∀ c, c ∈ t0.filter (fun c => !decide ([c] = [mk])) ↔ c ∈ t0 ∧ c ≠ mk := fun c => by
    rw [List.mem_filter]
    simp
  have lfil : (t0.filter fun c => !decide ([c] = [mk])).length ≤ 4 := Nat.le_trans (List.length_filter_le _ _) smt
  have pfil : (t0.filter fun c => !decide ([c] = [mk])).Pairwise (· < ·) := ok2.2.sublist List.filter_sublist
  generalize (t0.filter fun c => !decide ([c] = [mk])) = tx at hp3 hfil lfil pfil
  have e212 := e2a.trans e12
  walk_at "rd"
  refine u_cut (fun σ' H' => ∃ (p : Addr) (t1 : List Nat), σ' = [some (.ref u), some (.ref q), some (.int tb.texts.length), some (.ref p1), some (.ref p2), o5, some (sv r'), some (.ref fo), some (.int (st : Int)), some (sv [mk]), some (.ref p), none, o12, o13, o14, none, none] ∧
    Ex H12 H' ∧ H' p = some (.lst (G1 t1)) ∧ t1.length ≤ 5 ∧ okMarks t1 = true ∧ t1 ≠ t0) ?_ ?_
  · walk_at "rd"
    refine u_ixT (sqt (e212 _ _ hu)) (at_i (n := 4) rfl rfl) ?_
    walk_at "rd"
    refine u_ixT (sqt (e212 _ _ ht)) (at_i rfl (mapm hti)) ?_
    walk_at "rd"
    refine iteND (fun cm => ?_) (fun cm => ?_)
    · walk_at "rd"
      refine ⟨szOf (by show 1 ≤ _; decide), fun pm hpm => ?_⟩
      have em := Ex.new (o := .lst [sv [mk]]) hpm
      refine n_addL (em _ _ hp3) upd_same (szOf (by rw [List.length_map]; show _ + 1 ≤ _; omega)) fun p4 H13 n13 => ?_
      have h13 := n13.2.2.1
      rw [show G1 tx ++ [sv [mk]] = G1 (tx ++ [mk]) from (List.map_append (f := fun c => sv [c]) (l₂ := [mk])).symm] at h13
      walk_at "rd"
      refine u_sorted1 (k := false) (sql h13) (by rw [List.length_append, List.length_singleton]; omega) fun t1 p5 pm1 so hp5 => ?_
      walk_at "rd"
      have nd : (tx ++ [mk]).Nodup := by
        rw [List.nodup_append]
        refine ⟨nodup_of_lt pfil, by simp, fun a ha b hb => ?_⟩
        rw [List.mem_singleton.mp hb]
        exact ((hfil a).mp ha).2
      refine ⟨p5, t1, rfl, (em.trans n13.2.1).up hp5, upd_same, by rw [pm1.length_eq, List.length_append, List.length_singleton]; omega, decide_eq_true ⟨fun c hc => ?_, lt_of_le_nodup so (pm1.nodup_iff.mpr nd)⟩, fun z => cm (by rw [← z]; exact pm1.mem_iff.mpr (by simp))⟩
      rcases List.mem_append.mp (pm1.mem_iff.mp hc) with hc | hc
      · exact ok2.1 c ((hfil c).mp hc).1
      · rw [List.mem_singleton.mp hc]; exact mm
    · walk_at "rd"
      exact ⟨p3, tx, rfl, Ex.refl _, hp3, by omega, decide_eq_true ⟨fun c hc => ok2.1 c ((hfil c).mp hc).1, pfil⟩, fun z => ((hfil mk).mp (by rw [z]; exact cm)).2 rfl⟩
  · rintro σ' H13 ⟨p, t1, rfl, e13, hp, lt1, okt1, ne1⟩
    have e213 := e212.trans e13
    walk_at "rd"
    refine u_ixT (sqt (e213 _ _ hu)) (at_i (n := 4) rfl rfl) ?_
    walk_at "rd"
    refine n_slT (r := (tb.texts.take st).map sv) (e213 _ _ ht) ((cutL_to _ (n := st) rfl).trans List.map_take.symm) fun x1 H14 e14 h14 => ?_
    walk_at "rd"
    refine ⟨⟨_, rfl⟩, ?_⟩
    walk_at "rd"
    refine u_join1 (k := false) (sql (e14 _ _ hp)) (by omega) ?_
    walk_at "rd"
    refine ⟨szOf (by show 1 ≤ _; decide), fun x2 hx2 => ?_⟩
    have e15 := Ex.new (o := .tup [sv t1]) hx2
    refine n_addT (e15 _ _ h14) upd_same (szOf (by rw [List.length_map, List.length_take]; show _ + 1 ≤ _; omega)) fun x3 H16 e16 h16 => ?_
    walk_at "rd"
    have e216 := ((e213.trans e14).trans e15).trans e16
    refine u_ixT (sqt (e216 _ _ hu)) (at_i (n := 4) rfl rfl) ?_
    walk_at "rd"
    refine n_slT (r := (tb.texts.drop (st + 1)).map sv) (e216 _ _ ht) ((cutL_from _ (n := st + 1) (by omega)).trans List.map_drop.symm) fun x4 H17 e17 h17 => ?_
    refine n_addT (e17 _ _ h16) h17 (szOf (by rw [List.length_append, List.length_map, List.length_map, List.length_take, List.length_drop]; show _ + 1 + _ ≤ _; omega)) fun x5 H18 e18 h18 => ?_
    have em : (tb.texts.take st).map sv ++ [sv t1] ++ (tb.texts.drop (st + 1)).map sv = (tb.texts.set st t1).map sv := by
      rw [← take_set t1 hst, List.map_append, List.map_append] <;> rfl
    rw [em] at h18
    have e218 := (e216.trans e17).trans e18
    have e1118 := ((((((e12.trans e13).trans e14).trans e15).trans e16).trans e17).trans e18)
    walk_at "rd"
    refine u_tyL (sql (e1118 _ _ hfo)) ?_
    walk_at "rd"
    have hu18 := e218 _ _ hu
    refine u_ixT (sqt hu18) (at_i (n := 0) rfl rfl) ?_
    walk_at "rd"
    refine u_ixT (sqt hu18) (at_i (n := 1) rfl rfl) ?_
    walk_at "rd"
    refine u_ixT (sqt hu18) (at_i (n := 2) rfl rfl) ?_
    walk_at "rd"
    refine u_ixT (sqt hu18) (at_i (n := 3) rfl rfl) ?_
    walk_at "rd"
    refine ⟨szOf (by show 5 ≤ _; decide), fun f6 hf6 => ?_⟩
    have e19 := Ex.new (o := .tup [sv s, sv r, .ref b, .ref l, .ref x5]) hf6
    have g19 : upd H18 f6 (.tup [sv s, sv r, .ref b, .ref l, .ref x5]) f6 = some (.tup [sv s, sv r, .ref b, .ref l, .ref x5]) := upd_same
    generalize upd H18 f6 (.tup [sv s, sv r, .ref b, .ref l, .ref x5]) = H19 at e19 g19
    have e219 := e218.trans e19
    have e1119 := e1118.trans e19
    obtain ⟨pb, pl, pt⟩ := parts e219
    walk_at "rd"
    refine grow hfo00 (tb' := ⟨tb.begins, tb.lines, tb.texts.set st t1⟩) (s' := s) (r' := r) e219 (e1119 _ _ hfo) (by omega) (fun x hx => (N x hx).tk (TK.of e1119)) g19 pb pl ⟨x5, rfl, e19 _ _ h18⟩ G (good_t T okt1 (by omega)) (fun z => ?_) fun e2c _ N21 => ?_
    · have z := (congrArg Tb.texts z.2.2).symm
      have z : tb.texts.set st t1 = tb.texts := z
      exact set_ne hti ne1 z
    · walk_at "rd"
      exact k fo _ _ e2c upd_same N21

end K39
set_option Elab.async false
set_option linter.all false
set_option maxRecDepth 100000
set_option maxHeartbeats 2000000
namespace K39
open PySem L2 Uni
local macro_rules | `(tactic| walk_at "rd") => `(tactic| (repeat (first
  | (with_reducible refine u_var (by with_unfolding_all exact rfl) ?_) | (with_reducible refine u_seq ?_) | (with_reducible refine u_asg ?_) | (with_reducible refine u_gname ?_) | (with_reducible refine u_drop ?_) | (with_reducible refine u_ret ?_) | (with_reducible refine u_retN ?_) | (with_reducible refine u_next ?_) | (with_reducible refine u_break ?_) | (with_reducible refine u_cont ?_) | (with_reducible refine u_if ?_) | (with_reducible refine u_c ?_) | (with_reducible refine u_op ?_) | (with_reducible refine u_un ?_) | (with_reducible refine u_test ?_) | (with_reducible refine u_tb ?_) | (with_reducible refine u_bl ?_) | (with_reducible refine u_not ?_) | (with_reducible refine u_and ?_) | (with_reducible refine u_or ?_) | (with_reducible refine u_chain ?_) | (with_reducible refine u_ifE ?_) | (with_reducible refine u_andV ?_) | (with_reducible refine u_orV ?_) | (with_reducible refine u_notV ?_) | (with_reducible refine u_blE ?_) | (with_reducible refine u_nil ?_) | (with_reducible refine u_cons ?_) | (with_reducible refine u_tup ?_) | (with_reducible refine u_lst ?_) | (with_reducible refine u_cb ?_) | (with_reducible refine u_call ?_) | (with_reducible refine u_bm ?_) | (with_reducible refine u_bm0 ?_) | (with_reducible refine u_m1 ?_) | (with_reducible refine u_sl ?_) | (with_reducible refine u_nopart ?_) | (with_reducible refine u_part ?_) | (with_reducible refine u_int ?_) | (with_reducible refine u_yes ?_) | (with_reducible refine u_add ?_) | (with_reducible refine u_sub ?_) | (with_reducible refine u_neg ?_) | (with_reducible refine u_le ?_) | (with_reducible refine u_gt ?_) | (with_reducible refine u_ge ?_) | (with_reducible refine u_lt ?_) | (with_reducible refine u_ltS ?_) | (with_reducible refine u_eqI ?_) | (with_reducible refine u_neI ?_) | (with_reducible refine u_eqS ?_) | (with_reducible refine u_neS ?_) | (with_reducible refine u_eqB ?_) | (with_reducible refine u_neB ?_) | (with_reducible refine u_inS ?_) | (with_reducible refine u_ninS ?_) | (with_reducible refine u_intI ?_) | (with_reducible refine u_intB ?_) | (with_reducible refine u_for ?_) | (with_reducible refine u_iR1 ?_) | (with_reducible refine u_iR2 ?_) | (with_reducible refine u_uni ?_) | (with_reducible refine u_lc ?_)
  | (with_reducible refine iteT ?_) | (with_reducible refine iteF ?_) | (with_reducible refine iteNT ?_) | (with_reducible refine iteNF ?_))))
theorem pu_law_near (K : PySem.W.Frag) (vs : List V) (H : Hp) (Q : VK) (E : XK) (h : sp_law_near K vs H Q E) : t_law_near K { nx := fun _ H' => Q .non H', rt := Q } (start N_law_near vs) H := by
  obtain ⟨due, q, ds, s, r, tb, rfl, F, G, T, sm, ⟨hq, hlen, hd⟩, k⟩ := h
  have F0 := F
  obtain ⟨u, b0, l0, t0, rfl, hu, ⟨b, rfl, hb⟩, ⟨l, xl, rfl, hl, lxl, hxl⟩, ⟨t, rfl, ht⟩⟩ := F
  have sl := G.sl
  have ll := T.llen
  have m1 := T.many
  have few := T.few
  have bl := okStates_len T.beg
  obtain ⟨o1, o2, o3, o4⟩ := of_decide_eq_true G.s
  obtain ⟨q1, q2, q3, q4⟩ := of_decide_eq_true G.r
  obtain ⟨d0, a0, b00, c0⟩ := dig hlen hd 0 rfl
  obtain ⟨d1, a1, b1, c1⟩ := dig hlen hd 1 rfl
  obtain ⟨d2, a2, b2, c2⟩ := dig hlen hd 2 rfl
  obtain ⟨d3, a3, b3, c3⟩ := dig hlen hd 3 rfl
  unfold t_law_near
  rw [lit_steps, lit_roots]
  walk_at "rd"
  refine u_ixT (sqt hu) (at_i (n := 4) rfl rfl) ?_
  walk_at "rd"
  refine u_lenT (sqt ht) ?_
  rw [List.length_map]
  walk_at "rd"
  refine lc_filter (p := fun c => !decide (c ∈ s)) (fun _ => rfl) (fun _ => rfl) (fun c H' QT e h => ?_) (by decide) fun p1 H1 hp10 e1 hp1 => ?_
  · walk_at "rd"
    refine u_ixT (sqt (e _ _ hu)) (at_i (n := 0) rfl rfl) ?_
    walk_at "rd"
    exact h
  have ol1 := outs_len (sg := STEPSL) (t := s) (by decide)
  have mem1 : ∀ c ∈ STEPSL.filter (fun c => !decide (c ∈ s)), c ∈ STEPSL ∧ c ∉ s := fun c hc => ⟨(List.mem_filter.mp hc).1, by simpa using (List.mem_filter.mp hc).2⟩
  have ou1 : (STEPSL.filter fun c => !decide (c ∈ s)).length ≤ 25 := List.length_filter_le _ _
  have ol1 : 1 ≤ (STEPSL.filter fun c => !decide (c ∈ s)).length := by
    have e : (STEPSL.filter fun c => decide (c ∉ s)) = STEPSL.filter fun c => !decide (c ∈ s) := by simp
    rw [e] at ol1
    have : STEPSL.length = 25 := rfl
    omega
  generalize (STEPSL.filter fun c => !decide (c ∈ s)) = ways at hp1 mem1 ol1 ou1
  walk_at "rd"
  refine lc_filter (p := fun c => !decide (c ∈ r)) (fun _ => rfl) (fun _ => rfl) (fun c H' QT e h => ?_) (by decide) fun p2 H2 hp20 e2 hp2 => ?_
  · walk_at "rd"
    refine u_ixT (sqt (e _ _ (e1 _ _ hu))) (at_i (n := 1) rfl rfl) ?_
    walk_at "rd"
    exact h
  have ol2 := outs_len (sg := ROOTSL) (t := r) (by decide)
  have mem2 : ∀ c ∈ ROOTSL.filter (fun c => !decide (c ∈ r)), c ∈ ROOTSL ∧ c ∉ r := fun c hc => ⟨(List.mem_filter.mp hc).1, by simpa using (List.mem_filter.mp hc).2⟩
  have ou2 : (ROOTSL.filter fun c => !decide (c ∈ r)).length ≤ 10 := List.length_filter_le _ _
  have ol2 : 1 ≤ (ROOTSL.filter fun c => !decide (c ∈ r)).length := by
    have e : (ROOTSL.filter fun c => decide (c ∉ r)) = ROOTSL.filter fun c => !decide (c ∈ r) := by simp
    rw [e] at ol2
    have : ROOTSL.length = 10 := rfl
    omega
  generalize (ROOTSL.filter fun c => !decide (c ∈ r)) = figs at hp2 mem2 ol2 ou2
  have e02 := e1.trans e2
  have hp1 := e2 _ _ hp1
  have hq := e02 _ _ hq
  have hu := e02 _ _ hu
  have ht := e02 _ _ ht
  have hl := e02 _ _ hl
  have hb := e02 _ _ hb
  have hxl : ∀ (i : Nat) x row, xl[i]? = some x → tb.lines[i]? = some row → SeqI true H2 x row := fun i x row h1 h2 => (hxl i x row h1 h2).ex e02
  have F0 := F0.ex e02
  clear hp10 hp20 e1 e2
  walk_at "rd"
  refine u_ixL (sql hq) (at_i (n := 0) rfl (mapm a0)) ?_
  walk_at "rd"
  refine u_ixT (sqt hu) (at_i (n := 0) rfl rfl) ?_
  walk_at "rd"
  refine u_lenS (szOf (by omega)) ?_
  refine u_mod (by omega) ?_
  rw [mod_nat b00 (by omega)]
  have hk : d0.toNat % ((s.length : Nat) : Int).toNat < s.length := Nat.mod_lt _ (by omega)
  generalize d0.toNat % ((s.length : Nat) : Int).toNat = ks at hk
  walk_at "rd"
  refine ⟨⟨_, rfl⟩, ?_⟩
  walk_at "rd"
  refine u_ixT (sqt hu) (at_i (n := 0) rfl rfl) ?_
  walk_at "rd"
  refine u_slS (l := s) (cutL_to _ (n := ks) rfl) (by omega) ?_
  walk_at "rd"
  refine u_ixT (sqt hu) (at_i (n := 0) rfl rfl) ?_
  walk_at "rd"
  refine u_slS (l := s) (cutL_from _ (n := ks + 1) (by omega)) (by omega) ?_
  refine u_addS (szOf (by rw [List.length_take, List.length_drop]; omega)) ?_
  walk_at "rd"
  refine u_ixL (sql hq) (at_i (n := 1) rfl (mapm a1)) ?_
  walk_at "rd"
  refine u_lenL (sql hp1) ?_
  rw [List.length_map]
  refine u_mod (by omega) ?_
  rw [mod_nat b1 (by omega)]
  have hw : d1.toNat % ((ways.length : Nat) : Int).toNat < ways.length := Nat.mod_lt _ (by omega)
  generalize d1.toNat % ((ways.length : Nat) : Int).toNat = iw at hw
  have hwi := List.getElem?_eq_getElem hw
  obtain ⟨cw1, cw2⟩ := mem1 _ (List.getElem_mem hw)
  generalize ways[iw] = cw at hwi cw1 cw2
  refine u_ixL (sql hp1) (at_i rfl (mapm hwi)) ?_
  have lt1 : (s.take ks ++ s.drop (ks + 1)).length ≤ 3 := by rw [List.length_append, List.length_take, List.length_drop]; omega
  refine u_addS (szOf (by rw [List.length_singleton]; omega)) ?_
  walk_at "rd"
  refine n_listS (szOf (by rw [List.length_append, List.length_singleton]; omega)) fun p3 H3 n3 => ?_
  walk_at "rd"
  refine u_sorted1 (k := false) (sql n3.2.2.1) (by rw [List.length_append, List.length_singleton]; omega) fun s' p4 pm1 so1 hp4 => ?_
  have g4 : upd H3 p4 (.lst (G1 s')) p4 = some (.lst (G1 s')) := upd_same
  have e24 : Ex H2 (upd H3 p4 (.lst (G1 s'))) := n3.2.1.up hp4
  refine u_join1 (k := false) (sql g4) (by rw [pm1.length_eq, List.length_append, List.length_singleton]; omega) ?_
  generalize upd H3 p4 (.lst (G1 s')) = H4 at e24
  clear g4 hp4 n3
  obtain ⟨oks', ls', ns'⟩ := swap_ok G.s hk cw1 cw2 pm1 so1
  walk_at "rd"
  have hu4 := e24 _ _ hu
  have hq4 := e24 _ _ hq
  refine u_ixT (sqt hu4) (at_i (n := 1) rfl rfl) ?_
  walk_at "rd"
  refine u_ixT (sqt hu4) (at_i (n := 2) rfl rfl) ?_
  walk_at "rd"
  refine u_ixT (sqt hu4) (at_i (n := 3) rfl rfl) ?_
  walk_at "rd"
  refine u_ixT (sqt hu4) (at_i (n := 4) rfl rfl) ?_
  walk_at "rd"
  have F4 := F0.ex e24
  obtain ⟨u', _, _, _, eu, hu', Fb, Fl, Ft⟩ := F4
  cases eu
  rw [hu4] at hu'
  cases hu'
  refine ⟨szOf (by show 5 ≤ _; decide), fun f1 hf1 => ?_⟩
  have e45 := Ex.new (o := .tup [sv s', sv r, .ref b, .ref l, .ref t]) hf1
  have g5 : upd H4 f1 (.tup [sv s', sv r, .ref b, .ref l, .ref t]) f1 = some (.tup [sv s', sv r, .ref b, .ref l, .ref t]) := upd_same
  generalize upd H4 f1 (.tup [sv s', sv r, .ref b, .ref l, .ref t]) = H5 at e45 g5
  walk_at "rd"
  refine ⟨szOf (by show 1 ≤ _; decide), fun fo hfo => ?_⟩
  have e56 := Ex.new (o := .lst [.ref f1]) hfo
  have g6 : upd H5 fo (.lst [.ref f1]) fo = some (.lst [.ref f1]) := upd_same
  generalize upd H5 fo (.lst [.ref f1]) = H6 at e56 g6
  have e26 := (e24.trans e45).trans e56
  have fo0 : H2 fo = none := e24.free (e45.free hfo)
  have N1 : ∀ x ∈ ([V.ref f1] : List V), Near H6 s r tb x := fun x hx => by
    rw [List.mem_singleton.mp hx]
    refine ⟨s', r, tb, ⟨f1, .ref b, .ref l, .ref t, rfl, e56 _ _ g5, Fb.ex (e45.trans e56), Fl.ex (e45.trans e56), Ft.ex (e45.trans e56)⟩, ⟨oks', G.r⟩, by rw [ls']; exact T, fun z => ns' z.1.symm⟩
  clear e45 e56 hf1 hfo g5 Fb Fl Ft e24 hu4 hq4
  -- the second string
  walk_at "rd"
  have hu6 := e26 _ _ hu
  have hq6 := e26 _ _ hq
  refine u_ixL (sql hq6) (at_i (n := 0) rfl (mapm a0)) ?_
  walk_at "rd"
  refine u_ixT (sqt hu6) (at_i (n := 1) rfl rfl) ?_
  walk_at "rd"
  refine u_lenS (szOf (by omega)) ?_
  refine u_mod (by omega) ?_
  rw [mod_nat b00 (by omega)]
  have hkr : d0.toNat % ((r.length : Nat) : Int).toNat < r.length := Nat.mod_lt _ (by omega)
  generalize d0.toNat % ((r.length : Nat) : Int).toNat = kr at hkr
  walk_at "rd"
  refine ⟨⟨_, rfl⟩, ?_⟩
  walk_at "rd"
  refine u_ixT (sqt hu6) (at_i (n := 1) rfl rfl) ?_
  walk_at "rd"
  refine u_slS (l := r) (cutL_to _ (n := kr) rfl) (by omega) ?_
  walk_at "rd"
  refine u_ixT (sqt hu6) (at_i (n := 1) rfl rfl) ?_
  walk_at "rd"
  refine u_slS (l := r) (cutL_from _ (n := kr + 1) (by omega)) (by omega) ?_
  refine u_addS (szOf (by rw [List.length_take, List.length_drop]; omega)) ?_
  walk_at "rd"
  refine u_ixL (sql hq6) (at_i (n := 1) rfl (mapm a1)) ?_
  walk_at "rd"
  refine u_lenL (sql (e26 _ _ hp2)) ?_
  rw [List.length_map]
  refine u_mod (by omega) ?_
  rw [mod_nat b1 (by omega)]
  have hw2 : d1.toNat % ((figs.length : Nat) : Int).toNat < figs.length := Nat.mod_lt _ (by omega)
  generalize d1.toNat % ((figs.length : Nat) : Int).toNat = iw2 at hw2
  have hwi2 := List.getElem?_eq_getElem hw2
  obtain ⟨cf1, cf2⟩ := mem2 _ (List.getElem_mem hw2)
  generalize figs[iw2] = cf at hwi2 cf1 cf2
  refine u_ixL (sql (e26 _ _ hp2)) (at_i rfl (mapm hwi2)) ?_
  have lt2 : (r.take kr ++ r.drop (kr + 1)).length ≤ 3 := by rw [List.length_append, List.length_take, List.length_drop]; omega
  refine u_addS (szOf (by rw [List.length_singleton]; omega)) ?_
  walk_at "rd"
  refine n_listS (szOf (by rw [List.length_append, List.length_singleton]; omega)) fun p5 H7 n7 => ?_
  walk_at "rd"
  refine u_sorted1 (k := false) (sql n7.2.2.1) (by rw [List.length_append, List.length_singleton]; omega) fun r' p6 pm2 so2 hp6 => ?_
  have g8 : upd H7 p6 (.lst (G1 r')) p6 = some (.lst (G1 r')) := upd_same
  have e68 : Ex H6 (upd H7 p6 (.lst (G1 r'))) := n7.2.1.up hp6
  refine u_join1 (k := false) (sql g8) (by rw [pm2.length_eq, List.length_append, List.length_singleton]; omega) ?_
  generalize upd H7 p6 (.lst (G1 r')) = H8 at e68
  clear g8 hp6 n7
  obtain ⟨okr', lr', nr'⟩ := swap_ok G.r hkr cf1 cf2 pm2 so2
  have e28 := e26.trans e68
  have hfo8 := e68 _ _ g6
  have N8 : ∀ x ∈ ([V.ref f1] : List V), Near H8 s r tb x := fun x hx => (N1 x hx).tk (TK.of e68)
  clear N1 g6 e68 hu6 hq6 e26
  have parts : ∀ {Hx : Hp}, Ex H2 Hx → SeqI true Hx (.ref b) tb.begins ∧ SeqII true true Hx (.ref l) tb.lines ∧ SeqS true Hx (.ref t) tb.texts := fun e => ⟨⟨b, rfl, e _ _ hb⟩, ⟨l, xl, rfl, e _ _ hl, lxl, fun i x row h1 h2 => (hxl i x row h1 h2).ex e⟩, ⟨t, rfl, e _ _ ht⟩⟩
  walk_at "rd"
  refine u_tyL (sql hfo8) ?_
  walk_at "rd"
  have hu8 := e28 _ _ hu
  refine u_ixT (sqt hu8) (at_i (n := 0) rfl rfl) ?_
  walk_at "rd"
  refine u_ixT (sqt hu8) (at_i (n := 2) rfl rfl) ?_
  walk_at "rd"
  refine u_ixT (sqt hu8) (at_i (n := 3) rfl rfl) ?_
  walk_at "rd"
  refine u_ixT (sqt hu8) (at_i (n := 4) rfl rfl) ?_
  walk_at "rd"
  refine ⟨szOf (by show 5 ≤ _; decide), fun f2 hf2 => ?_⟩
  have e89 := Ex.new (o := .tup [sv s, sv r', .ref b, .ref l, .ref t]) hf2
  have g9 : upd H8 f2 (.tup [sv s, sv r', .ref b, .ref l, .ref t]) f2 = some (.tup [sv s, sv r', .ref b, .ref l, .ref t]) := upd_same
  generalize upd H8 f2 (.tup [sv s, sv r', .ref b, .ref l, .ref t]) = H9 at e89 g9
  have e29 := e28.trans e89
  obtain ⟨pb9, pl9, pt9⟩ := parts e29
  walk_at "rd"
  refine grow fo0 (tb' := tb) (s' := s) (r' := r') e29 (e89 _ _ hfo8) (by show 1 ≤ 10; decide) (fun x hx => (N8 x hx).tk (TK.of e89)) g9 pb9 pl9 pt9 ⟨G.s, okr'⟩ (by rw [lr']; exact T) (fun z => nr' z.2.1.symm) fun e2a _ N10 => ?_
  have hfo10 : upd H9 fo (.lst ([V.ref f1] ++ [V.ref f2])) fo = some (.lst ([V.ref f1] ++ [V.ref f2])) := upd_same
  generalize upd H9 fo (.lst ([V.ref f1] ++ [V.ref f2])) = H10 at e2a N10 hfo10
  clear hfo8 N8 hu8 hf2 e89 g9 e29 pb9 pl9 pt9 e28
  walk_at "rd"
  refine u_ixL (sql (e2a _ _ hq)) (at_i (n := 2) rfl (mapm a2)) ?_
  walk_at "rd"
  refine u_mod (by omega) ?_
  rw [mod_nat b2 (by omega)]
  have hst : d2.toNat % ((tb.texts.length : Nat) : Int).toNat < tb.texts.length := Nat.mod_lt _ (by omega)
  generalize d2.toNat % ((tb.texts.length : Nat) : Int).toNat = st at hst
  walk_at "rd"
  refine u_cut (fun σ' H' => ∃ (o5 o12 o13 o14 : Option V) (xs : List V), σ' = [some (.ref u), some (.ref q), some (.int tb.texts.length), some (.ref p1), some (.ref p2), o5, some (sv r'), some (.ref fo), some (.int (st : Int)), none, none, none, o12, o13, o14, none, none] ∧ Ex H2 H' ∧ H' fo = some (.lst xs) ∧ xs.length ≤ 4 ∧ ∀ x ∈ xs, Near H' s r tb x) ?_ ?_
  · exact near_mid K G T sm hu hq hb hl ht lxl hxl fo0 parts a0 b00 a1 b1 c1 a3 b3 hst hkr e2a hfo10 N10 fun o5 o12 o13 o14 xs H' h1 h2 h3 h4 => ⟨o5, o12, o13, o14, xs, rfl, h1, h2, h3, h4⟩
  · rintro σ' H' ⟨o5, o12, o13, o14, xs, rfl, h1, h2, h3, h4⟩
    exact near_end K G T sm hu hq hb hl ht lxl hxl fo0 parts a0 b00 a1 b1 c1 a3 b3 hst h1 h2 h3 h4 fun p xs H'' e hp hN => k p xs H'' (e02.trans e) hp hN

end K39
set_option Elab.async false
set_option linter.all false
set_option maxRecDepth 100000
set_option maxHeartbeats 2000000
namespace K39
open PySem L2 Uni
local macro_rules | `(tactic| walk_at "rd") => `(tactic| (repeat (first
  | (with_reducible refine u_var (by with_unfolding_all exact rfl) ?_) | (with_reducible refine u_seq ?_) | (with_reducible refine u_asg ?_) | (with_reducible refine u_gname ?_) | (with_reducible refine u_drop ?_) | (with_reducible refine u_ret ?_) | (with_reducible refine u_retN ?_) | (with_reducible refine u_next ?_) | (with_reducible refine u_break ?_) | (with_reducible refine u_cont ?_) | (with_reducible refine u_if ?_) | (with_reducible refine u_c ?_) | (with_reducible refine u_op ?_) | (with_reducible refine u_un ?_) | (with_reducible refine u_test ?_) | (with_reducible refine u_tb ?_) | (with_reducible refine u_bl ?_) | (with_reducible refine u_not ?_) | (with_reducible refine u_and ?_) | (with_reducible refine u_or ?_) | (with_reducible refine u_chain ?_) | (with_reducible refine u_ifE ?_) | (with_reducible refine u_andV ?_) | (with_reducible refine u_orV ?_) | (with_reducible refine u_notV ?_) | (with_reducible refine u_blE ?_) | (with_reducible refine u_nil ?_) | (with_reducible refine u_cons ?_) | (with_reducible refine u_tup ?_) | (with_reducible refine u_lst ?_) | (with_reducible refine u_cb ?_) | (with_reducible refine u_call ?_) | (with_reducible refine u_bm ?_) | (with_reducible refine u_bm0 ?_) | (with_reducible refine u_m1 ?_) | (with_reducible refine u_sl ?_) | (with_reducible refine u_nopart ?_) | (with_reducible refine u_part ?_) | (with_reducible refine u_int ?_) | (with_reducible refine u_yes ?_) | (with_reducible refine u_add ?_) | (with_reducible refine u_sub ?_) | (with_reducible refine u_neg ?_) | (with_reducible refine u_le ?_) | (with_reducible refine u_gt ?_) | (with_reducible refine u_ge ?_) | (with_reducible refine u_lt ?_) | (with_reducible refine u_ltS ?_) | (with_reducible refine u_eqI ?_) | (with_reducible refine u_neI ?_) | (with_reducible refine u_eqS ?_) | (with_reducible refine u_neS ?_) | (with_reducible refine u_eqB ?_) | (with_reducible refine u_neB ?_) | (with_reducible refine u_inS ?_) | (with_reducible refine u_ninS ?_) | (with_reducible refine u_intI ?_) | (with_reducible refine u_intB ?_) | (with_reducible refine u_for ?_) | (with_reducible refine u_iR1 ?_) | (with_reducible refine u_iR2 ?_) | (with_reducible refine u_uni ?_) | (with_reducible refine u_lc ?_)
  | (with_reducible refine iteT ?_) | (with_reducible refine iteF ?_) | (with_reducible refine iteNT ?_) | (with_reducible refine iteNF ?_))))
def CLS : List PySem.Str := ["BadClaim", "BadSteps", "BadRoots", "BadName", "NameTaken", "NoName", "MixedClaim", "StrangeSign", "BadThing", "BadGrammar", "ListCanBeTrue", "BadWorld", "WorldsDiffer", "TooWide", "NoProof", "TooLong", "BadSpelling", "BadText", "BadLine", "NothingToUndo", "NothingToRedo", "TooManyRoots"]
/-- what the three exceptions are -/
structure KitF (K : PySem.W.Frag) (D : Addr) (n : Nat) : Prop where
  is : ∀ (i : Nat) (x : PySem.Str), CLS[i]? = some x → PySem.W.kitOne K (.ref D) (.ref (He.ga K x)) = some (decide (i = n))
  lem : PySem.W.kitOne K (.ref D) (.ref (He.ga K "LemmaError")) = some true
  val : PySem.W.kitOne K (.ref D) (.type "ValueError") = some true
structure KitA (K : PySem.W.Frag) : Prop where
  s : KitF K (He.ga K "BadSteps") 1
  r : KitF K (He.ga K "BadRoots") 2
  w : KitF K (He.ga K "BadWorld") 11
  ss : PySem.W.exmOne K (.ref (He.ga K "BadSteps")) (.ref (He.ga K "BadSteps")) = some true
  rs : PySem.W.exmOne K (.ref (He.ga K "BadRoots")) (.ref (He.ga K "BadSteps")) = some false
  rr : PySem.W.exmOne K (.ref (He.ga K "BadRoots")) (.ref (He.ga K "BadRoots")) = some true
  ws : PySem.W.exmOne K (.ref (He.ga K "BadWorld")) (.ref (He.ga K "BadSteps")) = some false
  wr : PySem.W.exmOne K (.ref (He.ga K "BadWorld")) (.ref (He.ga K "BadRoots")) = some false
  ww : PySem.W.exmOne K (.ref (He.ga K "BadWorld")) (.ref (He.ga K "BadWorld")) = some true
theorem u_isX {K : PySem.W.Frag} {a D dd C : Addr} {b : Bool} {H : Hp} {Q : VK} {fs : List (PySem.Str × V)} (e : PySem.W.kitOne K (.ref D) (.ref C) = some b) (hd : H dd = some (.xd fs)) (q : Q (.bl b) H) : rIsX K a D dd [.ref a, .ref C] H Q :=
  ⟨.ref C, .ref C, b, fs, rfl, fun u h => h, e, hd, q⟩
theorem u_isXT {K : PySem.W.Frag} {a D dd : Addr} {T : String} {b : Bool} {H : Hp} {Q : VK} {fs : List (PySem.Str × V)} (e : PySem.W.kitOne K (.ref D) (.type T) = some b) (hd : H dd = some (.xd fs)) (q : Q (.bl b) H) : rIsX K a D dd [.ref a, .ty T] H Q :=
  ⟨.ty T, .type T, b, fs, rfl, fun u h => h, e, hd, q⟩
abbrev fnd (n : Nat) (L : List Nat) : List V := L.map fun i => V.bl (decide (i = n))
theorem classes_of {K : PySem.W.Frag} {a D dd : Addr} {n : Nat} (F : KitF K D n) (hn : n = 1 ∨ n = 2 ∨ n = 11) {H : Hp} {Q : VK} {fs : List (PySem.Str × V)} (hd : H dd = some (.xd fs)) (k : ∀ H', Ex H H' → Q (.bl true) H') :
    t_law_classes K a D dd { nx := fun _ H' => Q .non H', rt := Q } (start N_law_classes [.ref a]) H := by
  unfold t_law_classes
  walk_at "rd"
  refine u_isX (F.is 0 _ rfl) hd ?_
  walk_at "rd"
  refine u_isX (F.is 1 _ rfl) hd ?_
  walk_at "rd"
  refine u_isX (F.is 2 _ rfl) hd ?_
  walk_at "rd"
  refine u_isX (F.is 3 _ rfl) hd ?_
  walk_at "rd"
  refine ⟨szOf (by show 4 ≤ _; decide), fun p0 hp0 => ?_⟩
  have e0 := Ex.new (o := .lst (fnd n [0, 1, 2, 3])) hp0
  walk_at "rd"
  refine u_isX (F.is 4 _ rfl) (e0 _ _ hd) ?_
  walk_at "rd"
  refine u_isX (F.is 5 _ rfl) (e0 _ _ hd) ?_
  walk_at "rd"
  refine u_isX (F.is 6 _ rfl) (e0 _ _ hd) ?_
  walk_at "rd"
  refine ⟨szOf (by show 3 ≤ _; decide), fun x0 hx0 => ?_⟩
  have ex0 := Ex.new (o := .lst (fnd n [4, 5, 6])) hx0
  refine n_addL (xs := fnd n ([0, 1, 2, 3])) (ys := fnd n [4, 5, 6]) (ex0 _ _ upd_same) upd_same (szOf (by show 7 ≤ _; decide)) fun p1 H1 n0 => ?_
  have g1 : H1 p1 = some (.lst (fnd n ([0, 1, 2, 3] ++ [4, 5, 6]))) := n0.2.2.1
  have e1 := (e0.trans ex0).trans n0.2.1
  walk_at "rd"
  refine u_isX (F.is 7 _ rfl) (e1 _ _ hd) ?_
  walk_at "rd"
  refine u_isX (F.is 8 _ rfl) (e1 _ _ hd) ?_
  walk_at "rd"
  refine u_isX (F.is 9 _ rfl) (e1 _ _ hd) ?_
  walk_at "rd"
  refine ⟨szOf (by show 3 ≤ _; decide), fun x1 hx1 => ?_⟩
  have ex1 := Ex.new (o := .lst (fnd n [7, 8, 9])) hx1
  refine n_addL (xs := fnd n ([0, 1, 2, 3] ++ [4, 5, 6])) (ys := fnd n [7, 8, 9]) (ex1 _ _ g1) upd_same (szOf (by show 10 ≤ _; decide)) fun p2 H2 n1 => ?_
  have g2 : H2 p2 = some (.lst (fnd n ([0, 1, 2, 3] ++ [4, 5, 6] ++ [7, 8, 9]))) := n1.2.2.1
  have e2 := (e1.trans ex1).trans n1.2.1
  walk_at "rd"
  refine u_isX (F.is 10 _ rfl) (e2 _ _ hd) ?_
  walk_at "rd"
  refine u_isX (F.is 11 _ rfl) (e2 _ _ hd) ?_
  walk_at "rd"
  refine u_isX (F.is 12 _ rfl) (e2 _ _ hd) ?_
  walk_at "rd"
  refine ⟨szOf (by show 3 ≤ _; decide), fun x2 hx2 => ?_⟩
  have ex2 := Ex.new (o := .lst (fnd n [10, 11, 12])) hx2
  refine n_addL (xs := fnd n ([0, 1, 2, 3] ++ [4, 5, 6] ++ [7, 8, 9])) (ys := fnd n [10, 11, 12]) (ex2 _ _ g2) upd_same (szOf (by show 13 ≤ _; decide)) fun p3 H3 n2 => ?_
  have g3 : H3 p3 = some (.lst (fnd n ([0, 1, 2, 3] ++ [4, 5, 6] ++ [7, 8, 9] ++ [10, 11, 12]))) := n2.2.2.1
  have e3 := (e2.trans ex2).trans n2.2.1
  walk_at "rd"
  refine u_isX (F.is 13 _ rfl) (e3 _ _ hd) ?_
  walk_at "rd"
  refine u_isX (F.is 14 _ rfl) (e3 _ _ hd) ?_
  walk_at "rd"
  refine u_isX (F.is 15 _ rfl) (e3 _ _ hd) ?_
  walk_at "rd"
  refine ⟨szOf (by show 3 ≤ _; decide), fun x3 hx3 => ?_⟩
  have ex3 := Ex.new (o := .lst (fnd n [13, 14, 15])) hx3
  refine n_addL (xs := fnd n ([0, 1, 2, 3] ++ [4, 5, 6] ++ [7, 8, 9] ++ [10, 11, 12])) (ys := fnd n [13, 14, 15]) (ex3 _ _ g3) upd_same (szOf (by show 16 ≤ _; decide)) fun p4 H4 n3 => ?_
  have g4 : H4 p4 = some (.lst (fnd n ([0, 1, 2, 3] ++ [4, 5, 6] ++ [7, 8, 9] ++ [10, 11, 12] ++ [13, 14, 15]))) := n3.2.2.1
  have e4 := (e3.trans ex3).trans n3.2.1
  walk_at "rd"
  refine u_isX (F.is 16 _ rfl) (e4 _ _ hd) ?_
  walk_at "rd"
  refine u_isX (F.is 17 _ rfl) (e4 _ _ hd) ?_
  walk_at "rd"
  refine u_isX (F.is 18 _ rfl) (e4 _ _ hd) ?_
  walk_at "rd"
  refine ⟨szOf (by show 3 ≤ _; decide), fun x4 hx4 => ?_⟩
  have ex4 := Ex.new (o := .lst (fnd n [16, 17, 18])) hx4
  refine n_addL (xs := fnd n ([0, 1, 2, 3] ++ [4, 5, 6] ++ [7, 8, 9] ++ [10, 11, 12] ++ [13, 14, 15])) (ys := fnd n [16, 17, 18]) (ex4 _ _ g4) upd_same (szOf (by show 19 ≤ _; decide)) fun p5 H5 n4 => ?_
  have g5 : H5 p5 = some (.lst (fnd n ([0, 1, 2, 3] ++ [4, 5, 6] ++ [7, 8, 9] ++ [10, 11, 12] ++ [13, 14, 15] ++ [16, 17, 18]))) := n4.2.2.1
  have e5 := (e4.trans ex4).trans n4.2.1
  walk_at "rd"
  refine u_isX (F.is 19 _ rfl) (e5 _ _ hd) ?_
  walk_at "rd"
  refine u_isX (F.is 20 _ rfl) (e5 _ _ hd) ?_
  walk_at "rd"
  refine u_isX (F.is 21 _ rfl) (e5 _ _ hd) ?_
  walk_at "rd"
  refine ⟨szOf (by show 3 ≤ _; decide), fun x5 hx5 => ?_⟩
  have ex5 := Ex.new (o := .lst (fnd n [19, 20, 21])) hx5
  refine n_addL (xs := fnd n ([0, 1, 2, 3] ++ [4, 5, 6] ++ [7, 8, 9] ++ [10, 11, 12] ++ [13, 14, 15] ++ [16, 17, 18])) (ys := fnd n [19, 20, 21]) (ex5 _ _ g5) upd_same (szOf (by show 22 ≤ _; decide)) fun p6 H6 n5 => ?_
  have g6 : H6 p6 = some (.lst (fnd n ([0, 1, 2, 3] ++ [4, 5, 6] ++ [7, 8, 9] ++ [10, 11, 12] ++ [13, 14, 15] ++ [16, 17, 18] ++ [19, 20, 21]))) := n5.2.2.1
  have e6 := (e5.trans ex5).trans n5.2.1
  walk_at "rd"
  refine u_tyL (sql g6) ?_
  walk_at "rd"
  have g6' : H6 p6 = some (.lst (((List.range 22).map fun i => decide (i = n)).map V.bl)) := g6
  have cnt : (((List.range 22).map fun i => decide (i = n)).count true : Nat) = 1 := by
    rcases hn with rfl | rfl | rfl <;> decide
  refine u_countB (sql g6') ?_
  rw [cnt]
  walk_at "rd"
  refine iteD (fun _ => ?_) (fun z => absurd rfl z)
  walk_at "rd"
  refine u_isX F.lem (e6 _ _ hd) ?_
  walk_at "rd"
  refine u_isXT F.val (e6 _ _ hd) ?_
  exact k H6 e6
theorem pu_law_classes (K : PySem.W.Frag) (A : KitA K) (a D dd : Addr) (vs : List V) (H : Hp) (Q : VK) (E : XK) (h : spx_law_classes K a D dd vs H Q E) : t_law_classes K a D dd { nx := fun _ H' => Q .non H', rt := Q } (start N_law_classes vs) H := by
  obtain ⟨rfl, hD, ⟨fs, hd⟩, k⟩ := h
  rcases hD with rfl | rfl | rfl
  · exact classes_of A.s (Or.inl rfl) hd k
  · exact classes_of A.r (Or.inr (Or.inl rfl)) hd k
  · exact classes_of A.w (Or.inr (Or.inr rfl)) hd k

theorem u_makeS {C : Addr} {sp : Sp} {E : L2.St → XK} {t : TA} {σ : L2.St} {H : Hp} {Q : VK} (h : t σ H fun vs H1 => ∀ x dx, H1 x = none → H1 dx = none → dx ≠ x → sp (.ref x :: (vs ++ [])) (upd (upd H1 dx (.own x)) x (.ins C dx [])) (fun v H2 => v = .non ∧ Q (.ref x) H2) (E σ)) : tMakeS C sp E t σ H Q := h
theorem u_xf {a : Addr} {cls : Value} {d : Option Addr} {C : Addr} {f : PySem.Str} {te : TE} {σ : L2.St} {H : Hp} {Q : VK} (h : te σ H fun x H1 => x = .ref a ∧ cls = .ref C ∧ ∃ (dd : Addr) (fs : List (PySem.Str × V)) (v : V), d = some dd ∧ H1 dd = some (.xd fs) ∧ fs.lookup f = some v ∧ Q v H1) : tXf a cls d C f te σ H Q := h
theorem u_callX {a : Addr} {cls : Value} {d : Option Addr} {sp : SpX} {E : XK} {t : TA} {σ : L2.St} {H : Hp} {Q : VK} (h : t σ H fun vs H1 => vs.length = 1 ∧ ∃ D dd, cls = .ref D ∧ d = some dd ∧ sp a D dd vs H1 Q E) : tCallX a cls d sp E t σ H Q := h
/-- the suite of a clause -/
theorem suite_ok {K : PySem.W.Frag} {C a d : Addr} {f : PySem.Str} {x : PySem.Str} {y : V} {H : Hp} {D : Ends} {σ : L2.St} (hC : C = He.ga K "BadSteps" ∨ C = He.ga K "BadRoots" ∨ C = He.ga K "BadWorld") (hσ : σ[1]? = some (some (.ref a))) (hd : H d = some (.xd [(f, y)]))
    (k : ∀ (q : Addr) (H' : Hp), Ex H H' → H' q = some (.tup [.str x, y, .bl true]) → D.rt (.ref q) H') :
    (tRet (tTup (tCons (tC (.str x)) (tCons (tXf a (.ref C) (some d) C f (tVar 1)) (tCons (tCallX a (.ref C) (some d) (spx_law_classes K) C8.E0 (tCons (tVar 1) tNil)) tNil))))) D σ H := by
  refine u_ret (u_tup (u_cons (u_c (u_cons (u_xf (u_var hσ ⟨rfl, rfl, d, _, y, rfl, hd, by simp [List.lookup], ?_⟩))))))
  refine u_cons (u_callX (u_cons (u_var hσ (u_nil ⟨rfl, C, d, rfl, rfl, rfl, hC, ⟨_, hd⟩, fun H1 e1 => ?_⟩))))
  refine u_nil ⟨szOf (by show 3 ≤ _; decide), fun q hq => k q _ (e1.up hq) upd_same⟩
theorem pu_law_refusal (K : PySem.W.Frag) (A : KitA K) (vs : List V) (H : Hp) (Q : VK) (E : XK) (h : sp_law_refusal K vs H Q E) : t_law_refusal K { nx := fun _ H' => Q .non H', rt := Q } (start N_law_refusal vs) H := by
  obtain ⟨p, s, r, b, l, t, tb, x, y, rfl, hp, ls, lr, tin, due, k⟩ := h
  unfold t_law_refusal
  refine u_seq ?_
  refine u_drop (u_makeS ?_)
  walk_at "rd"
  refine u_ixL (sql hp) (at_i (n := 0) rfl rfl) ?_
  walk_at "rd"
  refine u_ixL (sql hp) (at_i (n := 1) rfl rfl) ?_
  walk_at "rd"
  refine u_ixL (sql hp) (at_i (n := 4) rfl rfl) ?_
  walk_at "rd"
  refine u_ixL (sql hp) (at_i (n := 3) rfl rfl) ?_
  walk_at "rd"
  refine u_ixL (sql hp) (at_i (n := 2) rfl rfl) ?_
  walk_at "rd"
  intro z dz hz hdz ne
  have e : Ex H (upd (upd H dz (.own z)) z (.ins (gW K) dz [])) := (Ex.new hdz).up (by rw [upd_ne (Ne.symm ne)]; exact hz)
  have gd : GoodSg s r → GoodTb s.length r.length tb → False := fun G T => by
    cases due with
    | steps h => rw [G.s] at h; cases h
    | roots h h2 => rw [G.r] at h2; cases h2
    | marked _ h => exact T.marked h
    | moves _ _ h => exact T.moves h
    | starts _ _ _ h => exact T.starts h
  refine ⟨z, dz, s, r, b, l, t, tb, rfl, upd_same, ls, lr, tin.ex e, fun G T => (gd G T).elim, fun G => ?_, fun c d H' e2 hd => ?_, fun c c2 d H' e2 hd => ?_, fun G c d H' e2 hd => ?_, fun G c c2 d H' e2 hd => ?_, fun G c c2 c3 d H' e2 hd => ?_⟩
  · cases due with
    | steps h => rw [G.s] at h; cases h
    | roots h h2 => rw [G.r] at h2; cases h2
    | marked _ h => exact Or.inr (Or.inl h)
    | moves _ _ h => exact Or.inr (Or.inr (Or.inl h))
    | starts _ _ _ h => exact Or.inr (Or.inr (Or.inr h))
  · have due2 : x = "steps" ∧ y = sv s := by
      cases due with
      | steps h => exact ⟨rfl, rfl⟩
      | roots h h2 => rw [c] at h; cases h
      | marked G h => rw [G.s] at c; cases c
      | moves G _ h => rw [G.s] at c; cases c
      | starts G _ _ h => rw [G.s] at c; cases c
    obtain ⟨rfl, rfl⟩ := due2
    exact ⟨true, A.ss, fun _ a ha => suite_ok (Or.inl rfl) rfl hd fun q H2 e3 hq => k q H2 ((e.trans e2).trans e3) hq, fun z => (by cases z)⟩
  · have due2 : x = "roots" ∧ y = sv r := by
      cases due with
      | steps h => rw [c] at h; cases h
      | roots h h2 => exact ⟨rfl, rfl⟩
      | marked G h => rw [G.r] at c2; cases c2
      | moves G _ h => rw [G.r] at c2; cases c2
      | starts G _ _ h => rw [G.r] at c2; cases c2
    obtain ⟨rfl, rfl⟩ := due2
    exact ⟨false, A.rs, fun z => (by cases z), fun _ => ⟨true, A.rr, fun _ a ha => suite_ok (Or.inr (Or.inl rfl)) rfl hd fun q H2 e3 hq => k q H2 ((e.trans e2).trans e3) hq, fun z => (by cases z)⟩⟩
  · have due2 : x = "world" ∧ y = .str "marked" := by
      cases due with
      | steps h => rw [G.s] at h; cases h
      | roots h h2 => rw [G.r] at h2; cases h2
      | marked G h => exact ⟨rfl, rfl⟩
      | moves G h _ => exact absurd c h
      | starts G h _ _ => exact absurd c h
    obtain ⟨rfl, rfl⟩ := due2
    exact ⟨false, A.ws, fun z => (by cases z), fun _ => ⟨false, A.wr, fun z => (by cases z), fun _ => ⟨true, A.ww, fun _ a ha => suite_ok (Or.inr (Or.inr rfl)) rfl hd fun q H2 e3 hq => k q H2 ((e.trans e2).trans e3) hq, fun z => (by cases z)⟩⟩⟩
  · have due2 : x = "world" ∧ y = .str "moves" := by
      cases due with
      | steps h => rw [G.s] at h; cases h
      | roots h h2 => rw [G.r] at h2; cases h2
      | marked G h => exact absurd h c
      | moves G h _ => exact ⟨rfl, rfl⟩
      | starts G h h2 _ => exact absurd c2 h2
    obtain ⟨rfl, rfl⟩ := due2
    exact ⟨false, A.ws, fun z => (by cases z), fun _ => ⟨false, A.wr, fun z => (by cases z), fun _ => ⟨true, A.ww, fun _ a ha => suite_ok (Or.inr (Or.inr rfl)) rfl hd fun q H2 e3 hq => k q H2 ((e.trans e2).trans e3) hq, fun z => (by cases z)⟩⟩⟩
  · have due2 : x = "world" ∧ y = .str "starts" := by
      cases due with
      | steps h => rw [G.s] at h; cases h
      | roots h h2 => rw [G.r] at h2; cases h2
      | marked G h => exact absurd h c
      | moves G h h2 => exact absurd h2 c2
      | starts G h h2 _ => exact ⟨rfl, rfl⟩
    obtain ⟨rfl, rfl⟩ := due2
    exact ⟨false, A.ws, fun z => (by cases z), fun _ => ⟨false, A.wr, fun z => (by cases z), fun _ => ⟨true, A.ww, fun _ a ha => suite_ok (Or.inr (Or.inr rfl)) rfl hd fun q H2 e3 hq => k q H2 ((e.trans e2).trans e3) hq, fun z => (by cases z)⟩⟩⟩

end K39
set_option Elab.async false
set_option linter.all false
set_option maxRecDepth 100000
set_option maxHeartbeats 2000000
namespace K39
open PySem L2 Uni
local macro_rules | `(tactic| walk_at "rd") => `(tactic| (repeat (first
  | (with_reducible refine u_var (by with_unfolding_all exact rfl) ?_) | (with_reducible refine u_seq ?_) | (with_reducible refine u_asg ?_) | (with_reducible refine u_gname ?_) | (with_reducible refine u_drop ?_) | (with_reducible refine u_ret ?_) | (with_reducible refine u_retN ?_) | (with_reducible refine u_next ?_) | (with_reducible refine u_break ?_) | (with_reducible refine u_cont ?_) | (with_reducible refine u_if ?_) | (with_reducible refine u_c ?_) | (with_reducible refine u_op ?_) | (with_reducible refine u_un ?_) | (with_reducible refine u_test ?_) | (with_reducible refine u_tb ?_) | (with_reducible refine u_bl ?_) | (with_reducible refine u_not ?_) | (with_reducible refine u_and ?_) | (with_reducible refine u_or ?_) | (with_reducible refine u_chain ?_) | (with_reducible refine u_ifE ?_) | (with_reducible refine u_andV ?_) | (with_reducible refine u_orV ?_) | (with_reducible refine u_notV ?_) | (with_reducible refine u_blE ?_) | (with_reducible refine u_nil ?_) | (with_reducible refine u_cons ?_) | (with_reducible refine u_tup ?_) | (with_reducible refine u_lst ?_) | (with_reducible refine u_cb ?_) | (with_reducible refine u_call ?_) | (with_reducible refine u_bm ?_) | (with_reducible refine u_bm0 ?_) | (with_reducible refine u_m1 ?_) | (with_reducible refine u_sl ?_) | (with_reducible refine u_nopart ?_) | (with_reducible refine u_part ?_) | (with_reducible refine u_int ?_) | (with_reducible refine u_yes ?_) | (with_reducible refine u_add ?_) | (with_reducible refine u_sub ?_) | (with_reducible refine u_neg ?_) | (with_reducible refine u_le ?_) | (with_reducible refine u_gt ?_) | (with_reducible refine u_ge ?_) | (with_reducible refine u_lt ?_) | (with_reducible refine u_ltS ?_) | (with_reducible refine u_eqI ?_) | (with_reducible refine u_neI ?_) | (with_reducible refine u_eqS ?_) | (with_reducible refine u_neS ?_) | (with_reducible refine u_eqB ?_) | (with_reducible refine u_neB ?_) | (with_reducible refine u_inS ?_) | (with_reducible refine u_ninS ?_) | (with_reducible refine u_intI ?_) | (with_reducible refine u_intB ?_) | (with_reducible refine u_for ?_) | (with_reducible refine u_iR1 ?_) | (with_reducible refine u_iR2 ?_) | (with_reducible refine u_uni ?_) | (with_reducible refine u_lc ?_)
  | (with_reducible refine iteT ?_) | (with_reducible refine iteF ?_) | (with_reducible refine iteNT ?_) | (with_reducible refine iteNF ?_))))
theorem lit_wsteps : ("xA0 \n`{X-" : PySem.Str) = S [120, 65, 48, 32, 10, 96, 123, 88, 45] := by decide +kernel
theorem lit_wroots : ("a/: \nxP-~" : PySem.Str) = S [97, 47, 58, 32, 10, 120, 80, 45, 126] := by decide +kernel
theorem same_str {H : Hp} (x : PySem.Str) : Same H (.str x) (.str x) 1 := by
  have e : x = S x.cps.toList := S_of x
  rw [e]
  exact .str _
theorem same_out {H : Hp} {q T : Addr} {x y : PySem.Str} (h1 : H q = some (.tup [.str x, .str y, .bl true])) (h2 : H T = some (.tup [.str x, .str y, .bl true])) : Same H (.ref q) (.ref T) 4 := by
  refine .tup [1, 1, 1] h1 h2 rfl rfl fun i a b n g1 g2 g3 => ?_
  match i with
  | 0 => cases g1; cases g2; cases g3; exact same_str x
  | 1 => cases g1; cases g2; cases g3; exact same_str y
  | 2 => cases g1; cases g2; cases g3; exact .bl true
  | i + 3 => simp at g1
theorem badW_signs {al w : List Nat} {kind : Int} (h : BadW al kind w) : okSigns w al = false ∧ w.length ≤ 1000 := by
  obtain ⟨l, h⟩ := h
  refine ⟨decide_eq_false fun z => ?_, by omega⟩
  rcases h with ⟨_, h⟩ | ⟨_, h⟩ | ⟨_, _, h | ⟨c, hc, h⟩⟩
  · rw [h] at z
    exact absurd z.1 (by decide)
  · have := z.2.1
    omega
  · exact h z.2.2.2
  · exact h (z.2.2.1 c hc)
/-- right and wrong things, at H -/
structure Sit (H : Hp) (s r : List Nat) (tb : Tb) (w1 w2 : List Nat) (wt : List (List Nat)) (wl : List (List Int)) (wb : List Int) (b l t b' l' t' : V) : Prop where
  G : GoodSg s r
  T : GoodTb s.length r.length tb
  x1 : okSigns w1 STEPSL = false ∧ w1.length ≤ 1000
  x2 : okSigns w2 ROOTSL = false ∧ w2.length ≤ 1000
  x3 : (wt = [] ∨ ∃ w ∈ wt, okMarks w = false) ∧ wt.length ≤ 1000 ∧ ∀ w ∈ wt, w.length ≤ 1000
  x4 : (wl.length ≠ tb.texts.length ∨ ∃ l ∈ wl, okStates l s.length tb.texts.length = false) ∧ wl.length ≤ 1000
  x5 : okStates wb r.length tb.texts.length = false
  hb : SeqI true H b tb.begins
  hl : SeqII true true H l tb.lines
  ht : SeqS true H t tb.texts
  hb' : SeqI false H b' wb
  hl' : SeqII false false H l' wl
  ht' : SeqS true H t' wt
theorem Sit.ex {H H' : Hp} {s r : List Nat} {tb : Tb} {w1 w2 : List Nat} {wt : List (List Nat)} {wl : List (List Int)} {wb : List Int} {b l t b' l' t' : V} (e : Ex H H') (z : Sit H s r tb w1 w2 wt wl wb b l t b' l' t') : Sit H' s r tb w1 w2 wt wl wb b l t b' l' t' :=
  ⟨z.G, z.T, z.x1, z.x2, z.x3, z.x4, z.x5, z.hb.ex e, z.hl.ex e, z.ht.ex e, z.hb'.ex e, z.hl'.ex e, z.ht'.ex e⟩
def pick {α : Type} (f : Bool) (w x : α) : α := if f then w else x
def tbOf (f2 f3 f4 : Bool) (tb : Tb) (wt : List (List Nat)) (wl : List (List Int)) (wb : List Int) : Tb := ⟨pick f4 wb tb.begins, pick f3 wl tb.lines, pick f2 wt tb.texts⟩
theorem Sit.tab {H : Hp} {s r : List Nat} {tb : Tb} {w1 w2 : List Nat} {wt : List (List Nat)} {wl : List (List Int)} {wb : List Int} {b l t b' l' t' : V} (z : Sit H s r tb w1 w2 wt wl wb b l t b' l' t') (f2 f3 f4 : Bool) :
    TabIn H (pick f4 b' b) (pick f3 l' l) (pick f2 t' t) (tbOf f2 f3 f4 tb wt wl wb) := by
  have few := z.T.few
  have ll := z.T.llen
  refine ⟨?_, ?_, ?_, ⟨?_, ?_⟩, ?_⟩
  · cases f4
    · exact ⟨true, z.hb⟩
    · exact ⟨false, z.hb'⟩
  · cases f3
    · obtain ⟨a, xs, e1, e2, e3, e4⟩ := z.hl
      exact ⟨true, a, xs, e1, e2, e3, fun i x row h1 h2 => ⟨true, e4 i x row h1 h2⟩⟩
    · obtain ⟨a, xs, e1, e2, e3, e4⟩ := z.hl'
      exact ⟨false, a, xs, e1, e2, e3, fun i x row h1 h2 => ⟨false, e4 i x row h1 h2⟩⟩
  · cases f2
    · exact ⟨true, z.ht⟩
    · exact ⟨true, z.ht'⟩
  · cases f2
    · show tb.texts.length ≤ 1000; omega
    · exact z.x3.2.1
  · cases f3
    · show tb.lines.length ≤ 1000; omega
    · exact z.x4.2
  · cases f2
    · exact fun x hx => by have := z.T.short x hx; omega
    · exact z.x3.2.2
/-- the call -/
theorem ref_at {K : PySem.W.Frag} {H : Hp} {Q : VK} {E : XK} {s r : List Nat} {tb : Tb} {w1 w2 : List Nat} {wt : List (List Nat)} {wl : List (List Int)} {wb : List Int} {b l t b' l' t' : V} (z : Sit H s r tb w1 w2 wt wl wb b l t b' l' t') {p : Addr} (f0 f1 f2 f3 f4 : Bool) {x : PySem.Str} {y : V}
    (hp : H p = some (.lst [sv (pick f0 w1 s), sv (pick f1 w2 r), pick f2 t' t, pick f3 l' l, pick f4 b' b])) (due : Due (pick f0 w1 s) (pick f1 w2 r) (tbOf f2 f3 f4 tb wt wl wb) x y) (k : ∀ (q : Addr) (H' : Hp), Ex H H' → H' q = some (.tup [.str x, y, .bl true]) → Q (.ref q) H') :
    sp_law_refusal K [.ref p] H Q E := by
  have sl := z.G.sl
  refine ⟨p, _, _, _, _, _, _, x, y, rfl, hp, ?_, ?_, z.tab f2 f3 f4, due, k⟩
  · cases f0
    · show s.length ≤ 1000; omega
    · exact z.x1.2
  · cases f1
    · show r.length ≤ 1000; omega
    · exact z.x2.2
theorem Sit.due {H : Hp} {s r : List Nat} {tb : Tb} {w1 w2 : List Nat} {wt : List (List Nat)} {wl : List (List Int)} {wb : List Int} {b l t b' l' t' : V} (z : Sit H s r tb w1 w2 wt wl wb b l t b' l' t') :
    (∀ f1 f2 f3 f4, Due (pick true w1 s) (pick f1 w2 r) (tbOf f2 f3 f4 tb wt wl wb) "steps" (sv w1)) ∧ (∀ f2 f3 f4, Due (pick false w1 s) (pick true w2 r) (tbOf f2 f3 f4 tb wt wl wb) "roots" (sv w2)) ∧
    (∀ f3 f4, Due (pick false w1 s) (pick false w2 r) (tbOf true f3 f4 tb wt wl wb) "world" (.str "marked")) ∧ (∀ f4, Due (pick false w1 s) (pick false w2 r) (tbOf false true f4 tb wt wl wb) "world" (.str "moves")) ∧
    Due (pick false w1 s) (pick false w2 r) (tbOf false false true tb wt wl wb) "world" (.str "starts") :=
  ⟨fun _ _ _ _ => .steps z.x1.1, fun _ _ _ => .roots z.G.s z.x2.1, fun _ _ => .marked z.G z.x3.1, fun _ => .moves z.G z.T.marked z.x4.1, .starts z.G z.T.marked z.T.moves z.x5⟩
def duesV (w1 w2 : List Nat) : List (PySem.Str × PySem.Str) := [("steps", S w1), ("roots", S w2), ("world", "marked"), ("world", "moves"), ("world", "starts")]
theorem args_ok {H : Hp} {s r : List Nat} {tb : Tb} {w1 w2 : List Nat} {wt : List (List Nat)} {wl : List (List Int)} {wb : List Int} {b l t b' l' t' : V} (z : Sit H s r tb w1 w2 wt wl wb b l t b' l' t') {i j : Nat} {wi wj : V} (hij : i ≤ j) (hj : j < 5)
    (h1 : ([sv w1, sv w2, t', l', b'] : List V)[i]? = some wi) (h2 : ([sv w1, sv w2, t', l', b'] : List V)[j]? = some wj) :
    ∃ (f0 f1 f2 f3 f4 : Bool) (x y : PySem.Str), (duesV w1 w2)[i]? = some (x, y) ∧ (([sv s, sv r, t, l, b] : List V).set i wi).set j wj = [sv (pick f0 w1 s), sv (pick f1 w2 r), pick f2 t' t, pick f3 l' l, pick f4 b' b] ∧ Due (pick f0 w1 s) (pick f1 w2 r) (tbOf f2 f3 f4 tb wt wl wb) x (.str y) := by
  obtain ⟨d0, d1, d2, d3, d4⟩ := z.due
  match i, j, hij, hj, h1, h2 with
  | 0, 0, _, _, h1, h2 => cases h1; cases h2; exact ⟨true, false, false, false, false, _, _, rfl, rfl, d0 _ _ _ _⟩
  | 0, 1, _, _, h1, h2 => cases h1; cases h2; exact ⟨true, true, false, false, false, _, _, rfl, rfl, d0 _ _ _ _⟩
  | 0, 2, _, _, h1, h2 => cases h1; cases h2; exact ⟨true, false, true, false, false, _, _, rfl, rfl, d0 _ _ _ _⟩
  | 0, 3, _, _, h1, h2 => cases h1; cases h2; exact ⟨true, false, false, true, false, _, _, rfl, rfl, d0 _ _ _ _⟩
  | 0, 4, _, _, h1, h2 => cases h1; cases h2; exact ⟨true, false, false, false, true, _, _, rfl, rfl, d0 _ _ _ _⟩
  | 1, 1, _, _, h1, h2 => cases h1; cases h2; exact ⟨false, true, false, false, false, _, _, rfl, rfl, d1 _ _ _⟩
  | 1, 2, _, _, h1, h2 => cases h1; cases h2; exact ⟨false, true, true, false, false, _, _, rfl, rfl, d1 _ _ _⟩
  | 1, 3, _, _, h1, h2 => cases h1; cases h2; exact ⟨false, true, false, true, false, _, _, rfl, rfl, d1 _ _ _⟩
  | 1, 4, _, _, h1, h2 => cases h1; cases h2; exact ⟨false, true, false, false, true, _, _, rfl, rfl, d1 _ _ _⟩
  | 2, 2, _, _, h1, h2 => cases h1; cases h2; exact ⟨false, false, true, false, false, _, _, rfl, rfl, d2 _ _⟩
  | 2, 3, _, _, h1, h2 => cases h1; cases h2; exact ⟨false, false, true, true, false, _, _, rfl, rfl, d2 _ _⟩
  | 2, 4, _, _, h1, h2 => cases h1; cases h2; exact ⟨false, false, true, false, true, _, _, rfl, rfl, d2 _ _⟩
  | 3, 3, _, _, h1, h2 => cases h1; cases h2; exact ⟨false, false, false, true, false, _, _, rfl, rfl, d3 _⟩
  | 3, 4, _, _, h1, h2 => cases h1; cases h2; exact ⟨false, false, false, true, true, _, _, rfl, rfl, d3 _⟩
  | 4, 4, _, _, h1, h2 => cases h1; cases h2; exact ⟨false, false, false, false, true, _, _, rfl, rfl, d4⟩
  | i + 1, 0, h, _, _, _ => omega
  | i + 2, 1, h, _, _, _ => omega
  | i + 3, 2, h, _, _, _ => omega
  | i + 4, 3, h, _, _, _ => omega
  | i + 5, 4, h, _, _, _ => omega
  | i, j + 5, _, h, _, _ => omega
theorem pu_law_refusals (K : PySem.W.Frag) (vs : List V) (H : Hp) (Q : VK) (E : XK) (h : sp_law_refusals K vs H Q E) : t_law_refusals K { nx := fun _ H' => Q .non H', rt := Q } (start N_law_refusals vs) H := by
  obtain ⟨due, q, ds, s, r, tb, rfl, ⟨u, b, l, t, rfl, hu, hb, hl, ht⟩, G, T, sm, ⟨hq, hlen, hd⟩, k⟩ := h
  have sl := G.sl
  have few := T.few
  obtain ⟨o1, o2, o3, o4⟩ := of_decide_eq_true G.s
  obtain ⟨q1, q2, q3, q4⟩ := of_decide_eq_true G.r
  obtain ⟨d0, a0, b0, c0⟩ := dig hlen hd 0 rfl
  obtain ⟨d1, a1, b1, c1⟩ := dig hlen hd 1 rfl
  obtain ⟨d2, a2, b2, c2⟩ := dig hlen hd 2 rfl
  obtain ⟨d3, a3, b3, c3⟩ := dig hlen hd 3 rfl
  obtain ⟨d4, a4, b4, c4⟩ := dig hlen hd 4 rfl
  obtain ⟨d5, a5, b5, c5⟩ := dig hlen hd 5 rfl
  obtain ⟨d6, a6, b6, c6⟩ := dig hlen hd 6 rfl
  obtain ⟨d7, a7, b7, c7⟩ := dig hlen hd 7 rfl
  obtain ⟨d8, a8, b8, c8⟩ := dig hlen hd 8 rfl
  obtain ⟨d9, a9, b9, c9⟩ := dig hlen hd 9 rfl
  obtain ⟨d10, a10, b10, c10⟩ := dig hlen hd 10 rfl
  obtain ⟨t0, rfl, ht0⟩ := ht
  unfold t_law_refusals
  rw [lit_steps, lit_roots, lit_wsteps, lit_wroots]
  walk_at "rd"
  refine u_ixT (sqt hu) (at_i (n := 4) rfl rfl) ?_
  walk_at "rd"
  refine u_lenT (sqt ht0) ?_
  rw [List.length_map]
  walk_at "rd"
  refine u_ixT (sqt hu) (at_i (n := 0) rfl rfl) ?_
  walk_at "rd"
  refine u_ixT (sqt hu) (at_i (n := 1) rfl rfl) ?_
  walk_at "rd"
  refine u_ixT (sqt hu) (at_i (n := 4) rfl rfl) ?_
  walk_at "rd"
  refine u_ixT (sqt hu) (at_i (n := 3) rfl rfl) ?_
  walk_at "rd"
  refine u_ixT (sqt hu) (at_i (n := 2) rfl rfl) ?_
  walk_at "rd"
  refine ⟨szOf (by show 5 ≤ _; decide), fun pr hpr => ?_⟩
  have e1 := Ex.new (o := .lst [sv s, sv r, .ref t0, l, b]) hpr
  have gr : upd H pr (.lst [sv s, sv r, .ref t0, l, b]) pr = some (.lst [sv s, sv r, .ref t0, l, b]) := upd_same
  generalize upd H pr (.lst [sv s, sv r, .ref t0, l, b]) = H1 at e1 gr
  walk_at "rd"
  refine u_ixT (sqt (e1 _ _ hu)) (at_i (n := 0) rfl rfl) ?_
  walk_at "rd"
  refine u_ixL (sql (e1 _ _ hq)) (at_i (n := 0) rfl (mapm a0)) ?_
  walk_at "rd"
  refine u_ixL (sql (e1 _ _ hq)) (at_i (n := 1) rfl (mapm a1)) ?_
  walk_at "rd"
  refine ⟨s, STEPSL, [120, 65, 48, 32, 10, 96, 123, 88, 45], d0, d1, rfl, fun z => by rw [z] at o1; exact absurd o1 (by decide), by omega, o4, o3, by decide, by decide, by decide, by decide, by decide, by decide, b1, by omega, fun w1 H2 e2 bw1 => ?_⟩
  have e02 := e1.trans e2
  walk_at "rd"
  refine u_ixT (sqt (e02 _ _ hu)) (at_i (n := 1) rfl rfl) ?_
  walk_at "rd"
  refine u_ixL (sql (e02 _ _ hq)) (at_i (n := 2) rfl (mapm a2)) ?_
  walk_at "rd"
  refine u_ixL (sql (e02 _ _ hq)) (at_i (n := 3) rfl (mapm a3)) ?_
  walk_at "rd"
  refine ⟨r, ROOTSL, [97, 47, 58, 32, 10, 120, 80, 45, 126], d2, d3, rfl, fun z => by rw [z] at q1; exact absurd q1 (by decide), by omega, q4, q3, by decide, by decide, by decide, by decide, by decide, by decide, b3, by omega, fun w2 H3 e3 bw2 => ?_⟩
  have e03 := e02.trans e3
  walk_at "rd"
  refine u_ixT (sqt (e03 _ _ hu)) (at_i (n := 4) rfl rfl) ?_
  walk_at "rd"
  refine u_ixL (sql (e03 _ _ hq)) (at_i (n := 4) rfl (mapm a4)) ?_
  walk_at "rd"
  refine u_ixL (sql (e03 _ _ hq)) (at_i (n := 5) rfl (mapm a5)) ?_
  walk_at "rd"
  refine u_ixL (sql (e03 _ _ hq)) (at_i (n := 6) rfl (mapm a6)) ?_
  walk_at "rd"
  refine ⟨.ref t0, tb, d4, d5, d6, rfl, ⟨t0, rfl, e03 _ _ ht0⟩, T.marked, sm, few, b4, by omega, b5, b6, by omega, fun t' wt H4 e4 ht' bt lt1 lt2 => ?_⟩
  have e04 := e03.trans e4
  walk_at "rd"
  refine u_ixT (sqt (e04 _ _ hu)) (at_i (n := 3) rfl rfl) ?_
  walk_at "rd"
  refine u_ixL (sql (e04 _ _ hq)) (at_i (n := 7) rfl (mapm a7)) ?_
  walk_at "rd"
  refine u_ixL (sql (e04 _ _ hq)) (at_i (n := 5) rfl (mapm a5)) ?_
  walk_at "rd"
  refine u_ixL (sql (e04 _ _ hq)) (at_i (n := 8) rfl (mapm a8)) ?_
  walk_at "rd"
  refine ⟨l, s.length, r.length, tb, d7, d5, d8, rfl, hl.ex e04, by omega, by omega, T, b7, by omega, b5, b8, by omega, fun l' wl H5 e5 hl' bl' ll1 => ?_⟩
  have e05 := e04.trans e5
  walk_at "rd"
  refine u_ixT (sqt (e05 _ _ hu)) (at_i (n := 2) rfl rfl) ?_
  walk_at "rd"
  refine u_ixL (sql (e05 _ _ hq)) (at_i (n := 9) rfl (mapm a9)) ?_
  walk_at "rd"
  refine u_ixL (sql (e05 _ _ hq)) (at_i (n := 10) rfl (mapm a10)) ?_
  walk_at "rd"
  refine ⟨b, s.length, r.length, tb, d9, d10, rfl, hb.ex e05, by omega, T, by omega, b9, by omega, b10, fun b' wb H6 e6 hb' bb => ?_⟩
  have e06 := e05.trans e6
  have Z6 : Sit H6 s r tb w1 w2 wt wl wb b l (.ref t0) b' l' t' := ⟨G, T, badW_signs bw1, badW_signs bw2, ⟨bt, lt1, lt2⟩, ⟨bl', ll1⟩, bb, hb.ex e06, hl.ex e06, ⟨t0, rfl, e06 _ _ ht0⟩, hb', hl'.ex e6, (ht'.ex e5).ex e6⟩
  have gr6 := ((((e2.trans e3).trans e4).trans e5).trans e6) _ _ gr
  clear bw1 bw2 bt lt1 lt2 bl' ll1 bb hb hl hb' hl' ht' e02 e03 e04 e05 e1 e2 e3 e4 e5 e6 gr hpr ht0
  walk_at "rd"
  refine ⟨szOf (by show 5 ≤ _; decide), fun pw hpw => ?_⟩
  have e7 := Ex.new (o := .lst [sv w1, sv w2, t', l', b']) hpw
  have gw : upd H6 pw (.lst [sv w1, sv w2, t', l', b']) pw = some (.lst [sv w1, sv w2, t', l', b']) := upd_same
  generalize upd H6 pw (.lst [sv w1, sv w2, t', l', b']) = H7 at e7 gw
  walk_at "rd"
  refine ⟨szOf (by show 3 ≤ _; decide), fun T0 hT0 => ?_⟩
  have n0 := New.mk (o := .tup [.str "steps", sv w1, .bl true]) hT0
  generalize upd H7 T0 (.tup [.str "steps", sv w1, .bl true]) = H8 at n0
  walk_at "rd"
  refine ⟨szOf (by show 3 ≤ _; decide), fun T1 hT1 => ?_⟩
  have n1 := New.mk (o := .tup [.str "roots", sv w2, .bl true]) hT1
  generalize upd H8 T1 (.tup [.str "roots", sv w2, .bl true]) = H9 at n1
  walk_at "rd"
  refine ⟨szOf (by show 3 ≤ _; decide), fun T2 hT2 => ?_⟩
  have n2 := New.mk (o := .tup [.str "world", .str "marked", .bl true]) hT2
  generalize upd H9 T2 (.tup [.str "world", .str "marked", .bl true]) = H10 at n2
  walk_at "rd"
  refine ⟨szOf (by show 3 ≤ _; decide), fun pd hpd => ?_⟩
  have n3 := New.mk (o := .lst [.ref T0, .ref T1, .ref T2]) hpd
  generalize upd H10 pd (.lst [.ref T0, .ref T1, .ref T2]) = H11 at n3
  walk_at "rd"
  refine ⟨szOf (by show 3 ≤ _; decide), fun T3 hT3 => ?_⟩
  have n4 := New.mk (o := .tup [.str "world", .str "moves", .bl true]) hT3
  generalize upd H11 T3 (.tup [.str "world", .str "moves", .bl true]) = H12 at n4
  walk_at "rd"
  refine ⟨szOf (by show 3 ≤ _; decide), fun T4 hT4 => ?_⟩
  have n5 := New.mk (o := .tup [.str "world", .str "starts", .bl true]) hT4
  generalize upd H12 T4 (.tup [.str "world", .str "starts", .bl true]) = H13 at n5
  walk_at "rd"
  refine ⟨szOf (by show 2 ≤ _; decide), fun pe hpe => ?_⟩
  have n6 := New.mk (o := .lst [.ref T3, .ref T4]) hpe
  generalize upd H13 pe (.lst [.ref T3, .ref T4]) = H14 at n6
  refine n_addL (n6.2.1 _ _ (n5.2.1 _ _ (n4.2.1 _ _ n3.2.2.1))) n6.2.2.1 (szOf (by show 3 + 2 ≤ _; decide)) fun pf H15 n7 => ?_
  have gf : H15 pf = some (.lst [.ref T0, .ref T1, .ref T2, .ref T3, .ref T4]) := n7.2.2.1
  have dv : ∀ (i : Nat) (x y : PySem.Str), (duesV w1 w2)[i]? = some (x, y) → ∃ T, ([.ref T0, .ref T1, .ref T2, .ref T3, .ref T4] : List V)[i]? = some (.ref T) ∧ H15 T = some (.tup [.str x, .str y, .bl true]) := fun i x y h => by
    match i, h with
    | 0, h => cases h; exact ⟨T0, rfl, n7.2.1 _ _ (n6.2.1 _ _ (n5.2.1 _ _ (n4.2.1 _ _ (n3.2.1 _ _ (n2.2.1 _ _ (n1.2.1 _ _ n0.2.2.1))))))⟩
    | 1, h => cases h; exact ⟨T1, rfl, n7.2.1 _ _ (n6.2.1 _ _ (n5.2.1 _ _ (n4.2.1 _ _ (n3.2.1 _ _ (n2.2.1 _ _ n1.2.2.1)))))⟩
    | 2, h => cases h; exact ⟨T2, rfl, n7.2.1 _ _ (n6.2.1 _ _ (n5.2.1 _ _ (n4.2.1 _ _ (n3.2.1 _ _ n2.2.2.1))))⟩
    | 3, h => cases h; exact ⟨T3, rfl, n7.2.1 _ _ (n6.2.1 _ _ (n5.2.1 _ _ n4.2.2.1))⟩
    | 4, h => cases h; exact ⟨T4, rfl, n7.2.1 _ _ (n6.2.1 _ _ n5.2.2.1)⟩
    | i + 5, h => simp [duesV] at h
  have e715 : Ex H7 H15 := ((((((n0.2.1.trans n1.2.1).trans n2.2.1).trans n3.2.1).trans n4.2.1).trans n5.2.1).trans n6.2.1).trans n7.2.1
  have Z := (Z6.ex e7).ex e715
  have gr15 := e715 _ _ (e7 _ _ gr6)
  have gw15 := e715 _ _ gw
  have e015 := (e06.trans e7).trans e715
  clear Z6 gr6 gw e715 n0 n1 n2 n3 n4 n5 n6 n7 e7 e06
  walk_at "rd"
  refine ⟨_, rfl, by decide, by decide, ?_⟩
  refine for_r0 (n := 5) (by decide) (fun i σ H' => ∃ o10 o11 o12, σ = [some (.ref u), some (.ref q), some (.int tb.texts.length), some (.ref pr), some (sv w1), some (sv w2), some t', some l', some (.ref pw), some (.ref pf), o10, o11, o12] ∧ Ex H15 H') ⟨_, _, _, rfl, Ex.refl _⟩ ?_ ?_
  · rintro i σ H' hi ⟨o10, o11, o12, rfl, e⟩
    walk_at "rd"
    refine ⟨_, _, rfl, ⟨by omega, by omega, by omega, by omega⟩, ?_⟩
    refine for_range (n := ((5 : Int) - (i : Int)).toNat) (fun j σ H' => ∃ o11 o12, σ = [some (.ref u), some (.ref q), some (.int tb.texts.length), some (.ref pr), some (sv w1), some (sv w2), some t', some l', some (.ref pw), some (.ref pf), some (.int (i : Int)), o11, o12] ∧ Ex H15 H') ⟨_, _, rfl, e⟩ ?_ ?_
    · clear e
      rintro j σ H2 hj ⟨o11, o12, rfl, e⟩
      have ej : (i : Int) + (j : Int) = ((i + j : Nat) : Int) := by omega
      rw [ej]
      have hij : i + j < 5 := by omega
      have le : i ≤ i + j := Nat.le_add_right _ _
      generalize i + j = jj at hij le
      walk_at "rd"
      refine u_listL (sql (e _ _ gr15)) fun pa hpa => ?_
      have e2 := Ex.new (o := .lst [sv s, sv r, .ref t0, l, b]) hpa
      have pa0 : H15 pa = none := e.free hpa
      have h1 := List.getElem?_eq_getElem (l := ([sv w1, sv w2, t', l', b'] : List V)) (i := i) (by show i < 5; omega)
      have h2 := List.getElem?_eq_getElem (l := ([sv w1, sv w2, t', l', b'] : List V)) (i := jj) (by show jj < 5; omega)
      generalize ([sv w1, sv w2, t', l', b'] : List V)[i]'(by show i < 5; omega) = wi at h1
      generalize ([sv w1, sv w2, t', l', b'] : List V)[jj]'(by show jj < 5; omega) = wj at h2
      obtain ⟨f0, f1, f2, f3, f4, x, y, hx, hargs, due⟩ := args_ok Z le hij h1 h2
      walk_at "rd"
      refine u_ixL (sql (e2 _ _ (e _ _ gw15))) (at_i rfl h1) ?_
      refine u_gsub ?_
      walk_at "rd"
      refine u_setL (j := i) upd_same rfl (by show i < 5; omega) ?_
      have e3 : Ex H2 (upd (upd H2 pa (.lst [sv s, sv r, .ref t0, l, b])) pa (.lst (([sv s, sv r, .ref t0, l, b] : List V).set i wi))) := e2.mut hpa
      have g3 : upd (upd H2 pa (.lst [sv s, sv r, .ref t0, l, b])) pa (.lst (([sv s, sv r, .ref t0, l, b] : List V).set i wi)) pa = some (.lst (([sv s, sv r, .ref t0, l, b] : List V).set i wi)) := upd_same
      generalize upd (upd H2 pa (.lst [sv s, sv r, .ref t0, l, b])) pa (.lst (([sv s, sv r, .ref t0, l, b] : List V).set i wi)) = H3 at e3 g3
      walk_at "rd"
      refine u_ixL (sql (e3 _ _ (e _ _ gw15))) (at_i rfl h2) ?_
      refine u_gsub ?_
      walk_at "rd"
      refine u_setL (j := jj) g3 rfl (by rw [List.length_set]; show jj < 5; omega) ?_
      have e4 : Ex H2 (upd H3 pa (.lst ((([sv s, sv r, .ref t0, l, b] : List V).set i wi).set jj wj))) := e3.mut hpa
      have g4 : upd H3 pa (.lst ((([sv s, sv r, .ref t0, l, b] : List V).set i wi).set jj wj)) pa = some (.lst ((([sv s, sv r, .ref t0, l, b] : List V).set i wi).set jj wj)) := upd_same
      generalize upd H3 pa (.lst ((([sv s, sv r, .ref t0, l, b] : List V).set i wi).set jj wj)) = H4 at e4 g4
      rw [hargs] at g4
      have e154 := e.trans e4
      walk_at "rd"
      refine ref_at (Z.ex e154) f0 f1 f2 f3 f4 g4 due fun qq H5 e5 hqq => ?_
      obtain ⟨TT, hTT, gTT⟩ := dv i x y hx
      have e155 := e154.trans e5
      walk_at "rd"
      refine u_ixL (sql (e155 _ _ gf)) (at_i rfl hTT) ?_
      walk_at "rd"
      refine ⟨_, _, 4, rfl, same_out hqq (e155 _ _ gTT), by decide, fun H6 e6 => ?_⟩
      walk_at "rd"
      exact ⟨_, _, rfl, e155.trans e6⟩
    · rintro σ H2 ⟨o11, o12, rfl, e⟩
      exact ⟨_, _, _, rfl, e⟩
  · rintro σ H2 ⟨o10, o11, o12, rfl, e⟩
    walk_at "rd"
    refine ref_at (Z.ex e) true true true true true (e _ _ gw15) (Z.due.1 _ _ _ _) fun qq H5 e5 hqq => ?_
    obtain ⟨TT, hTT, gTT⟩ := dv 0 "steps" (S w1) rfl
    have e155 := e.trans e5
    walk_at "rd"
    refine u_ixL (sql (e155 _ _ gf)) (at_i (n := 0) rfl hTT) ?_
    walk_at "rd"
    exact ⟨_, _, 4, rfl, same_out hqq (e155 _ _ gTT), by decide, fun H6 e6 => k H6 ((e015.trans e155).trans e6)⟩

end K39
set_option Elab.async false
set_option linter.all false
set_option maxRecDepth 100000
set_option maxHeartbeats 2000000
namespace K39
open PySem L2 Uni
local macro_rules | `(tactic| walk_at "rd") => `(tactic| (repeat (first
  | (with_reducible refine u_var (by with_unfolding_all exact rfl) ?_) | (with_reducible refine u_seq ?_) | (with_reducible refine u_asg ?_) | (with_reducible refine u_gname ?_) | (with_reducible refine u_drop ?_) | (with_reducible refine u_ret ?_) | (with_reducible refine u_retN ?_) | (with_reducible refine u_next ?_) | (with_reducible refine u_break ?_) | (with_reducible refine u_cont ?_) | (with_reducible refine u_if ?_) | (with_reducible refine u_c ?_) | (with_reducible refine u_op ?_) | (with_reducible refine u_un ?_) | (with_reducible refine u_test ?_) | (with_reducible refine u_tb ?_) | (with_reducible refine u_bl ?_) | (with_reducible refine u_not ?_) | (with_reducible refine u_and ?_) | (with_reducible refine u_or ?_) | (with_reducible refine u_chain ?_) | (with_reducible refine u_ifE ?_) | (with_reducible refine u_andV ?_) | (with_reducible refine u_orV ?_) | (with_reducible refine u_notV ?_) | (with_reducible refine u_blE ?_) | (with_reducible refine u_nil ?_) | (with_reducible refine u_cons ?_) | (with_reducible refine u_tup ?_) | (with_reducible refine u_lst ?_) | (with_reducible refine u_cb ?_) | (with_reducible refine u_call ?_) | (with_reducible refine u_bm ?_) | (with_reducible refine u_bm0 ?_) | (with_reducible refine u_m1 ?_) | (with_reducible refine u_sl ?_) | (with_reducible refine u_nopart ?_) | (with_reducible refine u_part ?_) | (with_reducible refine u_int ?_) | (with_reducible refine u_yes ?_) | (with_reducible refine u_add ?_) | (with_reducible refine u_sub ?_) | (with_reducible refine u_neg ?_) | (with_reducible refine u_le ?_) | (with_reducible refine u_gt ?_) | (with_reducible refine u_ge ?_) | (with_reducible refine u_lt ?_) | (with_reducible refine u_ltS ?_) | (with_reducible refine u_eqI ?_) | (with_reducible refine u_neI ?_) | (with_reducible refine u_eqS ?_) | (with_reducible refine u_neS ?_) | (with_reducible refine u_eqB ?_) | (with_reducible refine u_neB ?_) | (with_reducible refine u_inS ?_) | (with_reducible refine u_ninS ?_) | (with_reducible refine u_intI ?_) | (with_reducible refine u_intB ?_) | (with_reducible refine u_for ?_) | (with_reducible refine u_iR1 ?_) | (with_reducible refine u_iR2 ?_) | (with_reducible refine u_uni ?_) | (with_reducible refine u_lc ?_)
  | (with_reducible refine iteT ?_) | (with_reducible refine iteF ?_) | (with_reducible refine iteNT ?_) | (with_reducible refine iteNF ?_))))
/-! ### the law -/
theorem lay_pk3 {x y z : PyData} (hx : x.canLay0 = true) (hy : y.canLay0 = true) (hz : z.canLay0 = true) : (pk false [x, y, z]).canLay0 = true :=
  pk_lay (by rw [PyData.canLayAll0, hx, PyData.canLayAll0, hy, PyData.canLayAll0, hz, PyData.canLayAll0] <;> rfl)
theorem dep_pk3 {x y z : PyData} (hx : x.depth ≤ 9) (hy : y.depth ≤ 9) (hz : z.depth ≤ 9) : (pk false [x, y, z]).depth ≤ 64 := by
  rw [pk_depth, PyData.depthAll, PyData.depthAll, PyData.depthAll, PyData.depthAll]
  omega
theorem u_neHand {K : PySem.W.Frag} {H : Hp} {Q : VK} {p q : Addr} {b l t b' l' t' : V} {k1 k2 j k3 : Bool} {tb : Tb} (o : ∀ t ∈ tb.texts, okMarks t = true)
    (hp : H p = some (.lst [b, l, t])) (hb : SeqI k1 H b tb.begins) (hl : SeqII k2 j H l tb.lines) (ht : SeqS k3 H t tb.texts)
    (hq : H q = some (.lst [b', l', t'])) (hb' : SeqI k1 H b' tb.begins) (hl' : SeqII k2 j H l' tb.lines) (ht' : SeqS k3 H t' tb.texts)
    (k : Q (.bl false) H) : uNe K (.ref p) (.ref q) H Q := by
  have y1 : (pR k1 tb.begins).canLay0 = true := lay_R _ _
  have y2 : (pk k2 (tb.lines.map (pR j))).canLay0 = true := pk_lay (canLay_map (pR j) fun x _ => lay_R j x)
  have y3 : (pk k3 (tb.texts.map pS)).canLay0 = true := pk_lay (canLay_map pS fun x hx => lay_S (of_decide_eq_true (o x hx)).1)
  have z1 : (pR k1 tb.begins).depth ≤ 9 := Nat.le_trans (dep_R _ _) (by decide)
  have z2 : (pk k2 (tb.lines.map (pR j))).depth ≤ 9 := by
    rw [pk_depth]
    have := depth_map (pR j) (n := 1) (xs := tb.lines) fun x _ => dep_R j x
    omega
  have z3 : (pk k3 (tb.texts.map pS)).depth ≤ 9 := by
    rw [pk_depth]
    have := depth_map pS (n := 0) (xs := tb.texts) fun x _ => by rw [dep_S]; exact Nat.le_refl _
    omega
  have y := lay_pk3 y1 y2 y3
  have z := dep_pk3 z1 z2 z3
  refine Or.inr ⟨_, _, dp_k (k := false) hp (.cons (dp_I hb) (.cons (dp_II hl) (.cons (dp_S ht) .nil))), dp_k (k := false) hq (.cons (dp_I hb') (.cons (dp_II hl') (.cons (dp_S ht') .nil))), shaped_of y z, shaped_of y z, ?_⟩
  rw [SeqAt.eqv_refl _ y]
  exact k
theorem KT.mutl {H H' : Hp} {a : Addr} {o : HO} {xs : List V} (e : KT H H') (h : H' a = some (.lst xs)) : KT H (L2.upd H' a o) := fun b u hb n => by
  have := e b u hb n
  rw [upd_ne]
  · exact this
  · intro z
    subst z
    rw [h] at this
    exact n xs (Option.some.inj this).symm
theorem Marks4.le {m : List Nat} (h : Marks4 m) : m.length ≤ 4 := by have := h.1; omega
theorem okT {ns nr : Nat} {tb : Tb} (T : GoodTb ns nr tb) : ∀ t ∈ tb.texts, okMarks t = true := fun t ht => by
  cases hz : okMarks t with
  | true => rfl
  | false => exact absurd (Or.inr ⟨t, ht, hz⟩) T.marked
theorem TabIn.hand {H : Hp} {ns nr : Nat} {b l t : V} {k1 k2 j k3 : Bool} {tb : Tb} (T : GoodTb ns nr tb) (hb : SeqI k1 H b tb.begins) (hl : SeqII k2 j H l tb.lines) (ht : SeqS k3 H t tb.texts) : TabIn H b l t tb :=
  ⟨⟨k1, hb⟩, let ⟨a, xs, e1, e2, e3, e4⟩ := hl; ⟨k2, a, xs, e1, e2, e3, fun i x row h1 h2 => ⟨j, e4 i x row h1 h2⟩⟩, ⟨k3, ht⟩, ⟨by have := T.few; omega, by have := T.few; have := T.llen; omega⟩, fun x hx => by have := T.short x hx; omega⟩
theorem hd_ne {H : Hp} {p q : Addr} {x : V} {xs ys : List V} (h1 : H p = some (.lst (x :: xs))) (h2 : H q = some (.lst ys)) (n : ∀ z, ys.head? = some z → z ≠ x) : p ≠ q := by
  intro e
  subst e
  rw [h1] at h2
  injection h2 with h2
  injection h2 with h2
  subst h2
  exact n x rfl rfl
theorem hd_int {ns : List Int} : ∀ z, (ns.map V.int).head? = some z → ∃ i, z = .int i := by
  intro z hz
  cases ns with
  | nil => cases hz
  | cons a r => cases hz; exact ⟨a, rfl⟩
structure Apart (q b l t x : Addr) : Prop where
  qb : q ≠ b
  qx : q ≠ x
  ql : q ≠ l
  lb : l ≠ b
  lx : l ≠ x
  qt : q ≠ t
  tb : t ≠ b
  tx : t ≠ x
  tl : t ≠ l
theorem apart {H : Hp} {q b l t x : Addr} {bs row : List Int} {xs ts : List V} {t0 : List Nat} (hq : H q = some (.lst [.ref b, .ref l, .ref t])) (hb : H b = some (.lst (bs.map V.int))) (hl : H l = some (.lst (.ref x :: xs)))
    (hx : H x = some (.lst (row.map V.int))) (ht : H t = some (.lst (sv t0 :: ts))) (nb : x ≠ b) : Apart q b l t x :=
  ⟨hd_ne hq hb (fun z hz => by obtain ⟨i, rfl⟩ := hd_int z hz; intro e; cases e), hd_ne hq hx (fun z hz => by obtain ⟨i, rfl⟩ := hd_int z hz; intro e; cases e), hd_ne hq hl (fun z hz => by cases hz; intro e; cases e; exact nb rfl), hd_ne hl hb (fun z hz => by obtain ⟨i, rfl⟩ := hd_int z hz; intro e; cases e), hd_ne hl hx (fun z hz => by obtain ⟨i, rfl⟩ := hd_int z hz; intro e; cases e), hd_ne hq ht (fun z hz => by cases hz; intro e; cases e), hd_ne ht hb (fun z hz => by obtain ⟨i, rfl⟩ := hd_int z hz; intro e; cases e), hd_ne ht hx (fun z hz => by obtain ⟨i, rfl⟩ := hd_int z hz; intro e; cases e), hd_ne ht hl (fun z hz => by cases hz; intro e; cases e)⟩
theorem tb_cons {ns nr : Nat} {tb : Tb} (T : GoodTb ns nr tb) : ∃ t0 ts row rows, tb.texts = t0 :: ts ∧ tb.lines = row :: rows := by
  have h1 : tb.texts ≠ [] := fun z => T.marked (Or.inl z)
  have h2 := T.llen
  cases ht : tb.texts with
  | nil => exact absurd ht h1
  | cons t0 ts =>
    rw [ht] at h2
    cases hl : tb.lines with
    | nil => rw [hl] at h2; cases h2
    | cons row rows => exact ⟨t0, ts, row, rows, rfl, rfl⟩
theorem u_makeK {C : Addr} {n m : Nat} {sp : Sp} {gV : List V → List V → List V} {E : XK} {t tk : TA} {σ : L2.St} {H : Hp} {Q : VK} (h : t σ H fun vs H1 => tk σ H1 fun zs H2 => vs.length = n ∧ zs.length = m ∧ ∀ x dx, H2 x = none → H2 dx = none → dx ≠ x →
    sp (gV (.ref x :: vs) zs) (upd (upd H2 dx (.own x)) x (.ins C dx [])) (fun v H3 => v = .non ∧ Q (.ref x) H3) E) : tMakeK C n m sp gV E t tk σ H Q := h
theorem u_methK {C : Addr} {m : PySem.Str} {n : Nat} {sp : Sp} {gV : List V → List V → List V} {E : XK} {ta : TE} {tk : TA} {σ : L2.St} {H : Hp} {Q : VK} (h : ta σ H fun x H1 => ∃ a dx fs, x = .ref a ∧ H1 a = some (.ins C dx fs) ∧ fs.lookup m = none ∧
    tk σ H1 fun zs H2 => zs.length = n ∧ sp (gV [x] zs) H2 Q E) : tMethK C m n sp gV E ta tk σ H Q := h
theorem u_callIK {C : Addr} {n : Nat} {sp : Sp} {gV : List V → List V → List V} {E : XK} {tf : TE} {tk : TA} {σ : L2.St} {H : Hp} {Q : VK} (h : tf σ H fun y H1 => ∃ a, y = V.ref a ∧ tk σ H1 fun zs H2 => zs.length = n ∧ ((∃ dx ws, SlX.Slt H2 a C dx ws) ∨ ∃ dx fs, H2 a = some (.ins C dx fs)) ∧ sp (gV [V.ref a] zs) H2 Q E) :
    tCallIK C n sp gV E tf tk σ H Q := h
theorem u_prop {C : Addr} {sp : Sp} {dvs : List V} {E : XK} {ta : TE} {σ : L2.St} {H : Hp} {Q : VK} (h : ta σ H fun x H1 => ∃ a dx fs, x = .ref a ∧ H1 a = some (.ins C dx fs) ∧ sp (.ref a :: dvs) H1 Q E) : tProp C sp dvs E ta σ H Q := h
theorem reach_at {K : PySem.W.Frag} {H : Hp} {R : V → Hp → Prop} {v : V} {s r : List Nat} {tb : Tb} (w : Wd K H v s r tb) (q : ∀ (p : Addr) (Rs : List Int) H', Ex H H' → H' p = some (.tup (Rs.map V.int)) → Qu tb.lines [] tb.begins Rs → Rs.length ≤ 400 → R (.ref p) H') :
    ∃ a dx fs, v = .ref a ∧ H a = some (.ins (gW K) dx fs) ∧ sp_World_reached K (.ref a :: []) H R C8.E0 := by
  obtain ⟨a, dx, b, l, t, d, kvs, _, rfl, ha, _⟩ := w.at_
  exact ⟨a, dx, _, rfl, ha, .ref a, s, r, tb, rfl, w, q⟩
theorem pu_law (K : PySem.W.Frag) (W : WCls K) (I : WIs K) (vs : List V) (H : Hp) (Q : VK) (E : XK) (h : sp_law K vs H Q E) : t_law K { nx := fun _ H' => Q .non H', rt := Q } (start N_law vs) H := by
  obtain ⟨a, ns, rfl, sq, hns, k⟩ := h
  unfold t_law
  walk_at "rd"
  refine ⟨a, ns, 0, rfl, sq, hns, by decide, fun n0 => ?_⟩
  walk_at "rd"
  refine ⟨n0, rfl, fun sg s r m H1 e1 hsg0 hsg G M => ?_⟩
  walk_at "rd"
  refine ⟨a, ns, 1, rfl, e1.l sq, hns, by decide, fun n1 => ?_⟩
  walk_at "rd"
  refine ⟨a, ns, 2, rfl, e1.l sq, hns, by decide, fun n2 => ?_⟩
  walk_at "rd"
  refine ⟨sg, n1, n2, s, r, m, rfl, hsg, G, M, fun tv tb H2 e2 htv T sm => ?_⟩
  have e02 := e1.trans e2
  walk_at "rd"
  refine ⟨a, ns, 3, rfl, e02.l sq, hns, by decide, fun n3 => ?_⟩
  walk_at "rd"
  refine ⟨szOf (by show 8 ≤ _; decide), fun p8 hp8 => ?_⟩
  have e3 := Ex.new (o := .lst [V.int 8, V.int 16, V.int 3, V.int 201, V.int 3, V.int 3, V.int 3, V.int 26]) hp8
  walk_at "rd"
  refine ⟨n3, p8, [8, 16, 3, 201, 3, 3, 3, 26], rfl, upd_same, by decide, by decide, ?_⟩
  intro ds dq H4 e4 _ hdq hlen hb
  have e24 := e3.trans e4
  have e04 := e02.trans e24
  have gsg := e24 _ _ (e2 _ _ hsg)
  have tat := htv.ex e24
  clear e3 e4 hp8 e24 htv hsg hsg0 e02 e1 e2
  simp only [List.length_cons, List.length_nil] at hlen
  have a0 := List.getElem?_eq_getElem (l := ds) (i := 0) (by omega)
  have a1 := List.getElem?_eq_getElem (l := ds) (i := 1) (by omega)
  have a2 := List.getElem?_eq_getElem (l := ds) (i := 2) (by omega)
  have a3 := List.getElem?_eq_getElem (l := ds) (i := 3) (by omega)
  have a4 := List.getElem?_eq_getElem (l := ds) (i := 4) (by omega)
  have a5 := List.getElem?_eq_getElem (l := ds) (i := 5) (by omega)
  have a6 := List.getElem?_eq_getElem (l := ds) (i := 6) (by omega)
  have a7 := List.getElem?_eq_getElem (l := ds) (i := 7) (by omega)
  have b1 := hb 1 _ _ a1 rfl
  have b2 := hb 2 _ _ a2 rfl
  have b3 := hb 3 _ _ a3 rfl
  have b4 := hb 4 _ _ a4 rfl
  have b5 := hb 5 _ _ a5 rfl
  have b6 := hb 6 _ _ a6 rfl
  have b7 := hb 7 _ _ a7 rfl
  generalize ds[0]'(by omega) = d0 at a0
  generalize ds[1]'(by omega) = d1 at a1 b1
  generalize ds[2]'(by omega) = d2 at a2 b2
  generalize ds[3]'(by omega) = d3 at a3 b3
  generalize ds[4]'(by omega) = d4 at a4 b4
  generalize ds[5]'(by omega) = d5 at a5 b5
  generalize ds[6]'(by omega) = d6 at a6 b6
  generalize ds[7]'(by omega) = d7 at a7 b7
  clear hb
  walk_at "rd"
  refine u_cut (fun σ' H' => ∃ (tv : V) (tb : Tb) (n : Nat), σ' = [some (.ref a), some (.ref sg), some tv, some (.ref dq), some (.int n), none, none, none, none, none, none, none, none, none, none, none, none] ∧ n ≤ 3 ∧ Ex H H' ∧ H' dq = some (.lst (ds.map V.int)) ∧ H' sg = some (.lst [sv s, sv r, sv m]) ∧ TableAt H' tv tb ∧ GoodTb s.length r.length tb ∧ Small tb) ?_ ?_
  · walk_at "rd"
    refine u_ixL (sql hdq) (at_i (n := 0) rfl (mapm a0)) ?_
    walk_at "rd"
    by_cases h07 : d0 = 7
    · rw [if_pos (decide_eq_true h07)]
      walk_at "rd"
      refine ⟨a, ns, 1, rfl, e04.l sq, hns, by decide, fun n4 => ?_⟩
      walk_at "rd"
      refine ⟨sg, n4, s, r, m, rfl, gsg, G, M, fun tv' tb' H5 e5 htv' T' sm' => ?_⟩
      walk_at "rd"
      exact ⟨tv', tb', 1, rfl, by decide, e04.trans e5, e5 _ _ hdq, e5 _ _ gsg, htv', T', sm'⟩
    · rw [if_neg (by rw [decide_eq_false h07]; decide)]
      exact ⟨tv, tb, 3, rfl, by decide, e04, hdq, gsg, tat, T, sm⟩
  clear tat T sm a0 hdq gsg e04
  clear H4
  clear hlen
  rintro σ H5 ⟨tv, tb, n, rfl, hn, e05, hdq, hsg, tat, T, sm⟩
  have few : tb.lines.length ≤ 1000 := by have := T.few; have := T.llen; omega
  have okt := okT T
  walk_at "rd"
  refine ⟨sg, tv, s, r, m, tb, rfl, hsg, tat, few, fun due H6 e6 fd => ?_⟩
  walk_at "rd"
  refine ⟨tv, 0, tb, rfl, tat.ex e6, few, fun q b l t xs H7 e7 hq0 hb0 hl0 ht0 hxs hq hb hl hII ht => ?_⟩
  have e57 := e6.trans e7
  walk_at "rd"
  refine u_make ?_
  walk_at "rd"
  refine u_ixL (sql (e57 _ _ hsg)) (at_i (n := 0) rfl rfl) ?_
  walk_at "rd"
  refine u_ixL (sql (e57 _ _ hsg)) (at_i (n := 1) rfl rfl) ?_
  walk_at "rd"
  refine u_ixL (sql hq) (at_i (n := 0) rfl rfl) ?_
  walk_at "rd"
  refine u_ixL (sql hq) (at_i (n := 1) rfl rfl) ?_
  walk_at "rd"
  refine u_ixL (sql hq) (at_i (n := 2) rfl rfl) ?_
  walk_at "rd"
  refine make_ok (TabIn.hand T ⟨b, rfl, hb⟩ hII ⟨t, rfl, ht⟩) G T fun z H8 e8 w => ?_
  walk_at "rd"
  refine ⟨tv, 0, tb, rfl, tat.ex (e57.trans e8), few, fun q' b' l' t' xs' H9 e9 _ _ _ _ _ hq' hb' _ hII' ht' => ?_⟩
  have e79 := e8.trans e9
  refine u_neHand okt (e79 _ _ hq) ⟨b, rfl, e79 _ _ hb⟩ (hII.ex e79) ⟨t, rfl, e79 _ _ ht⟩ hq' ⟨b', rfl, hb'⟩ hII' ⟨t', rfl, ht'⟩ ?_
  walk_at "rd"
  refine u_isi2 ((w.ex e9).ty W I) (kit_self K) ?_
  walk_at "rd"
  obtain ⟨t0, ts, row, rows, et, el⟩ := tb_cons T
  have hlx : xs.length = tb.lines.length := by
    obtain ⟨_, ys, hz, h1, h2, _⟩ := hII
    cases hz
    rw [h1] at hl
    injection hl with hl
    have : ys = xs := by injection hl
    subst this
    exact h2
  obtain ⟨x, xs1, rfl⟩ : ∃ x xs1, xs = x :: xs1 := by
    obtain ⟨_, ys, hz, h1, h2, _⟩ := hII
    cases hz
    rw [h1] at hl
    injection hl with hl
    have : ys = xs := by injection hl
    subst this
    rw [el] at h2
    cases ys with
    | nil => cases h2
    | cons x xs1 => exact ⟨x, xs1, rfl⟩
  obtain ⟨x0, rfl, hx0, hxb⟩ := hxs x List.mem_cons_self
  have hx : H7 x0 = some (.lst (row.map V.int)) := by
    obtain ⟨_, ys, hz, h1, h2, h3⟩ := hII
    cases hz
    rw [h1] at hl
    injection hl with hl
    have : ys = .ref x0 :: xs1 := by injection hl
    subst this
    obtain ⟨_, hz, h4⟩ := h3 0 _ row rfl (by rw [el]; rfl)
    cases hz
    exact h4
  have hb9 : H9 b = some (.lst (tb.begins.map V.int)) := e79 _ _ hb
  have hl9 : H9 l = some (.lst (.ref x0 :: xs1)) := e79 _ _ hl
  have ht9 : H9 t = some (.lst (sv t0 :: ts.map sv)) := by
    have := e79 _ _ ht
    rw [et] at this
    exact this
  have hx9 := e79 _ _ hx
  have hq9 := e79 _ _ hq
  have A := apart hq9 hb9 hl9 hx9 ht9 hxb
  have w9 := w.ex e9
  have fd9 := fd.ex (e7.trans e79)
  have e69 := e7.trans e79
  have lbeg : tb.begins.length ≤ 1000 := by have := (of_decide_eq_true T.beg).1; have := G.sl; omega
  clear hb hl hII ht hx hq hb' hII' ht' hq' e8 e9 w e79 e57 e7 fd hxs
  have few2 : rows.length + 1 ≤ 1000 := by rw [el] at few; exact few
  have lxs : xs1.length ≤ 1000 := by rw [List.length_cons] at hlx; omega
  refine u_ixL (sql hq9) (at_i (n := 0) rfl rfl) ?_
  refine u_tyL (sql hb9) ?_
  walk_at "rd"
  refine u_append hb9 (szLt (by rw [List.length_map]; omega)) ?_
  have e10 : Ex H6 (upd H9 b (.lst (tb.begins.map V.int ++ [.int 0]))) := e69.mut hb0
  have k10 : KT H9 (upd H9 b (.lst (tb.begins.map V.int ++ [.int 0]))) := KT.upd hb9
  have hq10 := (upd_ne (o := .lst (tb.begins.map V.int ++ [.int 0])) (H := H9) A.qb).trans hq9
  have hl10 := (upd_ne (o := .lst (tb.begins.map V.int ++ [.int 0])) (H := H9) A.lb).trans hl9
  have hx10 := (upd_ne (o := .lst (tb.begins.map V.int ++ [.int 0])) (H := H9) hxb).trans hx9
  have ht10 := (upd_ne (o := .lst (tb.begins.map V.int ++ [.int 0])) (H := H9) A.tb).trans ht9
  generalize upd H9 b (.lst (tb.begins.map V.int ++ [.int 0])) = Ha at e10 k10 hq10 hl10 hx10 ht10
  walk_at "rd"
  refine u_ixL (sql hq10) (at_i (n := 1) rfl rfl) ?_
  walk_at "rd"
  refine u_ixL (sql hl10) (at_i (n := 0) rfl rfl) ?_
  refine u_tyL (sql hx10) ?_
  walk_at "rd"
  have lrow : row.length ≤ 1000 := by have := (of_decide_eq_true (T.lin (l := row) (by rw [el]; exact List.mem_cons_self))).1; have := G.sl; omega
  refine u_append hx10 (szLt (by rw [List.length_map]; omega)) ?_
  have e11 : Ex H6 (upd Ha x0 (.lst (row.map V.int ++ [.int 0]))) := e10.mut hx0
  have k11 : KT H9 (upd Ha x0 (.lst (row.map V.int ++ [.int 0]))) := k10.trans (KT.upd hx10)
  have hq11 := (upd_ne (o := .lst (row.map V.int ++ [.int 0])) (H := Ha) A.qx).trans hq10
  have hl11 := (upd_ne (o := .lst (row.map V.int ++ [.int 0])) (H := Ha) A.lx).trans hl10
  have ht11 := (upd_ne (o := .lst (row.map V.int ++ [.int 0])) (H := Ha) A.tx).trans ht10
  generalize upd Ha x0 (.lst (row.map V.int ++ [.int 0])) = Hb at e11 k11 hq11 hl11 ht11
  walk_at "rd"
  refine u_ixL (sql hq11) (at_i (n := 1) rfl rfl) ?_
  refine u_tyL (sql hl11) ?_
  walk_at "rd"
  refine ⟨szOf (by show 1 ≤ _; decide), fun p1 hp1 => ?_⟩
  have e12 := e11.trans (Ex.new (o := .lst [V.int 0]) hp1)
  have k12 := k11.trans (KT.of (Ex.new (o := .lst [V.int 0]) hp1))
  have hq12 := Ex.new (o := .lst [V.int 0]) hp1 _ _ hq11
  have hl12 := Ex.new (o := .lst [V.int 0]) hp1 _ _ hl11
  have ht12 := Ex.new (o := .lst [V.int 0]) hp1 _ _ ht11
  generalize upd Hb p1 (.lst [V.int 0]) = Hc at e12 k12 hq12 hl12 ht12
  walk_at "rd"
  refine u_append hl12 (szLt (by rw [List.length_cons]; omega)) ?_
  have e13 : Ex H6 (upd Hc l (.lst (.ref x0 :: xs1 ++ [.ref p1]))) := e12.mut hl0
  have k13 : KT H9 (upd Hc l (.lst (.ref x0 :: xs1 ++ [.ref p1]))) := k12.trans (KT.upd hl12)
  have hq13 := (upd_ne (o := .lst (.ref x0 :: xs1 ++ [.ref p1])) (H := Hc) A.ql).trans hq12
  have ht13 := (upd_ne (o := .lst (.ref x0 :: xs1 ++ [.ref p1])) (H := Hc) A.tl).trans ht12
  generalize upd Hc l (.lst (.ref x0 :: xs1 ++ [.ref p1])) = Hd at e13 k13 hq13 ht13
  walk_at "rd"
  refine u_gsub ?_
  walk_at "rd"
  refine u_ixL (sql hq13) (at_i (n := 2) rfl rfl) ?_
  walk_at "rd"
  refine u_setL (j := 0) ht13 rfl (by rw [List.length_cons]; omega) ?_
  have e14 := e13.mut (o := .lst ((sv t0 :: ts.map sv).set 0 (.str "Z"))) ht0
  have k14 := k13.trans (KT.upd (ys := (sv t0 :: ts.map sv).set 0 (.str "Z")) ht13)
  clear k13 k12 k11 k10 e13 e12 e11 e10 hq13 ht13 hq12 hl12 ht12 hq11 hl11 ht11 hq10 hl10 hx10 ht10 hb9 hl9 ht9 hx9 hq9 A hq0 hb0 hl0 ht0 hx0 hxb
  have w14 := w9.kt k14
  have fd14 := fd9.kt k14
  clear k14 w9 fd9 e69
  have e514 := e6.trans e14
  clear e6 e14
  generalize upd Hd t (.lst ((sv t0 :: ts.map sv).set 0 (.str "Z"))) = He' at w14 fd14 e514
  walk_at "rd"
  refine ⟨gW K, .ref z, s, r, tb, rfl, rfl, w14.at_, fun u1 H15 e15 f1 => ?_⟩
  walk_at "rd"
  obtain ⟨n1, hn1, sm1⟩ := same_fields G T f1 (fd14.ex e15)
  refine ⟨_, _, n1, rfl, sm1, hn1, fun H16 e16 => ?_⟩
  have e1416 := e15.trans e16
  have e516 := e514.trans e1416
  have e016 := e05.trans e516
  have w16 := w14.ex e1416
  have fd16 := fd14.ex e1416
  have hdq16 := e516 _ _ hdq
  have hsg16 := e516 _ _ hsg
  have tat16 := tat.ex e516
  clear w14 fd14 e15 e16 e1416 e514 e516 e05 hdq hsg tat sm1 f1
  have fdk := fd16
  obtain ⟨u, bb, ll, tt, rfl, hu, -, -, -⟩ := fdk
  have sl := G.sl
  walk_at "rd"
  refine ⟨⟨_, rfl⟩, ?_⟩
  walk_at "rd"
  refine u_ixL (sql hdq16) (at_i (n := 3) rfl (mapm a3)) ?_
  walk_at "rd"
  refine ⟨_, rfl, by omega, by omega, ?_⟩
  refine lc_vals (fun c => sv [c]) (fun c => c ∈ s) (walk_rX (n := d3.toNat)) (fun _ _ => trivial) (szLt (by omega)) ?_ ?_
  · rintro i x H' hi rfl e N N' hN
    walk_at "rd"
    refine ⟨rfl, ?_⟩
    walk_at "rd"
    refine u_ixT (sqt (e _ _ hu)) (at_i (n := 0) rfl rfl) ?_
    walk_at "rd"
    refine u_ixL (sql (e _ _ hdq16)) (at_i (n := 4) rfl (mapm a4)) ?_
    walk_at "rd"
    refine u_ixL (sql (e _ _ hdq16)) (at_i (n := 5) rfl (mapm a5)) ?_
    walk_at "rd"
    refine u_mul (Or.inl ⟨by omega, by omega⟩) ?_
    walk_at "rd"
    refine u_fdv (m := (i : Int)) (n := 3) ⟨by decide, by decide⟩ ?_
    walk_at "rd"
    refine u_ixL (sql (e _ _ hdq16)) (at_i (n := 6) rfl (mapm a6)) ?_
    walk_at "rd"
    refine u_mul (Or.inr ⟨by omega, by omega⟩) ?_
    walk_at "rd"
    refine u_ixT (sqt (e _ _ hu)) (at_i (n := 0) rfl rfl) ?_
    walk_at "rd"
    refine u_lenS (szOf (by omega)) ?_
    walk_at "rd"
    refine u_mod (by omega) ?_
    have q0 := Int.emod_nonneg (d4 + (i : Int) * d5 + (i : Int) / 3 * d6) (b := (s.length : Int)) (by omega)
    have q1 := Int.emod_lt_of_pos (d4 + (i : Int) * d5 + (i : Int) / 3 * d6) (b := (s.length : Int)) (by omega)
    generalize (d4 + (i : Int) * d5 + (i : Int) / 3 * d6) % (s.length : Int) = w0 at q0 q1
    have hc := List.getElem?_eq_getElem (l := s) (i := w0.toNat) (by omega)
    refine u_ixS (szOf (by omega)) (at_i (n := w0.toNat) (by omega) hc) ?_
    exact hN _ _ (Ex.refl _) (List.getElem_mem _)
  intro D cs H17 hD0 hD e17 lcs pcs
  refine u_join1 (k := false) (sql hD) (by omega) ?_
  walk_at "rd"
  refine ⟨.ref u, s, r, tb, n, rfl, fd16.ex e17, G, hn, fun pq spots H18 e18 hpq0 hpq hsp lsp => ?_⟩
  have e1618 := e17.trans e18
  walk_at "rd"
  refine u_ixT (sqt (e1618 _ _ hu)) (at_i (n := 1) rfl rfl) ?_
  walk_at "rd"
  refine u_ixL (sql (e1618 _ _ hdq16)) (at_i (n := 2) rfl (mapm a2)) ?_
  walk_at "rd"
  refine u_ixT (sqt (e1618 _ _ hu)) (at_i (n := 1) rfl rfl) ?_
  walk_at "rd"
  refine u_lenS (szOf (by omega)) ?_
  walk_at "rd"
  refine u_mod (by omega) ?_
  have q0 := Int.emod_nonneg d2 (b := (r.length : Int)) (by omega)
  have q1 := Int.emod_lt_of_pos d2 (b := (r.length : Int)) (by omega)
  generalize d2 % (r.length : Int) = w0 at q0 q1
  have hc := List.getElem?_eq_getElem (l := r) (i := w0.toNat) (by omega)
  have hcm : r[w0.toNat]'(by omega) ∈ r := List.getElem_mem _
  generalize r[w0.toNat]'(by omega) = c0 at hc hcm
  refine u_ixS (l := r) (c := c0) (szOf (by omega)) (at_i (n := w0.toNat) (by omega) hc) ?_
  walk_at "rd"
  refine u_addS (m := [c0]) (n := cs) (szOf (by rw [List.length_singleton]; omega)) ?_
  walk_at "rd"
  refine ⟨szOf (by show 1 ≤ _; decide), fun p19 hp19 => ?_⟩
  have e19 := Ex.new (o := .lst [sv ([c0] ++ cs)]) hp19
  walk_at "rd"
  refine n_addL (xs := spots.map sv) (ys := [sv ([c0] ++ cs)]) (e19 _ _ hpq) upd_same (szOf (by rw [List.length_map]; show _ + 1 ≤ _; omega)) fun ps H20 n20 => ?_
  have e1620 := (e1618.trans e19).trans n20.2.1
  have hps : H20 ps = some (.lst ((spots ++ [[c0] ++ cs]).map sv)) := by rw [List.map_append]; exact n20.2.2.1
  have hspots : ∀ y ∈ spots ++ [[c0] ++ cs], Spot s r y ∧ y.length ≤ 900 := by
    intro y hy
    rcases List.mem_append.mp hy with hy | hy
    · have := hsp y hy
      exact ⟨this.1, by omega⟩
    · obtain rfl := List.mem_singleton.mp hy
      refine ⟨⟨c0, cs, rfl, hcm, pcs⟩, ?_⟩
      show ([c0] ++ cs).length ≤ 900
      rw [List.length_append, List.length_singleton]
      omega
  have ek := e016.trans (e17.trans (e18.trans (e19.trans n20.2.1)))
  have e1720 := (e18.trans e19).trans n20.2.1
  clear hpq0 hpq hsp lsp hD0 hD e17 e18 e1618 hp19 e19 n20 e016 e1720
  walk_at "rd"
  refine u_ixL (sql (e1620 _ _ hsg16)) (at_i (n := 2) rfl rfl) ?_
  rw [lit_marks]
  walk_at "rd"
  refine u_ixL (sql (e1620 _ _ hdq16)) (at_i (n := 7) rfl (mapm a7)) ?_
  have hm := List.getElem?_eq_getElem (l := MARKSL) (i := d7.toNat) (by show _ < 26; omega)
  generalize MARKSL[d7.toNat]'(by show _ < 26; omega) = mk at hm
  refine u_ixS (l := MARKSL) (c := mk) (szOf (by decide)) (at_i (n := d7.toNat) (by omega) hm) ?_
  walk_at "rd"
  have lm := M.1
  refine u_addS (m := m) (n := [mk]) (szOf (by rw [List.length_singleton]; omega)) ?_
  walk_at "rd"
  refine ⟨.ref z, .ref u, ps, s, r, m ++ [mk], tb, spots ++ [[c0] ++ cs], rfl, w16.ex e1620, fd16.ex e1620, hps, hspots, by rw [List.length_append, List.length_singleton]; omega, fun H21 e21 => ?_⟩
  have e1621 := e1620.trans e21
  walk_at "rd"
  refine u_prop ?_
  walk_at "rd"
  refine reach_at (w16.ex e1621) fun pr Rs H22 e22 hpr qu1 l1 => ?_
  walk_at "rd"
  refine ⟨.ref u, s, r, tb, rfl, fd16.ex (e1621.trans e22), T, fun pr2 Rs2 H23 e23 hpr2 qu2 l2 => ?_⟩
  obtain rfl := Qu.det qu1 qu2
  refine ⟨_, _, _, rfl, same_I (u := .ref pr) (v := .ref pr2) (ns := Rs) ⟨pr, rfl, e23 _ _ hpr⟩ ⟨pr2, rfl, hpr2⟩, by omega, fun H24 e24 => ?_⟩
  have e1624 := ((e1621.trans e22).trans e23).trans e24
  have ek24 := ((ek.trans e21).trans (e22.trans e23)).trans e24
  have w24 := w16.ex e1624
  have fd24 := fd16.ex e1624
  have hdq24 := e1624 _ _ hdq16
  have hsg24 := e1624 _ _ hsg16
  have tat24 := tat16.ex e1624
  have hps24 := e24 _ _ (e23 _ _ (e22 _ _ (e21 _ _ hps)))
  clear e21 e22 e23 e24 e1621 e1624 ek hps hpr hpr2 l1 l2 qu1 qu2 w16 fd16 hdq16 hsg16 tat16 e1620 hu
  walk_at "rd"
  refine u_ixL (sql hdq24) (at_i (n := 1) rfl (mapm a1)) ?_
  walk_at "rd"
  refine ⟨tv, d1.toNat, tb, by rw [Int.toNat_of_nonneg b1.1]; rfl, tat24, few, fun q2 b2' l2' t2' xs2 H25 e25 _ _ _ _ _ hq2 hb2 _ hII2 ht2 => ?_⟩
  walk_at "rd"
  refine u_makeK ?_
  walk_at "rd"
  refine u_ixL (sql (e25 _ _ hsg24)) (at_i (n := 0) rfl rfl) ?_
  walk_at "rd"
  refine u_ixL (sql (e25 _ _ hsg24)) (at_i (n := 1) rfl rfl) ?_
  walk_at "rd"
  refine u_ixL (sql hq2) (at_i (n := 0) rfl rfl) ?_
  walk_at "rd"
  refine u_ixL (sql hq2) (at_i (n := 1) rfl rfl) ?_
  walk_at "rd"
  refine u_ixL (sql hq2) (at_i (n := 2) rfl rfl) ?_
  walk_at "rd"
  refine ⟨rfl, rfl, ?_⟩
  refine make_ok (TabIn.hand T ⟨b2', rfl, hb2⟩ hII2 ⟨t2', rfl, ht2⟩) G T fun z2 H26 e26 w2 => ?_
  walk_at "rd"
  refine u_ixL (sql (e26 _ _ (e25 _ _ hdq24))) (at_i (n := 1) rfl (mapm a1)) ?_
  walk_at "rd"
  refine ⟨tv, d1.toNat, tb, by rw [Int.toNat_of_nonneg b1.1]; rfl, tat24.ex (e25.trans e26), few, fun q3 b3' l3' t3' xs3 H27 e27 _ _ _ _ _ hq3 hb3 _ hII3 ht3 => ?_⟩
  have e2527 := e26.trans e27
  refine u_neHand okt (e2527 _ _ hq2) ⟨b2', rfl, e2527 _ _ hb2⟩ (hII2.ex e2527) ⟨t2', rfl, e2527 _ _ ht2⟩ hq3 ⟨b3', rfl, hb3⟩ hII3 ⟨t3', rfl, ht3⟩ ?_
  have e2427 := e25.trans e2527
  walk_at "rd"
  refine ⟨gW K, .ref z2, s, r, tb, rfl, rfl, (w2.ex e27).at_, fun u2 H28 e28 f2 => ?_⟩
  walk_at "rd"
  obtain ⟨n2, hn2, sm2⟩ := same_fields G T f2 (fd24.ex (e2427.trans e28))
  refine ⟨_, _, n2, rfl, sm2, hn2, fun H29 e29 => ?_⟩
  have e2429 := e2427.trans (e28.trans e29)
  have e2529 := e2527.trans (e28.trans e29)
  have w29 := w24.ex e2429
  have v29 := w2.ex (e27.trans (e28.trans e29))
  have fd29 := fd24.ex e2429
  have hdq29 := e2429 _ _ hdq24
  have hsg29 := e2429 _ _ hsg24
  have tat29 := tat24.ex e2429
  have hps29 := e2429 _ _ hps24
  have ek29 := ek24.trans e2429
  obtain ⟨za, zdx, zb, zl, zt, zd, zk, zR, hz0, hza, -⟩ := v29.at_
  obtain rfl : z2 = za := by injection hz0
  have lsn : (spots ++ [[c0] ++ cs]).length = spots.length + 1 := by rw [List.length_append]; rfl
  have hlast : atI ((spots ++ [[c0] ++ cs]).map sv) (-1) = some (sv ([c0] ++ cs)) := by
    have : ((spots ++ [[c0] ++ cs]).map sv).length = spots.length + 1 := by rw [List.length_map, lsn]
    unfold atI ixN
    rw [this, if_neg (by decide), if_pos (by omega)]
    show ((spots ++ [[c0] ++ cs]).map sv)[((-1 : Int) + ((spots.length + 1 : Nat) : Int)).toNat]? = _
    rw [show ((-1 : Int) + ((spots.length + 1 : Nat) : Int)).toNat = spots.length by omega]
    exact mapm (by rw [List.getElem?_append_right (Nat.le_refl _), Nat.sub_self]; rfl)
  obtain ⟨slast, llast⟩ := hspots ([c0] ++ cs) (List.mem_append_right _ List.mem_cons_self)
  walk_at "rd"
  refine u_methK ?_
  walk_at "rd"
  refine ⟨z2, zdx, _, rfl, hza, rfl, ?_⟩
  walk_at "rd"
  refine u_ixL (sql hps29) hlast ?_
  walk_at "rd"
  refine ⟨rfl, .ref z2, s, r, [c0] ++ cs, tb, rfl, v29, slast, by omega, ?_⟩
  walk_at "rd"
  refine u_ixL (sql hps29) hlast ?_
  walk_at "rd"
  refine ⟨.ref u, s, r, tb, [c0] ++ cs, rfl, fd29, G, T, slast, by omega, ?_⟩
  refine ⟨_, _, 1, rfl, .int _, by decide, fun H30 e30 => ?_⟩
  walk_at "rd"
  refine u_callIK ?_
  walk_at "rd"
  refine ⟨z2, rfl, ?_⟩
  walk_at "rd"
  obtain ⟨m0, hm0⟩ : ∃ m0, (m ++ [mk])[0]? = some m0 := ⟨_, List.getElem?_eq_getElem (by rw [List.length_append, List.length_singleton]; omega)⟩
  refine u_ixS (l := m ++ [mk]) (c := m0) (szOf (by rw [List.length_append, List.length_singleton]; omega)) (at_i (n := 0) rfl hm0) ?_
  walk_at "rd"
  refine u_ixL (sql (e30 _ _ hps29)) hlast ?_
  refine u_addS (m := [m0]) (n := [c0] ++ cs) (szOf (by rw [List.length_singleton]; omega)) ?_
  walk_at "rd"
  refine ⟨rfl, Or.inr ⟨zdx, _, e30 _ _ hza⟩, .ref z2, s, r, [c0] ++ cs, m0, tb, rfl, v29.ex e30, slast, by omega, ?_⟩
  walk_at "rd"
  refine u_ixS (l := m ++ [mk]) (c := m0) (szOf (by rw [List.length_append, List.length_singleton]; omega)) (at_i (n := 0) rfl hm0) ?_
  walk_at "rd"
  obtain ⟨u', fb, fl, ft, hu', hu, -, -, t', rfl, ht⟩ := fd29.ex e30
  obtain rfl : u = u' := by injection hu'
  refine u_ixT (sqt hu) (at_i (n := 4) rfl rfl) ?_
  walk_at "rd"
  refine u_ixL (sql (e30 _ _ hps29)) hlast ?_
  walk_at "rd"
  refine ⟨.ref u, s, r, tb, [c0] ++ cs, rfl, fd29.ex e30, G, T, slast, by omega, ?_⟩
  have bn := T.at slast
  have hti := List.getElem?_eq_getElem (l := tb.texts) (i := (stAt s r tb ([c0] ++ cs)).toNat) (by omega)
  have hdm : hasM tb (stAt s r tb ([c0] ++ cs)) m0 = decide (m0 ∈ tb.texts[(stAt s r tb ([c0] ++ cs)).toNat]'(by omega)) := by
    unfold hasM; rw [List.getD_eq_getElem?_getD, hti] <;> rfl
  generalize tb.texts[(stAt s r tb ([c0] ++ cs)).toNat]'(by omega) = text at hti hdm
  refine u_ixT (sqt ht) (at_i (n := (stAt s r tb ([c0] ++ cs)).toNat) (by omega) (mapm hti)) ?_
  walk_at "rd"
  rw [hdm]
  refine ⟨_, _, 1, rfl, .bl _, by decide, fun H31 e31 => ?_⟩
  walk_at "rd"
  refine ⟨a, ns, 4, rfl, (ek29.trans (e30.trans e31)).l sq, hns, by decide, fun n4 => ?_⟩
  walk_at "rd"
  refine ⟨szOf (by show 4 ≤ _; decide), fun p4 hp4 => ?_⟩
  have en4 := Ex.new (o := .lst [V.int 3, V.int 26, V.int 400, V.int 399]) hp4
  walk_at "rd"
  refine ⟨n4, p4, MORE, rfl, upd_same, by decide, by decide, fun ms mq H32 e32 _ hmq hml hmb => ?_⟩
  have e2932 := (e30.trans e31).trans (en4.trans e32)
  clear e30 e31 en4 e32 hp4
  walk_at "rd"
  refine ⟨.ref u, mq, ms, s, r, tb, rfl, fd29.ex e2932, G, T, sm, ⟨hmq, hml, hmb⟩, fun np nxs H33 e33 hnp hnear => ?_⟩
  have e2933 := e2932.trans e33
  walk_at "rd"
  refine ⟨.ref z, .ref z2, .ref u, np, nxs, s, r, tb, rfl, w29.ex e2933, v29.ex e2933, fd29.ex e2933, hnp, hnear, fun H34 e34 => ?_⟩
  have e3234 := e33.trans e34
  have e2934 := e2932.trans e3234
  walk_at "rd"
  refine ⟨.ref u, mq, ms, s, r, tb, rfl, fd29.ex e2934, G, T, ⟨e3234 _ _ hmq, hml, hmb⟩, fun H35 e35 => ?_⟩
  have e2935 := e2934.trans e35
  clear e33 e34 e35 e3234 e2932 e2933 e2934 hnp hnear hmq
  walk_at "rd"
  refine ⟨a, ns, 5, rfl, (ek29.trans e2935).l sq, hns, by decide, fun n5 => ?_⟩
  walk_at "rd"
  refine ⟨szOf (by show 11 ≤ _; decide), fun p5 hp5 => ?_⟩
  have en5 := Ex.new (o := .lst [V.int 8, V.int 210, V.int 8, V.int 210, V.int 4, V.int 400, V.int 210, V.int 9, V.int 210, V.int 6, V.int 1000000]) hp5
  walk_at "rd"
  refine ⟨n5, p5, WRONG, rfl, upd_same, by decide, by decide, fun ws wq H36 e36 _ hwq hwl hwb => ?_⟩
  have e2936 := e2935.trans (en5.trans e36)
  clear e2935 e36 en5 hp5
  walk_at "rd"
  refine ⟨.ref u, wq, ws, s, r, tb, rfl, fd29.ex e2936, G, T, sm, ⟨hwq, hwl, hwb⟩, fun H37 e37 => ?_⟩
  have e2937 := e2936.trans e37
  clear e2936 e37 hwq
  have w37 := w29.ex e2937
  have fd37 := fd29.ex e2937
  have hsg37 := e2937 _ _ hsg29
  have e2537 := e2529.trans e2937
  have hq37 := e2537 _ _ hq2
  have tb37 := TabIn.hand T ⟨b2', rfl, e2537 _ _ hb2⟩ (hII2.ex e2537) ⟨t2', rfl, e2537 _ _ ht2⟩
  have ek37 := ek29.trans e2937
  walk_at "rd"
  refine u_make ?_
  walk_at "rd"
  refine u_ixL (sql hsg37) (at_i (n := 0) rfl rfl) ?_
  walk_at "rd"
  refine u_ixL (sql hsg37) (at_i (n := 1) rfl rfl) ?_
  walk_at "rd"
  refine u_ixL (sql hq37) (at_i (n := 0) rfl rfl) ?_
  walk_at "rd"
  refine u_ixL (sql hq37) (at_i (n := 1) rfl rfl) ?_
  walk_at "rd"
  refine u_ixL (sql hq37) (at_i (n := 2) rfl rfl) ?_
  walk_at "rd"
  refine make_ok tb37 G T fun z3 H38 e38 w38 => ?_
  walk_at "rd"
  have w38' := w37.ex e38
  refine u_eqW W I w38 w38' fun k1 h1 => ?_
  obtain rfl : k1 = true := h1.mpr ⟨rfl, rfl, rfl⟩
  walk_at "rd"
  refine u_notB ?_
  rw [decide_eq_true rfl]
  walk_at "rd"
  refine u_prop ?_
  walk_at "rd"
  refine reach_at w38 fun pr3 R3 H39 e39 hpr3 qu3 l3 => ?_
  walk_at "rd"
  refine ⟨.ref u, s, r, tb, rfl, fd37.ex (e38.trans e39), T, fun pr4 R4 H40 e40 hpr4 qu4 l4 => ?_⟩
  obtain rfl := Qu.det qu3 qu4
  refine ⟨_, _, _, rfl, same_I (u := .ref pr3) (v := .ref pr4) (ns := R3) ⟨pr3, rfl, e40 _ _ hpr3⟩ ⟨pr4, rfl, hpr4⟩, by omega, fun H41 e41 => ?_⟩
  have e3841 := (e39.trans e40).trans e41
  have e3741 := e38.trans e3841
  walk_at "rd"
  refine ⟨gW K, .ref z, s, r, tb, rfl, rfl, (w37.ex e3741).at_, fun u3 H42 e42 f3 => ?_⟩
  walk_at "rd"
  obtain ⟨n3', hn3, sm3⟩ := same_fields G T f3 (fd37.ex (e3741.trans e42))
  refine ⟨_, _, n3', rfl, sm3, hn3, fun H43 e43 => ?_⟩
  have e3743 := e3741.trans (e42.trans e43)
  walk_at "rd"
  refine u_prop ?_
  walk_at "rd"
  refine reach_at (w37.ex e3743) fun pr5 R5 H44 e44 hpr5 qu5 l5 => ?_
  walk_at "rd"
  refine ⟨.ref u, s, r, tb, rfl, fd37.ex (e3743.trans e44), T, fun pr6 R6 H45 e45 hpr6 qu6 l6 => ?_⟩
  obtain rfl := Qu.det qu5 qu6
  refine ⟨_, _, _, rfl, same_I (u := .ref pr5) (v := .ref pr6) (ns := R5) ⟨pr5, rfl, e45 _ _ hpr5⟩ ⟨pr6, rfl, hpr6⟩, by omega, fun H46 e46 => ?_⟩
  have ee := ek37.trans (e3743.trans ((e44.trans e45).trans e46))
  walk_at "rd"
  exact k H46 ee

end K39
set_option Elab.async false
set_option linter.all false
set_option maxRecDepth 100000
set_option maxHeartbeats 0
namespace K39
open PySem PySem.Spec PyProof.Rows L2 Uni
def NOF : List (PySem.Str × PySem.Str) := [("BadSteps", "steps"), ("BadRoots", "roots"), ("BadWorld", "part")]
theorem get_funD {K : PySem.W.Frag} (e : getW K (gtr K) = gtV) (c : getB K (gtr K) "World.reached" = true) : ∃ fd, FunD K "reached" "World.reached" (defArgs gtS) (defBody gtS) (defScope gtS) [] [] (gtr K) fd := by
  obtain ⟨kp, k2⟩ := He.ba c
  unfold getW at e
  cases lk : K.lookup (gtr K) with
  | none =>
    rw [lk] at e
    cases e
  | some o =>
    obtain ⟨a, b, dt, sl⟩ := o
    rw [lk] at k2 e
    cases dt with
    | func u =>
      obtain ⟨u1, u2, u3, u4, u5, u6, u7, u8, u9, u10, u11, u12, u13, u14, u15⟩ := u
      have e2 : (some (u1, u2, u3, u4, u5, u6, u7, u15) : He.FnW) = gtV := e
      unfold gtV at e2
      simp only [Option.some.injEq, Prod.mk.injEq] at e2
      obtain ⟨f1, f2, f3, f4, f5, f6, f7, f8⟩ := e2
      subst f1 f2 f3 f4 f5 f6 f7 f8
      obtain ⟨q1, q2⟩ := He.ba (show (PySem.W.codeIn K u13 "World.reached" && (He.dflB K u8 [] && He.kwdB K u9 [])) = true from k2)
      obtain ⟨q3, q4⟩ := He.ba q2
      exact ⟨_, ⟨a, b, u8, u9, u10, u11, u12, u13, u14, sl, rfl, lk, q1, He.dflB_ok q3, He.kwdB_ok q4⟩, kp⟩
    | _ => cases e
theorem wi_of {K : PySem.W.Frag} (e : ex K = true) : WIs K := by
  refine ⟨He.eqO_ok (ex_at e 0 rfl), He.eqO_ok (ex_at e 1 rfl), of_decide_eq_true (ex_at e 2 rfl), of_decide_eq_true (ex_at e 3 rfl), fun T hT => ?_⟩
  have n := List.all_eq_true.mp (show (NOK.all fun T => decide (PySem.W.kitOne K (.type T) (.ref (He.ga K "World")) = some false) && PySem.W.notFirst K (He.ga K "World") (.type T)) = true from ex_at (b := noB K (He.ga K "World")) e 4 rfl) T hT
  exact ⟨of_decide_eq_true (He.ba n).1, (He.ba n).2⟩
theorem kitF_of {K : PySem.W.Frag} {D : Addr} {n : Nat} (e : kitB K D n = true) : KitF K D n := by
  obtain ⟨k1, k2⟩ := He.ba e
  obtain ⟨k3, k4⟩ := He.ba k2
  refine ⟨fun i x hx => ?_, of_decide_eq_true k3, of_decide_eq_true k4⟩
  have hx2 : CLN[i]? = some x := hx
  obtain ⟨hi, _⟩ := List.getElem?_eq_some_iff.mp hx2
  have h := List.all_eq_true.mp k1 i (List.mem_range.mpr hi)
  rw [hx2] at h
  exact of_decide_eq_true h
theorem oex_of {K : PySem.W.Frag} {C : Addr} (e : oexB K C = true) : OexC K C := by
  obtain ⟨k1, k2⟩ := He.ba e
  obtain ⟨k3, k4⟩ := He.ba k2
  obtain ⟨k5, k6⟩ := He.ba k4
  obtain ⟨k7, k8⟩ := He.ba k6
  refine ⟨?_, He.eqO_ok k3, of_decide_eq_true k5, of_decide_eq_true k7, k8⟩
  split at k1
  · rename_i t d u sl lk
    obtain ⟨j1, j2⟩ := He.ba k1
    split at j2
    · rename_i c bm s0 s1 s2 s3 n s5 hm hs
      obtain ⟨j3, j4⟩ := He.ba j2
      obtain ⟨j5, j6⟩ := He.ba j4
      obtain ⟨j7, j8⟩ := He.ba j6
      obtain ⟨j9, j10⟩ := He.ba j8
      obtain rfl : t = "type" := of_decide_eq_true j1
      obtain rfl : c = C := of_decide_eq_true j3
      obtain rfl : n = "ValueError.__new__" := of_decide_eq_true j5
      obtain ⟨v1, v2, v3, v4, v5, v6, v7, v8, v9, v10, v11⟩ := u
      dsimp only at hm j7 j9
      subst hm
      obtain rfl : v11 = false := by cases v11 <;> first | rfl | cases j7
      obtain rfl : v6 = true := j9
      obtain ⟨l⟩ := sl
      dsimp only at hs
      subst hs
      exact ⟨v1, v5, v4, v2, bm, v7, v8, v9, v10, d, s0, s1, s2, s3, s5, lk, j10⟩
    · cases j2
  · cases k1
theorem exc_at {K : PySem.W.Frag} {D : Addr} (W : WIs K) (e : excB K D = true) : ExcC K D :=
  ⟨He.eqO_ok (allB_at 0 e rfl), He.eqO_ok (allB_at 1 e rfl), of_decide_eq_true (allB_at 2 e rfl), allB_at 3 e rfl, He.eqO_ok (allB_at 4 e rfl), W.hn, W.htk, of_decide_eq_true (allB_at 5 e rfl)⟩
theorem ini_of {K : PySem.W.Frag} {C : Addr} (e : iniB K C = true) : PySem.W.findIn K (.ref C) "__init__" = some (some (.ref (He.ma K C "__init__"))) ∧ PySem.W.typeIn K (.ref (He.ma K C "__init__")) = some (.type "function") :=
  ⟨He.eqO_ok (He.ba e).1, of_decide_eq_true (He.ba e).2⟩
theorem cal_of {K : PySem.W.Frag} {C : Addr} (e : calB K C = true) : StX.CallO K C (He.ma K C "__call__") := ⟨He.eqO_ok (allB_at 0 e rfl), allB_at 1 e rfl, allB_at 2 e rfl⟩
theorem eqc_of {K : PySem.W.Frag} {C : Addr} (e : eqcB K C = true) : EqC K C (He.ma K C "__eq__") := ⟨He.eqO_ok (allB_at 0 e rfl), He.eqO_ok (allB_at 1 e rfl), allB_at 2 e rfl, of_decide_eq_true (allB_at 3 e rfl)⟩
theorem prop_of {K : PySem.W.Frag} (e : propB K (He.ga K "World") "reached" = true) : PropOf K (He.ga K "World") "reached" (He.ma K (He.ga K "World") "reached") (gtr K) := by
  refine ⟨He.eqO_ok (allB_at 0 e rfl), He.eqO_ok (allB_at 1 e rfl), of_decide_eq_true (allB_at 2 e rfl), ?_⟩
  have q := allB_at 3 e rfl
  unfold gtr
  split at q
  · rename_i g r hr
    rw [hr]
    exact ⟨r, rfl⟩
  · cases q
/-- what the head tells -/
structure Hd (K : PySem.W.Frag) (mg : Str → Option Value) : Prop where
  ty : Ty K mg
  wc : WCls K
  wi : WIs K
  ka : KitA K
  nf : ∀ p ∈ NOF, PySem.W.findIn K (.ref (He.ga K p.1)) p.2 = some none
  m1 : Meth K (gW K) "state_of" (He.ma K (gW K) "state_of")
  m2 : Meth K (gW K) "state_behind" (He.ma K (gW K) "state_behind")
  mk0 : Mk K (gW K) (He.ma K (gW K) "__init__")
  ex : ex K = true
  g : getW K (gtr K) = gtV
  fn : ∀ (i : Nat) (d : He.DefD), fn[i]? = some d → ∃ fd, FunD K d.name d.qual d.params d.body d.scope (d.dvs K) (d.kws K) (He.fAd K d.at_) fd
theorem hd_of {K : PySem.W.Frag} {h : Heap} {mg : Str → Option Value} {w : World} (X : K.In h) (G : h.Ns mainGlobals mg) (s : He.SaysX fa fn [] [] ex w h K) (g : getW K (gtr K) = gtV) : Hd K mg := by
  have c : He.SaysD fa fn K := s.t.d
  have e := s.more
  have ty : Ty K mg := by
    constructor
    case toTx =>
      constructor
      case bool => exact He.free_ok X G (c.fact 0 rfl)
      case int => exact He.free_ok X G (c.fact 1 rfl)
      case isinstance => exact He.free_ok X G (c.fact 2 rfl)
      case len => exact He.free_ok X G (c.fact 3 rfl)
      case list => exact He.free_ok X G (c.fact 4 rfl)
      case max => exact He.free_ok X G (c.fact 5 rfl)
      case min => exact He.free_ok X G (c.fact 6 rfl)
      case range => exact He.free_ok X G (c.fact 7 rfl)
      case sorted => exact He.free_ok X G (c.fact 8 rfl)
      case str => exact He.free_ok X G (c.fact 9 rfl)
      case tuple => exact He.free_ok X G (c.fact 10 rfl)
      case zip => exact He.free_ok X G (c.fact 11 rfl)
      case k_ROOTS => exact let ⟨t, q⟩ := He.str_ok X G (c.fact 14 rfl); ⟨_, q, t, rfl⟩
      case k_STEPS => exact let ⟨t, q⟩ := He.str_ok X G (c.fact 15 rfl); ⟨_, q, t, rfl⟩
      case k_MARKS => exact let ⟨t, q⟩ := He.str_ok X G (c.fact 16 rfl); ⟨_, q, t, rfl⟩
      case k_MOST_SIGNS => exact let ⟨t, q⟩ := He.int_ok X G (c.fact 17 rfl); ⟨_, q, t, rfl⟩
      case g_lists_signs => exact He.glo_ok X G (c.fact 18 rfl)
      case g_lists_marks => exact He.glo_ok X G (c.fact 19 rfl)
      case g_are_states => exact He.glo_ok X G (c.fact 20 rfl)
      case g_law_whole => exact He.glo_ok X G (c.fact 21 rfl)
      case g_law_cell => exact He.glo_ok X G (c.fact 22 rfl)
      case g_law_digits => exact He.glo_ok X G (c.fact 23 rfl)
      case g_law_marks => exact He.glo_ok X G (c.fact 24 rfl)
      case g_law_hand => exact He.glo_ok X G (c.fact 25 rfl)
      case g_law_fields => exact He.glo_ok X G (c.fact 26 rfl)
      case g_law_told_fields => exact He.glo_ok X G (c.fact 27 rfl)
      case g_law_at => exact He.glo_ok X G (c.fact 28 rfl)
      case g_law_places => exact He.glo_ok X G (c.fact 29 rfl)
      case g_law_reached => exact He.glo_ok X G (c.fact 30 rfl)
      case g_law_wrong_string => exact He.glo_ok X G (c.fact 31 rfl)
      case g_law_wrong_starts => exact He.glo_ok X G (c.fact 32 rfl)
      case g_law_wrong_moves => exact He.glo_ok X G (c.fact 33 rfl)
      case g_least_places_of => exact He.glo_ok X G (c.fact 34 rfl)
      case g_law_same => exact He.glo_ok X G (c.fact 35 rfl)
      case g_law_signs => exact He.glo_ok X G (c.fact 36 rfl)
      case g_law_table => exact He.glo_ok X G (c.fact 37 rfl)
      case g_law_large => exact He.glo_ok X G (c.fact 38 rfl)
      case g_law_wrong_marked => exact He.glo_ok X G (c.fact 39 rfl)
    case ValueError => exact He.free_ok X G (c.fact 12 rfl)
    case all => exact He.free_ok X G (c.fact 13 rfl)
    case c_BadClaim => exact He.glo_ok X G (c.fact 50 rfl)
    case c_BadSteps => exact He.glo_ok X G (c.fact 51 rfl)
    case c_BadRoots => exact He.glo_ok X G (c.fact 52 rfl)
    case c_BadName => exact He.glo_ok X G (c.fact 53 rfl)
    case c_NameTaken => exact He.glo_ok X G (c.fact 54 rfl)
    case c_NoName => exact He.glo_ok X G (c.fact 55 rfl)
    case c_MixedClaim => exact He.glo_ok X G (c.fact 56 rfl)
    case c_StrangeSign => exact He.glo_ok X G (c.fact 57 rfl)
    case c_BadThing => exact He.glo_ok X G (c.fact 58 rfl)
    case c_BadGrammar => exact He.glo_ok X G (c.fact 59 rfl)
    case c_ListCanBeTrue => exact He.glo_ok X G (c.fact 60 rfl)
    case c_BadWorld => exact He.glo_ok X G (c.fact 61 rfl)
    case c_WorldsDiffer => exact He.glo_ok X G (c.fact 62 rfl)
    case c_TooWide => exact He.glo_ok X G (c.fact 63 rfl)
    case c_NoProof => exact He.glo_ok X G (c.fact 64 rfl)
    case c_TooLong => exact He.glo_ok X G (c.fact 65 rfl)
    case c_BadSpelling => exact He.glo_ok X G (c.fact 66 rfl)
    case c_BadText => exact He.glo_ok X G (c.fact 67 rfl)
    case c_BadLine => exact He.glo_ok X G (c.fact 68 rfl)
    case c_NothingToUndo => exact He.glo_ok X G (c.fact 69 rfl)
    case c_NothingToRedo => exact He.glo_ok X G (c.fact 70 rfl)
    case c_TooManyRoots => exact He.glo_ok X G (c.fact 71 rfl)
    case c_LemmaError => exact He.glo_ok X G (c.fact 72 rfl)
    case c_World => exact He.glo_ok X G (c.fact 73 rfl)
    case g_check_signs => exact He.glo_ok X G (c.fact 40 rfl)
    case g_check_table => exact He.glo_ok X G (c.fact 41 rfl)
    case g_law_walks => exact He.glo_ok X G (c.fact 42 rfl)
    case g_law_near => exact He.glo_ok X G (c.fact 43 rfl)
    case g_law_equalities => exact He.glo_ok X G (c.fact 44 rfl)
    case g_law_greatest => exact He.glo_ok X G (c.fact 45 rfl)
    case g_law_classes => exact He.glo_ok X G (c.fact 46 rfl)
    case g_law_refusal => exact He.glo_ok X G (c.fact 47 rfl)
    case g_law_refusals => exact He.glo_ok X G (c.fact 48 rfl)
    case g_law => exact He.glo_ok X G (c.fact 49 rfl)
  have wc : WCls K := ⟨He.cls_ok (c.fact 74 rfl), He.noat_ok (c.fact 75 rfl), He.noat_ok (c.fact 76 rfl), He.noat_ok (c.fact 77 rfl), He.noat_ok (c.fact 78 rfl), He.noat_ok (c.fact 79 rfl), He.noat_ok (c.fact 80 rfl)⟩
  have ka : KitA K := ⟨kitF_of (ex_at e 5 rfl), kitF_of (ex_at e 6 rfl), kitF_of (ex_at e 7 rfl), He.exm_ok (c.fact 87 rfl), He.exm_ok (c.fact 88 rfl), He.exm_ok (c.fact 89 rfl), He.exm_ok (c.fact 90 rfl), He.exm_ok (c.fact 91 rfl), He.exm_ok (c.fact 92 rfl)⟩
  have nf : ∀ p ∈ NOF, PySem.W.findIn K (.ref (He.ga K p.1)) p.2 = some none := by
    intro p hp
    rcases List.mem_cons.mp hp with rfl | hp
    · exact He.noat_ok (c.fact 81 rfl)
    rcases List.mem_cons.mp hp with rfl | hp
    · exact He.noat_ok (c.fact 82 rfl)
    rcases List.mem_cons.mp hp with rfl | hp
    · exact He.noat_ok (c.fact 83 rfl)
    cases hp
  exact ⟨ty, wc, wi_of e, ka, nf, He.meth_ok (c.fact 84 rfl), He.meth_ok (c.fact 85 rfl), He.mkr_ok (c.fact 86 rfl), e, g, fun i d h => c.def_ i h⟩
theorem exc_of {K : PySem.W.Frag} {mg : Str → Option Value} (h : Hd K mg) {D : Addr} (hD : D = He.ga K "BadSteps" ∨ D = He.ga K "BadRoots" ∨ D = He.ga K "BadWorld") : ExcC K D := by
  rcases hD with rfl | rfl | rfl
  · exact exc_at h.wi (ex_at h.ex 14 rfl)
  · exact exc_at h.wi (ex_at h.ex 15 rfl)
  · exact exc_at h.wi (ex_at h.ex 16 rfl)
section
variable {P : Program} {w : World} {K : PySem.W.Frag} {mg : Str → Option Value} {base : Heap}
theorem cl_lists_signs (h : Hd K mg) : C8.Cal P w K mg base 2 "lists_signs" (sp_lists_signs K) [] :=
  cal_lists_signs h.ty.toTx (h.fn 0 _ rfl) (pu_lists_signs K) (by
  intro vs H Q E h
  unfold sp_lists_signs at h
  repeat (first | (obtain ⟨rfl, _⟩ := h; rfl) | (obtain ⟨_, h⟩ := h))
)
theorem cl_lists_marks (h : Hd K mg) : C8.Cal P w K mg base 2 "lists_marks" (sp_lists_marks K) [] :=
  cal_lists_marks h.ty.toTx (h.fn 1 _ rfl) (pu_lists_marks K) (by
  intro vs H Q E h
  unfold sp_lists_marks at h
  repeat (first | (obtain ⟨rfl, _⟩ := h; rfl) | (obtain ⟨_, h⟩ := h))
)
theorem cl_are_states (h : Hd K mg) : C8.Cal P w K mg base 2 "are_states" (sp_are_states K) [] :=
  cal_are_states h.ty.toTx (h.fn 2 _ rfl) (pu_are_states K) (by
  intro vs H Q E h
  unfold sp_are_states at h
  repeat (first | (obtain ⟨rfl, _⟩ := h; rfl) | (obtain ⟨_, h⟩ := h))
)
theorem cl_law_whole (h : Hd K mg) : C8.Cal P w K mg base 2 "_law_whole" (sp_law_whole K) [] :=
  cal_law_whole h.ty.toTx (h.fn 3 _ rfl) (pu_law_whole K) (by
  intro vs H Q E h
  unfold sp_law_whole at h
  repeat (first | (obtain ⟨rfl, _⟩ := h; rfl) | (obtain ⟨_, h⟩ := h))
)
theorem cl_law_cell (h : Hd K mg) : C8.Cal P w K mg base 2 "_law_cell" (sp_law_cell K) [] :=
  cal_law_cell h.ty.toTx (h.fn 4 _ rfl) (pu_law_cell K) (by
  intro vs H Q E h
  unfold sp_law_cell at h
  repeat (first | (obtain ⟨rfl, _⟩ := h; rfl) | (obtain ⟨_, h⟩ := h))
)
theorem cl_law_digits (h : Hd K mg) : C8.Cal P w K mg base 2 "_law_digits" (sp_law_digits K) [] :=
  cal_law_digits h.ty.toTx (h.fn 5 _ rfl) (pu_law_digits K) (by
  intro vs H Q E h
  unfold sp_law_digits at h
  repeat (first | (obtain ⟨rfl, _⟩ := h; rfl) | (obtain ⟨_, h⟩ := h))
)
theorem cl_law_marks (h : Hd K mg) : C8.Cal P w K mg base 2 "_law_marks" (sp_law_marks K) [] :=
  cal_law_marks h.ty.toTx (h.fn 6 _ rfl) (pu_law_marks K) (by
  intro vs H Q E h
  unfold sp_law_marks at h
  repeat (first | (obtain ⟨rfl, _⟩ := h; rfl) | (obtain ⟨_, h⟩ := h))
)
theorem cl_law_hand (h : Hd K mg) : C8.Cal P w K mg base 2 "_law_hand" (sp_law_hand K) [] :=
  cal_law_hand h.ty.toTx (h.fn 7 _ rfl) (pu_law_hand K) (by
  intro vs H Q E h
  unfold sp_law_hand at h
  repeat (first | (obtain ⟨rfl, _⟩ := h; rfl) | (obtain ⟨_, h⟩ := h))
)
theorem cl_law_fields (h : Hd K mg) : C8.Cal P w K mg base 2 "_law_fields" (sp_law_fields K) [] :=
  cal_law_fields h.ty.toTx (h.fn 8 _ rfl) (pu_law_fields K) (by
  intro vs H Q E h
  unfold sp_law_fields at h
  repeat (first | (obtain ⟨rfl, _⟩ := h; rfl) | (obtain ⟨_, h⟩ := h))
)
theorem cl_law_told_fields (h : Hd K mg) : C8.Cal P w K mg base 2 "_law_told_fields" (sp_law_told_fields K) [] :=
  cal_law_told_fields h.ty.toTx (h.fn 9 _ rfl) (pu_law_told_fields K h.wc) (by
  intro vs H Q E h
  unfold sp_law_told_fields at h
  repeat (first | (obtain ⟨rfl, _⟩ := h; rfl) | (obtain ⟨_, h⟩ := h))
)
theorem cl_law_at (h : Hd K mg) : C8.Cal P w K mg base 2 "_law_at" (sp_law_at K) [] :=
  cal_law_at h.ty.toTx (h.fn 10 _ rfl) (pu_law_at K) (by
  intro vs H Q E h
  unfold sp_law_at at h
  repeat (first | (obtain ⟨rfl, _⟩ := h; rfl) | (obtain ⟨_, h⟩ := h))
)
theorem cl_law_places (h : Hd K mg) : C8.Cal P w K mg base 2 "_law_places" (sp_law_places K) [] :=
  cal_law_places h.ty.toTx (h.fn 11 _ rfl) (pu_law_places K) (by
  intro vs H Q E h
  unfold sp_law_places at h
  repeat (first | (obtain ⟨rfl, _⟩ := h; rfl) | (obtain ⟨_, h⟩ := h))
)
theorem cl_law_reached (h : Hd K mg) : C8.Cal P w K mg base 2 "_law_reached" (sp_law_reached K) [] :=
  cal_law_reached h.ty.toTx (h.fn 12 _ rfl) (pu_law_reached K) (by
  intro vs H Q E h
  unfold sp_law_reached at h
  repeat (first | (obtain ⟨rfl, _⟩ := h; rfl) | (obtain ⟨_, h⟩ := h))
)
theorem cl_law_wrong_string (h : Hd K mg) : C8.Cal P w K mg base 2 "_law_wrong_string" (sp_law_wrong_string K) [] :=
  cal_law_wrong_string h.ty.toTx (h.fn 13 _ rfl) (pu_law_wrong_string K) (by
  intro vs H Q E h
  unfold sp_law_wrong_string at h
  repeat (first | (obtain ⟨rfl, _⟩ := h; rfl) | (obtain ⟨_, h⟩ := h))
)
theorem cl_law_wrong_starts (h : Hd K mg) : C8.Cal P w K mg base 2 "_law_wrong_starts" (sp_law_wrong_starts K) [] :=
  cal_law_wrong_starts h.ty.toTx (h.fn 14 _ rfl) (pu_law_wrong_starts K) (by
  intro vs H Q E h
  unfold sp_law_wrong_starts at h
  repeat (first | (obtain ⟨rfl, _⟩ := h; rfl) | (obtain ⟨_, h⟩ := h))
)
theorem cl_law_wrong_moves (h : Hd K mg) : C8.Cal P w K mg base 2 "_law_wrong_moves" (sp_law_wrong_moves K) [] :=
  cal_law_wrong_moves h.ty.toTx (h.fn 15 _ rfl) (pu_law_wrong_moves K) (by
  intro vs H Q E h
  unfold sp_law_wrong_moves at h
  repeat (first | (obtain ⟨rfl, _⟩ := h; rfl) | (obtain ⟨_, h⟩ := h))
)
theorem cl_least_places_of (h : Hd K mg) : C8.Cal P w K mg base 2 "least_places_of" (sp_least_places_of K) [] :=
  cal_least_places_of h.ty.toTx (h.fn 16 _ rfl) (pu_least_places_of K) (by
  intro vs H Q E h
  unfold sp_least_places_of at h
  repeat (first | (obtain ⟨rfl, _⟩ := h; rfl) | (obtain ⟨_, h⟩ := h))
)
theorem cl_law_same (h : Hd K mg) : C8.Cal P w K mg base 3 "_law_same" (sp_law_same K) [] :=
  cal_law_same h.ty.toTx (h.fn 17 _ rfl) (cl_law_whole h) (pu_law_same K) (by
  intro vs H Q E h
  unfold sp_law_same at h
  repeat (first | (obtain ⟨rfl, _⟩ := h; rfl) | (obtain ⟨_, h⟩ := h))
)
theorem cl_law_signs (h : Hd K mg) : C8.Cal P w K mg base 3 "_law_signs" (sp_law_signs K) [] :=
  cal_law_signs h.ty.toTx (h.fn 18 _ rfl) (cl_law_digits h) (pu_law_signs K) (by
  intro vs H Q E h
  unfold sp_law_signs at h
  repeat (first | (obtain ⟨rfl, _⟩ := h; rfl) | (obtain ⟨_, h⟩ := h))
)
theorem cl_law_table (h : Hd K mg) : C8.Cal P w K mg base 3 "_law_table" (sp_law_table K) [] :=
  cal_law_table h.ty.toTx (h.fn 19 _ rfl) (cl_law_digits h) (cl_law_marks h) (pu_law_table K) (by
  intro vs H Q E h
  unfold sp_law_table at h
  repeat (first | (obtain ⟨rfl, _⟩ := h; rfl) | (obtain ⟨_, h⟩ := h))
)
theorem cl_law_large (h : Hd K mg) : C8.Cal P w K mg base 3 "_law_large" (sp_law_large K) [] :=
  cal_law_large h.ty.toTx (h.fn 20 _ rfl) (cl_law_digits h) (cl_law_marks h) (pu_law_large K) (by
  intro vs H Q E h
  unfold sp_law_large at h
  repeat (first | (obtain ⟨rfl, _⟩ := h; rfl) | (obtain ⟨_, h⟩ := h))
)
theorem cl_law_wrong_marked (h : Hd K mg) : C8.Cal P w K mg base 3 "_law_wrong_marked" (sp_law_wrong_marked K) [] :=
  cal_law_wrong_marked h.ty.toTx (h.fn 21 _ rfl) (cl_law_wrong_string h) (pu_law_wrong_marked K) (by
  intro vs H Q E h
  unfold sp_law_wrong_marked at h
  repeat (first | (obtain ⟨rfl, _⟩ := h; rfl) | (obtain ⟨_, h⟩ := h))
)
theorem ok_BadSteps_init (h : Hd K mg) : ExcX P w K mg base 1 "BadSteps" (He.ga K "BadSteps") (sp_exc (He.ga K "BadSteps") "steps") := by
  have T := oex_of (ex_at h.ex 8 rfl)
  obtain ⟨i1, i2⟩ := ini_of (ex_at h.ex 20 rfl)
  obtain ⟨fd, F⟩ := h.fn 22 _ rfl
  refine ⟨_, fd, ["self", "steps"], T, i1, i2, FunD.ok (N := N_BadSteps_init) F sc_BadSteps_init ?_ ?_, h.ty.c_BadSteps, FunD.bindsN F fun _ _ _ _ _ _ us hl => match us, hl with | [_, _], _ => rfl⟩
  · intro vs H Q E h
    obtain ⟨_, _, rfl, _⟩ := h
    rfl
  · exact fun cdv A outer s H vs Q E hr hs => ⟨t_BadSteps_init K, (pf_BadSteps_init h.ty h.wc hr).nox, pu_exc T (h.nf ("BadSteps", "steps") (by decide)) N_BadSteps_init rfl vs H Q E hs⟩
theorem ok_BadRoots_init (h : Hd K mg) : ExcX P w K mg base 1 "BadRoots" (He.ga K "BadRoots") (sp_exc (He.ga K "BadRoots") "roots") := by
  have T := oex_of (ex_at h.ex 9 rfl)
  obtain ⟨i1, i2⟩ := ini_of (ex_at h.ex 21 rfl)
  obtain ⟨fd, F⟩ := h.fn 23 _ rfl
  refine ⟨_, fd, ["self", "roots"], T, i1, i2, FunD.ok (N := N_BadRoots_init) F sc_BadRoots_init ?_ ?_, h.ty.c_BadRoots, FunD.bindsN F fun _ _ _ _ _ _ us hl => match us, hl with | [_, _], _ => rfl⟩
  · intro vs H Q E h
    obtain ⟨_, _, rfl, _⟩ := h
    rfl
  · exact fun cdv A outer s H vs Q E hr hs => ⟨t_BadRoots_init K, (pf_BadRoots_init h.ty h.wc hr).nox, pu_exc T (h.nf ("BadRoots", "roots") (by decide)) N_BadRoots_init rfl vs H Q E hs⟩
theorem ok_BadWorld_init (h : Hd K mg) : ExcX P w K mg base 1 "BadWorld" (He.ga K "BadWorld") (sp_exc (He.ga K "BadWorld") "part") := by
  have T := oex_of (ex_at h.ex 10 rfl)
  obtain ⟨i1, i2⟩ := ini_of (ex_at h.ex 22 rfl)
  obtain ⟨fd, F⟩ := h.fn 24 _ rfl
  refine ⟨_, fd, ["self", "part"], T, i1, i2, FunD.ok (N := N_BadWorld_init) F sc_BadWorld_init ?_ ?_, h.ty.c_BadWorld, FunD.bindsN F fun _ _ _ _ _ _ us hl => match us, hl with | [_, _], _ => rfl⟩
  · intro vs H Q E h
    obtain ⟨_, _, rfl, _⟩ := h
    rfl
  · exact fun cdv A outer s H vs Q E hr hs => ⟨t_BadWorld_init K, (pf_BadWorld_init h.ty h.wc hr).nox, pu_exc T (h.nf ("BadWorld", "part") (by decide)) N_BadWorld_init rfl vs H Q E hs⟩
theorem fk_check_signs (h : Hd K mg) : ∃ fd, FunD K "check_signs" "check_signs" (defArgs (top 31)) (defBody (top 31)) (defScope (top 31)) [] [] (He.fAd K ("check_signs", none)) fd ∧ FnOk P w K mg base (L2.CX P w) 4 (He.fAd K ("check_signs", none)) fd ["steps", "roots"] (sp_check_signs K) := by
  obtain ⟨fd, F⟩ := h.fn 25 _ rfl
  refine ⟨fd, F, FunD.ok (N := N_check_signs) F sc_check_signs (by
    intro vs H Q E h
    unfold sp_check_signs at h
    repeat (first | (obtain ⟨rfl, _⟩ := h; rfl) | (obtain ⟨_, h⟩ := h))) ?_⟩
  exact fun cdv A outer s H vs Q E hr hs => ⟨t_check_signs K E, pf_check_signs h.ty h.wc (cl_lists_signs h) (ok_BadRoots_init h) (ok_BadSteps_init h) hr, pu_check_signs K vs H Q E hs⟩
theorem ok_check_signs (h : Hd K mg) : CalX P w K mg base (L2.CX P w) 4 "check_signs" (sp_check_signs K) :=
  let ⟨fd, F, G⟩ := fk_check_signs h; ⟨_, fd, _, G, h.ty.g_check_signs, F.kp, FunD.bindsN F fun _ _ _ _ _ _ us hl => match us, hl with | [_, _], _ => rfl⟩
theorem fk_check_table (h : Hd K mg) : ∃ fd, FunD K "check_table" "check_table" (defArgs (top 35)) (defBody (top 35)) (defScope (top 35)) [] [] (He.fAd K ("check_table", none)) fd ∧ FnOk P w K mg base (L2.CX P w) 4 (He.fAd K ("check_table", none)) fd ["steps", "roots", "starts", "moves", "marked"] (sp_check_table K) := by
  obtain ⟨fd, F⟩ := h.fn 26 _ rfl
  refine ⟨fd, F, FunD.ok (N := N_check_table) F sc_check_table (by
    intro vs H Q E h
    unfold sp_check_table at h
    repeat (first | (obtain ⟨rfl, _⟩ := h; rfl) | (obtain ⟨_, h⟩ := h))) ?_⟩
  exact fun cdv A outer s H vs Q E hr hs => ⟨t_check_table K E, pf_check_table h.ty h.wc (cl_are_states h) (cl_lists_marks h) (ok_BadWorld_init h) hr, pu_check_table K vs H Q E hs⟩
theorem ok_check_table (h : Hd K mg) : CalX P w K mg base (L2.CX P w) 4 "check_table" (sp_check_table K) :=
  let ⟨fd, F, G⟩ := fk_check_table h; ⟨_, fd, _, G, h.ty.g_check_table, F.kp, FunD.bindsN F fun _ _ _ _ _ _ us hl => match us, hl with | [_, _, _, _, _], _ => rfl⟩
theorem fk_World_init (h : Hd K mg) : ∃ fd, FunD K "__init__" "World.__init__" (defArgs (inClass (top 37) 0)) (defBody (inClass (top 37) 0)) (defScope (inClass (top 37) 0)) [] [] (He.fAd K ("World", some "__init__")) fd ∧ FnOk P w K mg base (L2.CX P w) 6 (He.fAd K ("World", some "__init__")) fd ["self", "steps", "roots", "starts", "moves", "marked"] (sp_World_init K) := by
  obtain ⟨fd, F⟩ := h.fn 27 _ rfl
  refine ⟨fd, F, FunD.ok (N := N_World_init) F sc_World_init (by
    intro vs H Q E h
    unfold sp_World_init at h
    repeat (first | (obtain ⟨rfl, _⟩ := h; rfl) | (obtain ⟨_, h⟩ := h))) ?_⟩
  exact fun cdv A outer s H vs Q E hr hs => ⟨t_World_init K E, pf_World_init h.ty h.wc (cl_least_places_of h) (ok_check_signs h) (ok_check_table h) hr, pu_World_init K h.wc vs H Q E hs⟩
theorem ok_make (h : Hd K mg) : MakX P w K mg base (L2.CX P w) 6 "World" (He.ga K "World") (sp_World_init K) :=
  let ⟨fd, F, G⟩ := fk_World_init h; ⟨_, fd, _, h.mk0, G, h.ty.c_World, FunD.bindsN F fun _ _ _ _ _ _ us hl => match us, hl with | [_, _, _, _, _, _], _ => rfl⟩
theorem ok_makeK (h : Hd K mg) : MakK P w K mg base 6 "World" (He.ga K "World") ["steps", "roots", "starts", "moves", "marked"] (sp_World_init K) :=
  let ⟨fd, F, G⟩ := fk_World_init h; ⟨_, fd, _, h.mk0, G, h.ty.c_World, kbinds_plain F 1 _ (fun a b => a ++ b) (fun r z => r.append z) fun _ _ _ _ _ _ us ws l1 l2 => match us, ws, l1, l2 with | [_], [_, _, _, _, _], _, _ => rfl⟩
theorem fk_World_eq (h : Hd K mg) : ∃ fd, FunD K "__eq__" "World.__eq__" (defArgs (inClass (top 37) 1)) (defBody (inClass (top 37) 1)) (defScope (inClass (top 37) 1)) [] [] (He.fAd K ("World", some "__eq__")) fd ∧ FnOk P w K mg base C8.CX0 2 (He.fAd K ("World", some "__eq__")) fd ["self", "other"] (sp_World_eq K) := by
  obtain ⟨fd, F⟩ := h.fn 28 _ rfl
  refine ⟨fd, F, FunD.ok (N := N_World_eq) F sc_World_eq (by
    intro vs H Q E h
    unfold sp_World_eq at h
    repeat (first | (obtain ⟨rfl, _⟩ := h; rfl) | (obtain ⟨_, h⟩ := h))) ?_⟩
  exact fun cdv A outer s H vs Q E hr hs => ⟨t_World_eq K, (pf_World_eq h.ty h.wc hr).nox, pu_World_eq K h.wc h.wi vs H Q E hs⟩
theorem ok_eq (h : Hd K mg) : EqX P w K mg base 2 (He.ga K "World") (sp_World_eq K) :=
  let ⟨fd, F, G⟩ := fk_World_eq h; ⟨_, fd, _, eqc_of (ex_at h.ex 19 rfl), G, FunD.bindsN F fun _ _ _ _ _ _ us hl => match us, hl with | [_, _], _ => rfl⟩
theorem fk_World_state_behind (h : Hd K mg) : ∃ fd, FunD K "state_behind" "World.state_behind" (defArgs (inClass (top 37) 3)) (defBody (inClass (top 37) 3)) (defScope (inClass (top 37) 3)) [] [] (He.fAd K ("World", some "state_behind")) fd ∧ FnOk P w K mg base C8.CX0 1 (He.fAd K ("World", some "state_behind")) fd ["self", "state", "row"] (sp_World_state_behind K) := by
  obtain ⟨fd, F⟩ := h.fn 30 _ rfl
  refine ⟨fd, F, FunD.ok (N := N_World_state_behind) F sc_World_state_behind (by
    intro vs H Q E h
    unfold sp_World_state_behind at h
    repeat (first | (obtain ⟨rfl, _⟩ := h; rfl) | (obtain ⟨_, h⟩ := h))) ?_⟩
  exact fun cdv A outer s H vs Q E hr hs => ⟨t_World_state_behind K, (pf_World_state_behind h.ty h.wc hr).nox, pu_World_state_behind K h.wc vs H Q E hs⟩
theorem ok_World_state_behind (h : Hd K mg) : MetX P w K mg base C8.CX0 1 (He.ga K "World") "state_behind" (sp_World_state_behind K) :=
  let ⟨fd, F, G⟩ := fk_World_state_behind h; ⟨_, fd, _, h.m2, G, FunD.bindsN F fun _ _ _ _ _ _ us hl => match us, hl with | [_, _, _], _ => rfl⟩
theorem fk_World_state_of (h : Hd K mg) : ∃ fd, FunD K "state_of" "World.state_of" (defArgs (inClass (top 37) 4)) (defBody (inClass (top 37) 4)) (defScope (inClass (top 37) 4)) [] [] (He.fAd K ("World", some "state_of")) fd ∧ FnOk P w K mg base C8.CX0 2 (He.fAd K ("World", some "state_of")) fd ["self", "place"] (sp_World_state_of K) := by
  obtain ⟨fd, F⟩ := h.fn 31 _ rfl
  refine ⟨fd, F, FunD.ok (N := N_World_state_of) F sc_World_state_of (by
    intro vs H Q E h
    unfold sp_World_state_of at h
    repeat (first | (obtain ⟨rfl, _⟩ := h; rfl) | (obtain ⟨_, h⟩ := h))) ?_⟩
  exact fun cdv A outer s H vs Q E hr hs => ⟨t_World_state_of K, (pf_World_state_of h.ty h.wc (ok_World_state_behind h) hr).nox, pu_World_state_of K h.wc vs H Q E hs⟩
theorem ok_World_state_of (h : Hd K mg) : MetX P w K mg base C8.CX0 2 (He.ga K "World") "state_of" (sp_World_state_of K) :=
  let ⟨fd, F, G⟩ := fk_World_state_of h; ⟨_, fd, _, h.m1, G, FunD.bindsN F fun _ _ _ _ _ _ us hl => match us, hl with | [_, _], _ => rfl⟩
theorem ok_World_state_ofK (h : Hd K mg) : MetK P w K mg base 2 (He.ga K "World") "state_of" ["place"] (sp_World_state_of K) :=
  let ⟨fd, F, G⟩ := fk_World_state_of h; ⟨_, fd, _, h.m1, G, kbinds_plain F 1 _ (fun a b => a ++ b) (fun r z => r.append z) fun _ _ _ _ _ _ us ws l1 l2 => match us, ws, l1, l2 with | [_], [_], _, _ => rfl⟩
theorem fk_World_call (h : Hd K mg) : ∃ fd, FunD K "__call__" "World.__call__" (defArgs (inClass (top 37) 2)) (defBody (inClass (top 37) 2)) (defScope (inClass (top 37) 2)) [] [] (He.fAd K ("World", some "__call__")) fd ∧ FnOk P w K mg base C8.CX0 3 (He.fAd K ("World", some "__call__")) fd ["self", "atom"] (sp_World_call K) := by
  obtain ⟨fd, F⟩ := h.fn 29 _ rfl
  refine ⟨fd, F, FunD.ok (N := N_World_call) F sc_World_call (by
    intro vs H Q E h
    unfold sp_World_call at h
    repeat (first | (obtain ⟨rfl, _⟩ := h; rfl) | (obtain ⟨_, h⟩ := h))) ?_⟩
  exact fun cdv A outer s H vs Q E hr hs => ⟨t_World_call K, (pf_World_call h.ty h.wc (ok_World_state_of h) hr).nox, pu_World_call K h.wc vs H Q E hs⟩
theorem ok_call (h : Hd K mg) : InsX P w K mg base 3 (He.ga K "World") (sp_World_call K) :=
  let ⟨fd, F, G⟩ := fk_World_call h; ⟨_, fd, _, cal_of (ex_at h.ex 18 rfl), G, FunD.bindsN F fun _ _ _ _ _ _ us hl => match us, hl with | [_, _], _ => rfl⟩
theorem ok_callK (h : Hd K mg) : InsK P w K mg base 3 (He.ga K "World") ["atom"] (sp_World_call K) :=
  let ⟨fd, F, G⟩ := fk_World_call h; ⟨_, fd, _, cal_of (ex_at h.ex 18 rfl), G, kbinds_plain F 1 _ (fun a b => a ++ b) (fun r z => r.append z) fun _ _ _ _ _ _ us ws l1 l2 => match us, ws, l1, l2 with | [_], [_], _, _ => rfl⟩
theorem fk_World_reached (h : Hd K mg) : ∃ fd, FunD K "reached" "World.reached" (defArgs (inClass (top 37) 6)) (defBody (inClass (top 37) 6)) (defScope (inClass (top 37) 6)) [] [] (gtr K) fd ∧ FnOk P w K mg base C8.CX0 1 (gtr K) fd ["self"] (sp_World_reached K) := by
  obtain ⟨fd, F⟩ := get_funD h.g (ex_at h.ex 23 rfl)
  refine ⟨fd, F, FunD.ok (N := N_World_reached) F sc_World_reached (by
    intro vs H Q E h
    unfold sp_World_reached at h
    repeat (first | (obtain ⟨rfl, _⟩ := h; rfl) | (obtain ⟨_, h⟩ := h))) ?_⟩
  exact fun cdv A outer s H vs Q E hr hs => ⟨t_World_reached K, (pf_World_reached h.ty h.wc hr).nox, pu_World_reached K h.wc vs H Q E hs⟩
theorem ok_reached (h : Hd K mg) : ProX P w K mg base 1 (He.ga K "World") "reached" (sp_World_reached K) :=
  let ⟨fd, F, G⟩ := fk_World_reached h; ⟨_, _, fd, _, prop_of (ex_at h.ex 17 rfl), G, FunD.bindsN F fun _ _ _ _ _ _ us hl => match us, hl with | [_], _ => rfl⟩
theorem fk_law_walks (h : Hd K mg) : ∃ fd, FunD K "_law_walks" "_law_walks" (defArgs (top 53)) (defBody (top 53)) (defScope (top 53)) [] [] (He.fAd K ("_law_walks", none)) fd ∧ FnOk P w K mg base C8.CX0 5 (He.fAd K ("_law_walks", none)) fd ["world", "due", "spots", "marks"] (sp_law_walks K) := by
  obtain ⟨fd, F⟩ := h.fn 32 _ rfl
  refine ⟨fd, F, FunD.ok (N := N_law_walks) F sc_law_walks (by
    intro vs H Q E h
    unfold sp_law_walks at h
    repeat (first | (obtain ⟨rfl, _⟩ := h; rfl) | (obtain ⟨_, h⟩ := h))) ?_⟩
  exact fun cdv A outer s H vs Q E hr hs => ⟨t_law_walks K, (pf_law_walks h.ty h.wc (cl_law_at h) (cl_law_same h) (ok_call h) (ok_World_state_of h) hr).nox, pu_law_walks K vs H Q E hs⟩
theorem cl_law_walks (h : Hd K mg) : C8.Cal P w K mg base 5 "_law_walks" (sp_law_walks K) [] :=
  let ⟨fd, F, G⟩ := fk_law_walks h; ⟨_, fd, _, [], G, h.ty.g_law_walks, F.kp, FunD.bindsN F fun _ _ _ _ _ _ us hl => match us, hl with | [_, _, _, _], _ => rfl, .nil⟩
theorem fk_law_near (h : Hd K mg) : ∃ fd, FunD K "_law_near" "_law_near" (defArgs (top 54)) (defBody (top 54)) (defScope (top 54)) [] [] (He.fAd K ("_law_near", none)) fd ∧ FnOk P w K mg base C8.CX0 1 (He.fAd K ("_law_near", none)) fd ["due", "row"] (sp_law_near K) := by
  obtain ⟨fd, F⟩ := h.fn 33 _ rfl
  refine ⟨fd, F, FunD.ok (N := N_law_near) F sc_law_near (by
    intro vs H Q E h
    unfold sp_law_near at h
    repeat (first | (obtain ⟨rfl, _⟩ := h; rfl) | (obtain ⟨_, h⟩ := h))) ?_⟩
  exact fun cdv A outer s H vs Q E hr hs => ⟨t_law_near K, (pf_law_near h.ty h.wc hr).nox, pu_law_near K vs H Q E hs⟩
theorem cl_law_near (h : Hd K mg) : C8.Cal P w K mg base 1 "_law_near" (sp_law_near K) [] :=
  let ⟨fd, F, G⟩ := fk_law_near h; ⟨_, fd, _, [], G, h.ty.g_law_near, F.kp, FunD.bindsN F fun _ _ _ _ _ _ us hl => match us, hl with | [_, _], _ => rfl, .nil⟩
theorem fk_law_equalities (h : Hd K mg) : ∃ fd, FunD K "_law_equalities" "_law_equalities" (defArgs (top 55)) (defBody (top 55)) (defScope (top 55)) [] [] (He.fAd K ("_law_equalities", none)) fd ∧ FnOk P w K mg base C8.CX0 9 (He.fAd K ("_law_equalities", none)) fd ["world", "twin", "due", "near"] (sp_law_equalities K) := by
  obtain ⟨fd, F⟩ := h.fn 34 _ rfl
  refine ⟨fd, F, FunD.ok (N := N_law_equalities) F sc_law_equalities (by
    intro vs H Q E h
    unfold sp_law_equalities at h
    repeat (first | (obtain ⟨rfl, _⟩ := h; rfl) | (obtain ⟨_, h⟩ := h))) ?_⟩
  exact fun cdv A outer s H vs Q E hr hs => ⟨t_law_equalities K, (pf_law_equalities h.ty h.wc (cl_law_same h) (cl_law_told_fields h) (ok_make h) (ok_eq h) hr).nox, pu_law_equalities K h.wc h.wi vs H Q E hs⟩
theorem cl_law_equalities (h : Hd K mg) : C8.Cal P w K mg base 9 "_law_equalities" (sp_law_equalities K) [] :=
  let ⟨fd, F, G⟩ := fk_law_equalities h; ⟨_, fd, _, [], G, h.ty.g_law_equalities, F.kp, FunD.bindsN F fun _ _ _ _ _ _ us hl => match us, hl with | [_, _, _, _], _ => rfl, .nil⟩
theorem fk_law_greatest (h : Hd K mg) : ∃ fd, FunD K "_law_greatest" "_law_greatest" (defArgs (top 56)) (defBody (top 56)) (defScope (top 56)) [] [] (He.fAd K ("_law_greatest", none)) fd ∧ FnOk P w K mg base C8.CX0 9 (He.fAd K ("_law_greatest", none)) fd ["due", "row"] (sp_law_greatest K) := by
  obtain ⟨fd, F⟩ := h.fn 35 _ rfl
  refine ⟨fd, F, FunD.ok (N := N_law_greatest) F sc_law_greatest (by
    intro vs H Q E h
    unfold sp_law_greatest at h
    repeat (first | (obtain ⟨rfl, _⟩ := h; rfl) | (obtain ⟨_, h⟩ := h))) ?_⟩
  exact fun cdv A outer s H vs Q E hr hs => ⟨t_law_greatest K, (pf_law_greatest h.ty h.wc (cl_law_places h) (cl_law_same h) (cl_law_told_fields h) (cl_law_walks h) (ok_make h) hr).nox, pu_law_greatest K vs H Q E hs⟩
theorem cl_law_greatest (h : Hd K mg) : C8.Cal P w K mg base 9 "_law_greatest" (sp_law_greatest K) [] :=
  let ⟨fd, F, G⟩ := fk_law_greatest h; ⟨_, fd, _, [], G, h.ty.g_law_greatest, F.kp, FunD.bindsN F fun _ _ _ _ _ _ us hl => match us, hl with | [_, _], _ => rfl, .nil⟩
theorem ok_law_classes (h : Hd K mg) : CalP P w K mg base 1 "_law_classes" (spx_law_classes K) := by
  obtain ⟨fd, F⟩ := h.fn 36 _ rfl
  refine ⟨_, fd, ["error"], fn_ofX (N := N_law_classes) F sc_law_classes ?_, rfl, h.ty.g_law_classes, F.kp, FunD.bindsN F fun _ _ _ _ _ _ us hl => match us, hl with | [_], _ => rfl⟩
  intro cdv A outer s H vs Q E a D dd oe hz hf hr hs
  obtain ⟨hv, hD, r⟩ := hs
  exact ⟨t_law_classes K a D dd, pf_law_classes h.ty h.wc (exc_of h hD) hz hf hr, pu_law_classes K h.ka a D dd vs H Q E ⟨hv, hD, r⟩⟩
theorem fk_law_refusal (h : Hd K mg) : ∃ fd, FunD K "_law_refusal" "_law_refusal" (defArgs (top 62)) (defBody (top 62)) (defScope (top 62)) [] [] (He.fAd K ("_law_refusal", none)) fd ∧ FnOk P w K mg base C8.CX0 9 (He.fAd K ("_law_refusal", none)) fd ["arguments"] (sp_law_refusal K) := by
  obtain ⟨fd, F⟩ := h.fn 37 _ rfl
  refine ⟨fd, F, FunD.ok (N := N_law_refusal) F sc_law_refusal (by
    intro vs H Q E h
    unfold sp_law_refusal at h
    repeat (first | (obtain ⟨rfl, _⟩ := h; rfl) | (obtain ⟨_, h⟩ := h))) ?_⟩
  exact fun cdv A outer s H vs Q E hr hs => ⟨t_law_refusal K, (pf_law_refusal h.ty h.wc (ok_make h) ⟨xfB_ok (ex_at h.ex 12 rfl), h.nf ("BadRoots", "roots") (by decide)⟩ ⟨xfB_ok (ex_at h.ex 11 rfl), h.nf ("BadSteps", "steps") (by decide)⟩ ⟨xfB_ok (ex_at h.ex 13 rfl), h.nf ("BadWorld", "part") (by decide)⟩ (ok_law_classes h) hr).nox, pu_law_refusal K h.ka vs H Q E hs⟩
theorem cl_law_refusal (h : Hd K mg) : C8.Cal P w K mg base 9 "_law_refusal" (sp_law_refusal K) [] :=
  let ⟨fd, F, G⟩ := fk_law_refusal h; ⟨_, fd, _, [], G, h.ty.g_law_refusal, F.kp, FunD.bindsN F fun _ _ _ _ _ _ us hl => match us, hl with | [_], _ => rfl, .nil⟩
theorem fk_law_refusals (h : Hd K mg) : ∃ fd, FunD K "_law_refusals" "_law_refusals" (defArgs (top 63)) (defBody (top 63)) (defScope (top 63)) [] [] (He.fAd K ("_law_refusals", none)) fd ∧ FnOk P w K mg base C8.CX0 11 (He.fAd K ("_law_refusals", none)) fd ["due", "row"] (sp_law_refusals K) := by
  obtain ⟨fd, F⟩ := h.fn 38 _ rfl
  refine ⟨fd, F, FunD.ok (N := N_law_refusals) F sc_law_refusals (by
    intro vs H Q E h
    unfold sp_law_refusals at h
    repeat (first | (obtain ⟨rfl, _⟩ := h; rfl) | (obtain ⟨_, h⟩ := h))) ?_⟩
  exact fun cdv A outer s H vs Q E hr hs => ⟨t_law_refusals K, (pf_law_refusals h.ty h.wc (cl_law_refusal h) (cl_law_same h) (cl_law_wrong_marked h) (cl_law_wrong_moves h) (cl_law_wrong_starts h) (cl_law_wrong_string h) hr).nox, pu_law_refusals K vs H Q E hs⟩
theorem cl_law_refusals (h : Hd K mg) : C8.Cal P w K mg base 11 "_law_refusals" (sp_law_refusals K) [] :=
  let ⟨fd, F, G⟩ := fk_law_refusals h; ⟨_, fd, _, [], G, h.ty.g_law_refusals, F.kp, FunD.bindsN F fun _ _ _ _ _ _ us hl => match us, hl with | [_, _], _ => rfl, .nil⟩
theorem fk_law (h : Hd K mg) : ∃ fd, FunD K "law" "law" (defArgs (top 64)) (defBody (top 64)) (defScope (top 64)) [] [] (He.fAd K ("law", none)) fd ∧ FnOk P w K mg base C8.CX0 13 (He.fAd K ("law", none)) fd ["script"] (sp_law K) := by
  obtain ⟨fd, F⟩ := h.fn 39 _ rfl
  refine ⟨fd, F, FunD.ok (N := N_law) F sc_law (by
    intro vs H Q E h
    unfold sp_law at h
    repeat (first | (obtain ⟨rfl, _⟩ := h; rfl) | (obtain ⟨_, h⟩ := h))) ?_⟩
  exact fun cdv A outer s H vs Q E hr hs => ⟨t_law K, (pf_law h.ty h.wc (cl_law_at h) (cl_law_cell h) (cl_law_digits h) (cl_law_equalities h) (cl_law_fields h) (cl_law_greatest h) (cl_law_hand h) (cl_law_large h) (cl_law_near h) (cl_law_places h) (cl_law_reached h) (cl_law_refusals h) (cl_law_same h) (cl_law_signs h) (cl_law_table h) (cl_law_told_fields h) (cl_law_walks h) (ok_make h) (ok_callK h) (ok_makeK h) (ok_World_state_ofK h) (ok_reached h) (ok_eq h) hr).nox, pu_law K h.wc h.wi vs H Q E hs⟩
end
end K39
set_option Elab.async false
set_option linter.all false
set_option maxRecDepth 100000
set_option maxHeartbeats 0
namespace K39
open PySem PySem.Spec PyProof.Rows L2 Uni
theorem law_facts {P : Program} {w : World} {K : PySem.W.Frag} {h : Heap} {mg : Str → Option Value} {f : Addr} (X : K.In h) (G : h.Ns mainGlobals mg) (hfa : mg ("law" : Str) = some (.ref f)) (s : He.SaysX fa fn [] [] ex w h K) (g : getW K (gtr K) = gtV) :
    ∃ fd : FuncData, (∀ (s : Shared) (v : Value), BindsTo s fd ⟨[v], []⟩ [("script", v)]) ∧ ∀ base : Heap, K.In base → base.Ns mainGlobals mg → FnOk P w K mg base L2.CX0 13 f fd ["script"] (sp_law K) := by
  have hd := hd_of X G s g
  obtain ⟨fd, F, _⟩ := fk_law (P := P) (w := w) (base := h) hd
  have e : Value.ref f = .ref (He.ga K "law") := Option.some.inj (hfa.symm.trans hd.ty.g_law)
  injection e with e
  subst e
  have b := FunD.bindsA (ps := ["script"]) F fun _ _ _ _ _ _ us hl => match us, hl with | [_], _ => rfl
  refine ⟨fd, fun s v => b s [v] rfl, fun base _ _ => ?_⟩
  obtain ⟨fd2, F2, O⟩ := fk_law (P := P) (w := w) (base := base) hd
  obtain ⟨_, _, _, _, _, _, _, _, _, _, rfl, l1, _⟩ := F.ex
  obtain ⟨_, _, _, _, _, _, _, _, _, _, rfl, l2, _⟩ := F2.ex
  rw [l1] at l2
  injection l2 with l2
  injection l2 with _ _ l2 _
  injection l2 with l2
  rw [l2]
  exact O
end K39
open PySem PySem.W PySem.Calls PyProof.Rows
theorem PySem.Challenge.cw_lemmasworth_k39_world_states_holds : PySem.Challenge.rw_lemmasworth_k39_world_states.Holds := by
  w_on; o_law
  refine K39.front ?_
  refine L2.walk_ofE (l := PySem.Challenge.rw_lemmasworth_k39_world_states) (n := 63) (k := 13) (x := "script") (CX := L2.CX0) rfl (by decide) (by kernel_rfl) ⟨rfl, by decide, by decide⟩ ?F (fun _ _ _ _ z => z)
  intro w mg fa h Y G hmg0
  obtain ⟨K, KX, c, g⟩ := Y
  have hmg : mg ("law" : PySem.Str) = some (.ref fa) := by
    have e : (HandSHeadRun.topDef (OpenLaw.row PySem.Challenge.rw_lemmasworth_k39_world_states).prog 64).name = ("law" : PySem.Str) := by kernel_rfl
    rw [← e]
    exact hmg0
  obtain ⟨fd, hb, hF⟩ := K39.law_facts (P := (PySem.Challenge.rw_lemmasworth_k39_world_states).prog) (w := w) KX G hmg c g
  exact ⟨K, fd, K39.sp_law K, KX, hb, fun H a ns hl _ hS => ⟨a, ns, rfl, hS, Nat.le_trans hl (by decide), fun _ _ => rfl⟩, hF⟩
