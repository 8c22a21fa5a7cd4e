import PyProof.Rows.All
import Wide.All
import OpenK.AllK
import Wide.FinOn
import KE.KStateDown
import HandS.Head0
import HandS.Head1
import HandS.Head2
import HandS.HeadHook1
import HandS.HeadHook2
import HandS.HeadHook3
import HandS.Words
import HandS.ForMost
import HandS.Exc
import HandS.TryOnly
import HandS.ExcOwn
import HandS.WordsExc
import HandS.IsInst
import KE.SortData
import HandS.WideBits
import HandS.Wide
import HandS.More
import HandS.Strs
import HandS.StrMore
import HandS.TupLe
import HandS.Style
import HandS.Deep
import PyProof.Rows.ListStrD
import HandS.Conv
import HandS.ExcIs
import HandS.Small
import HandS.Zip
import HandS.Rev
import HandS.ExcField
import HandS.EndBits
import HandS.Dict
import HandS.Text
import HandS.TupSets
import PyProof.Rows.SortShellAny
import HandS.TupAny
import HandS.MakeKwOnly
import HandS.SuiteRaise
import KE.DataMinMax
import PyProof.ReprLen
import HandS.RevTup
import HandS.Finally
import HandS.DictEq
import HandS.DeepEq
import HandS.ExcInit
import HandS.TryMany
import HandS.ReplaceLit
import HandS.NoneIn
import HandS.DictTup
import KE.DataFind
import HandS.Zip0
import HandS.ExcValue
import PyProof.StrOps2
import PyProof.StrLawsChain
import PyProof.Rows.StrLawsPart
import KE.KBits
import HandS.ReplaceList
import HandS.Iter
import PySem.Challenge.RW_cutmeet_k90_shown_by_names
set_option Elab.async false
set_option linter.all false
set_option maxRecDepth 100000
set_option maxHeartbeats 8000000
namespace V4
open PySem PySem.Spec PyProof.Rows L2
def allB (l : List Bool) : Bool := l.all id
theorem allB_at {l : List Bool} (c : allB l = true) (i : Nat) {b : Bool} (h : l[i]? = some b) : b = true := List.all_eq_true.mp c b (List.mem_of_getElem? h)
abbrev AlB : Type := Bool × List He.FnV
def obsB (good : PySem.W.Frag → List Bool) (fn : List He.FnD) (K : PySem.W.Frag) : AlB := (allB (good K) && fn.all fun d => (He.Fa.code d.at_ d.qual).ok K, fn.map fun d => He.fnObs K d.at_)
def valB (fn : List He.FnD) : AlB := (true, fn.map He.FnD.val)
def SaysB (good : PySem.W.Frag → List Bool) (fn : List He.FnD) (K : PySem.W.Frag) : Prop := obsB good fn K = valB fn
section
variable {good : PySem.W.Frag → List Bool} {fn : List He.FnD} {K : PySem.W.Frag}
theorem SaysB.all (c : SaysB good fn K) : allB (good K) = true := (He.ba (show (allB (good K) && fn.all fun d => (He.Fa.code d.at_ d.qual).ok K) = true from congrArg (fun z : AlB => z.1) c)).1
theorem SaysB.fact {P : Prop} [Decidable P] (c : SaysB good fn K) (i : Nat) (h : (good K)[i]? = some (decide P)) : P := of_decide_eq_true (allB_at c.all i h)
theorem SaysB.factB {b : Bool} (c : SaysB good fn K) (i : Nat) (h : (good K)[i]? = some b) : b = true := allB_at c.all i h
theorem SaysB.def_ (c : SaysB good fn K) (i : Nat) {d : He.FnD} (h : fn[i]? = some d) :
    ∃ oc od osl kV doc pm an cdv ct, K.lookup (He.fAd K d.at_) = some ⟨oc, od, .func (PySem.W.fnOf d.name d.qual d.params d.body d.scope .none kV doc pm an cdv ct), osl⟩ ∧ PySem.W.codeIn K cdv d.qual = true := by
  have c2 := (He.ba (show (allB (good K) && fn.all fun d => (He.Fa.code d.at_ d.qual).ok K) = true from congrArg (fun z : AlB => z.1) c)).2
  have e : fn.map (fun d => He.fnObs K d.at_) = fn.map He.FnD.val := congrArg (fun z : AlB => z.2) c
  have e2 : (fn.map fun d => He.fnObs K d.at_)[i]? = (fn.map He.FnD.val)[i]? := by rw [e]
  rw [List.getElem?_map, List.getElem?_map, h] at e2
  exact He.fn_ok (Option.some.inj e2) (List.all_eq_true.mp c2 d (List.mem_of_getElem? h))
end
theorem run_split {r : PySem.W.OpenRow} {q : Program} {H : PySem.W.Hook} {ob : PySem.W.SharedT → H.α} {M : Nat} {loose : List Str} {w : World} (h1 : HandSHeadRun.RunEq r q PySem.W.Hook.none (fun _ => ()) M loose w)
    (h2 : ∀ os : OsState, (HandSHeadRun.endF (HandSHeadRun.stepQ (HandSHeadRun.denQ HandSHeadRun.tabQ) r.prog w) M r.prog w os).map ob = some (H.val w)) : HandSHeadRun.RunEq r q H ob M loose w := by
  intro os
  have a := h1 os
  have b := h2 os
  revert a b
  generalize HandSHeadRun.endF (HandSHeadRun.stepQ (HandSHeadRun.denQ HandSHeadRun.tabQ) r.prog w) M r.prog w os = E
  intro a b
  cases E with
  | none => cases a
  | some s =>
    rw [Option.map_some] at a b ⊢
    injection a with a
    injection b with b
    injection a with a1 a2
    injection a2 with a2 a3
    rw [a1, a2, b]
theorem obs_join {E : Option PySem.W.SharedT} {good : PySem.W.Frag → List Bool} {fn : List He.FnD} {k : PySem.W.SharedT → PySem.W.Frag} (h1 : E.map (fun s => allB (good (k s))) = some true)
    (h2 : E.map (fun s => (fn.all fun d => (He.Fa.code d.at_ d.qual).ok (k s), fn.map fun d => He.fnObs (k s) d.at_)) = some (true, fn.map He.FnD.val)) : E.map (fun s => obsB good fn (k s)) = some (valB fn) := by
  cases E with
  | none => cases h1
  | some s =>
    rw [Option.map_some] at h1 h2 ⊢
    injection h1 with a
    injection h2 with b
    injection b with b1 b2
    show some (allB (good (k s)) && fn.all fun d => (He.Fa.code d.at_ d.qual).ok (k s), fn.map fun d => He.fnObs (k s) d.at_) = _
    rw [a, b1, b2]
    rfl
def conV (K : PySem.W.Frag) (x : Str) (v : V) : Bool := match PySem.W.nsIn K mainGlobals x with
  | some (some u) => He.relB v u
  | _ => false
theorem conV_ok {K : PySem.W.Frag} {x : Str} {v : V} (h : conV K x v = true) : ∃ u, PySem.W.nsIn K mainGlobals x = some (some u) ∧ RelV v u := by
  unfold conV at h
  cases e : PySem.W.nsIn K mainGlobals x with
  | none => rw [e] at h; cases h
  | some r =>
    rw [e] at h
    cases r with
    | none => cases h
    | some u => exact ⟨u, rfl, He.relB_ok h⟩
/-- two texts that main has, told apart -/
def repB (K : PySem.W.Frag) (a b x y : PySem.Str) : Bool := match PySem.W.nsIn K mainGlobals a, PySem.W.nsIn K mainGlobals b with
  | some (some (.str x' t)), some (some (.str y' u)) => decide (x' = x) && decide (y' = y) && decide (t ≠ 0) && decide (u ≠ 0) && decide (t ≠ u)
  | _, _ => false
end V4
namespace V4
open PySem PySem.Spec PyProof.Rows L2
abbrev AlBT : Type := AlB × List (Option (List (Option (Str × Int))))
def obsBT (good : PySem.W.Frag → List Bool) (fn : List He.FnD) (ts : List He.Tab) (K : PySem.W.Frag) : AlBT := (obsB good fn K, ts.map fun t => He.dicW K (t.1 K))
def valBT (fn : List He.FnD) (ts : List He.Tab) (w : World) : AlBT := (valB fn, ts.map fun t => some (He.keysIn w.params t.2))
def SaysBT (good : PySem.W.Frag → List Bool) (fn : List He.FnD) (ts : List He.Tab) (w : World) (K : PySem.W.Frag) : Prop := obsBT good fn ts K = valBT fn ts w
def obsBTG (n : Nat) (good : PySem.W.Frag → List Bool) (fn : List He.FnD) (ts : List He.Tab) (g : Addr → Option Obj) : AlBT := obsBT good fn ts (He.frG g (List.range n))
def hookBT (n : Nat) (good : PySem.W.Frag → List Bool) (fn : List He.FnD) (ts : List He.Tab) : PySem.W.Hook where
  α := AlBT
  obs := fun s => obsBTG n good fn ts s.heap.get?
  val := fun w => valBT fn ts w
  says := fun w h => ∃ K : PySem.W.Frag, K.In h ∧ SaysBT good fn ts w K
  of := fun _ _ e => ⟨_, He.frG_in, e⟩
  keeps := fun _ _ _ ⟨K, hK, c⟩ k => ⟨K, PySem.W.Frag.In.keeps hK k, c⟩
theorem obsBTG_eq {n : Nat} {good : PySem.W.Frag → List Bool} {fn : List He.FnD} {ts : List He.Tab} {g : Addr → Option Obj} {s : Shared} (h : ∀ a, g a = s.heap.get? a) : obsBTG n good fn ts g = (hookBT n good fn ts).obs s := by
  have e : g = s.heap.get? := funext h
  rw [e] <;> rfl
section
variable {good : PySem.W.Frag → List Bool} {fn : List He.FnD} {ts : List He.Tab} {w : World} {K : PySem.W.Frag}
theorem SaysBT.b (c : SaysBT good fn ts w K) : SaysB good fn K := congrArg (fun z : AlBT => z.1) c
theorem SaysBT.tab (c : SaysBT good fn ts w K) (i : Nat) {t : He.Tab} (h : ts[i]? = some t) : He.dicW K (t.1 K) = some (He.keysIn w.params t.2) := by
  have e : ts.map (fun t => He.dicW K (t.1 K)) = ts.map fun t => some (He.keysIn w.params t.2) := congrArg (fun z : AlBT => z.2) c
  have e2 : (ts.map fun t => He.dicW K (t.1 K))[i]? = (ts.map fun t => some (He.keysIn w.params t.2))[i]? := by rw [e]
  rw [List.getElem?_map, List.getElem?_map, h] at e2
  exact Option.some.inj e2
end
theorem obs_joinT {E : Option PySem.W.SharedT} {good : PySem.W.Frag → List Bool} {fn : List He.FnD} {ts : List He.Tab} {w : World} {k : PySem.W.SharedT → PySem.W.Frag} (h1 : E.map (fun s => obsB good fn (k s)) = some (valB fn))
    (h2 : E.map (fun s => ts.map fun t => He.dicW (k s) (t.1 (k s))) = some (ts.map fun t => some (He.keysIn w.params t.2))) : E.map (fun s => obsBT good fn ts (k s)) = some (valBT fn ts w) := by
  cases E with
  | none => cases h1
  | some s =>
    rw [Option.map_some] at h1 h2 ⊢
    injection h1 with a
    injection h2 with b
    show some (obsB good fn (k s), ts.map fun t => He.dicW (k s) (t.1 (k s))) = _
    rw [a, b]
    rfl
def strsB : List Value → List Str → Bool
  | [], [] => true
  | .str x _ :: r, y :: ys => decide (x = y) && (PyData.strOk y && strsB r ys)
  | _, _ => false
def tupB (K : PySem.W.Frag) (b : Addr) (ys : List Str) : Bool := match K.lookup b with
  | some ⟨.type c, _, .seq its _, _⟩ => decide (c = "tuple") && (decide (its.size ≤ 1000) && strsB its.toList ys)
  | _ => false
def tabB (K : PySem.W.Frag) (a : Addr) (tab : List (Str × List Str)) : Bool := tab.all fun p => match PySem.W.nsIn K a p.1 with
  | some (some (.ref b)) => tupB K b p.2
  | _ => false
end V4
namespace V4.C_k90
open PySem PySem.Spec PyProof.Rows L2
abbrev rtop (i : Nat) : Stmt := PySem.Challenge.pw_cutmeet_k90_shown_by_names.main.body.getD i (.Pass ⟨0, 0, 0, 0⟩)
abbrev rst__law_pot_at : Stmt := rtop 153
abbrev rst__law_draw : Stmt := rtop 154
abbrev rst__law_name : Stmt := rtop 155
abbrev rst__law_drawn : Stmt := rtop 156
abbrev rst__law_written : Stmt := rtop 157
abbrev rst_is_name : Stmt := rtop 18
abbrev rst_are_places : Stmt := rtop 23
abbrev rst_is_tie : Stmt := rtop 24
abbrev rst_Web_init : Stmt := inClass (rtop 25) 0
abbrev rst_Web_places : Stmt := inClass (rtop 25) 1
abbrev rst_Web_ties : Stmt := inClass (rtop 25) 4
abbrev rst_web_text : Stmt := rtop 30
abbrev rst_show_web : Stmt := rtop 41
abbrev rst_tie_in : Stmt := rtop 31
abbrev rst_read_web : Stmt := rtop 32
abbrev rst_read_row : Stmt := rtop 42
abbrev rst_show_ties : Stmt := rtop 37
abbrev rst_show_cut : Stmt := rtop 38
abbrev rst_show_times : Stmt := rtop 39
abbrev rst_show_cuts : Stmt := rtop 40
abbrev rst__law_shown_right : Stmt := rtop 158
abbrev rst_Desk_init : Stmt := inClass (rtop 151) 0
abbrev rst_want : Stmt := rtop 140
abbrev rst_Desk_look_at_name : Stmt := inClass (rtop 151) 2
abbrev rst_Desk_said_web : Stmt := inClass (rtop 151) 3
abbrev rst_told_of : Stmt := rtop 143
abbrev rst_parts_of_desk : Stmt := rtop 144
abbrev rst_Desk_web_by : Stmt := inClass (rtop 151) 1
abbrev rst_asked_of_ways : Stmt := rtop 148
abbrev rst_Desk_say : Stmt := inClass (rtop 151) 5
abbrev rst_law : Stmt := rtop 159
def fn0 : He.FnD := ⟨("_law_pot_at", none), "_law_pot_at", "_law_pot_at", defArgs rst__law_pot_at, defBody rst__law_pot_at, defScope rst__law_pot_at⟩
def fn1 : He.FnD := ⟨("_law_draw", none), "_law_draw", "_law_draw", defArgs rst__law_draw, defBody rst__law_draw, defScope rst__law_draw⟩
def fn2 : He.FnD := ⟨("_law_name", none), "_law_name", "_law_name", defArgs rst__law_name, defBody rst__law_name, defScope rst__law_name⟩
def fn3 : He.FnD := ⟨("_law_drawn", none), "_law_drawn", "_law_drawn", defArgs rst__law_drawn, defBody rst__law_drawn, defScope rst__law_drawn⟩
def fn4 : He.FnD := ⟨("_law_written", none), "_law_written", "_law_written", defArgs rst__law_written, defBody rst__law_written, defScope rst__law_written⟩
def fn5 : He.FnD := ⟨("is_name", none), "is_name", "is_name", defArgs rst_is_name, defBody rst_is_name, defScope rst_is_name⟩
def fn6 : He.FnD := ⟨("are_places", none), "are_places", "are_places", defArgs rst_are_places, defBody rst_are_places, defScope rst_are_places⟩
def fn7 : He.FnD := ⟨("is_tie", none), "is_tie", "is_tie", defArgs rst_is_tie, defBody rst_is_tie, defScope rst_is_tie⟩
def fn8 : He.FnD := ⟨("Web", some "__init__"), "__init__", "Web.__init__", defArgs rst_Web_init, defBody rst_Web_init, defScope rst_Web_init⟩
def fn9 : He.FnD := ⟨("Web", some "places"), "places", "Web.places", defArgs rst_Web_places, defBody rst_Web_places, defScope rst_Web_places⟩
def fn10 : He.FnD := ⟨("Web", some "ties"), "ties", "Web.ties", defArgs rst_Web_ties, defBody rst_Web_ties, defScope rst_Web_ties⟩
def fn11 : He.FnD := ⟨("web_text", none), "web_text", "web_text", defArgs rst_web_text, defBody rst_web_text, defScope rst_web_text⟩
def fn12 : He.FnD := ⟨("show_web", none), "show_web", "show_web", defArgs rst_show_web, defBody rst_show_web, defScope rst_show_web⟩
def fn13 : He.FnD := ⟨("tie_in", none), "tie_in", "tie_in", defArgs rst_tie_in, defBody rst_tie_in, defScope rst_tie_in⟩
def fn14 : He.FnD := ⟨("read_web", none), "read_web", "read_web", defArgs rst_read_web, defBody rst_read_web, defScope rst_read_web⟩
def fn15 : He.FnD := ⟨("read_row", none), "read_row", "read_row", defArgs rst_read_row, defBody rst_read_row, defScope rst_read_row⟩
def fn16 : He.FnD := ⟨("show_ties", none), "show_ties", "show_ties", defArgs rst_show_ties, defBody rst_show_ties, defScope rst_show_ties⟩
def fn17 : He.FnD := ⟨("show_cut", none), "show_cut", "show_cut", defArgs rst_show_cut, defBody rst_show_cut, defScope rst_show_cut⟩
def fn18 : He.FnD := ⟨("show_times", none), "show_times", "show_times", defArgs rst_show_times, defBody rst_show_times, defScope rst_show_times⟩
def fn19 : He.FnD := ⟨("show_cuts", none), "show_cuts", "show_cuts", defArgs rst_show_cuts, defBody rst_show_cuts, defScope rst_show_cuts⟩
def fn20 : He.FnD := ⟨("_law_shown_right", none), "_law_shown_right", "_law_shown_right", defArgs rst__law_shown_right, defBody rst__law_shown_right, defScope rst__law_shown_right⟩
def fn21 : He.FnD := ⟨("Desk", some "__init__"), "__init__", "Desk.__init__", defArgs rst_Desk_init, defBody rst_Desk_init, defScope rst_Desk_init⟩
def fn22 : He.FnD := ⟨("want", none), "want", "want", defArgs rst_want, defBody rst_want, defScope rst_want⟩
def fn23 : He.FnD := ⟨("Desk", some "look_at_name"), "look_at_name", "Desk.look_at_name", defArgs rst_Desk_look_at_name, defBody rst_Desk_look_at_name, defScope rst_Desk_look_at_name⟩
def fn24 : He.FnD := ⟨("Desk", some "said_web"), "said_web", "Desk.said_web", defArgs rst_Desk_said_web, defBody rst_Desk_said_web, defScope rst_Desk_said_web⟩
def fn25 : He.FnD := ⟨("told_of", none), "told_of", "told_of", defArgs rst_told_of, defBody rst_told_of, defScope rst_told_of⟩
def fn26 : He.FnD := ⟨("parts_of_desk", none), "parts_of", "parts_of", defArgs rst_parts_of_desk, defBody rst_parts_of_desk, defScope rst_parts_of_desk⟩
def fn27 : He.FnD := ⟨("Desk", some "web_by"), "web_by", "Desk.web_by", defArgs rst_Desk_web_by, defBody rst_Desk_web_by, defScope rst_Desk_web_by⟩
def fn28 : He.FnD := ⟨("asked_of_ways", none), "asked_of_ways", "asked_of_ways", defArgs rst_asked_of_ways, defBody rst_asked_of_ways, defScope rst_asked_of_ways⟩
def fn29 : He.FnD := ⟨("Desk", some "say"), "say", "Desk.say", defArgs rst_Desk_say, defBody rst_Desk_say, defScope rst_Desk_say⟩
def fn30 : He.FnD := ⟨("law", none), "law", "law", defArgs rst_law, defBody rst_law, defScope rst_law⟩
def rS_FORMS : List (PySem.Str × List PySem.Str) := [("text", ["name"]), ("reach", ["name", "place"]), ("way", ["name", "place", "place"]), ("cuts", ["name"]), ("least", ["name", "place", "place"]), ("bare", ["name", "cut"]), ("miss", ["name", "numbers"]), ("fewest", ["name"]), ("lightest", ["name", "numbers"]), ("times", ["name", "number"]), ("idle", ["name"]), ("bridges", ["name"]), ("turns", ["name"]), ("draw", ["new", "name", "numbers"]), ("turn", ["new", "name", "numbers"]), ("more", ["new", "name", "place", "place"]), ("less", ["new", "name", "number"]), ("join", ["new", "name", "name"])]
def fns : List He.FnD := [fn0, fn1, fn2, fn3, fn4, fn5, fn6, fn7, fn8, fn9, fn10, fn11, fn12, fn13, fn14, fn15, fn16, fn17, fn18, fn19, fn20, fn21, fn22, fn23, fn24, fn25, fn26, fn27, fn28, fn29, fn30]
def gd0 (K : PySem.W.Frag) : List Bool := [
  decide (PySem.W.nsIn K mainGlobals "Desk" = some (some (.ref (He.ga K "Desk")))),
  decide (PySem.W.nsIn K mainGlobals "NoName" = some (some (.ref (He.ga K "NoName")))),
  decide (PySem.W.nsIn K mainGlobals "NoRow" = some (some (.ref (He.ga K "NoRow")))),
  decide (PySem.W.nsIn K mainGlobals "NoText" = some (some (.ref (He.ga K "NoText")))),
  decide (PySem.W.nsIn K mainGlobals "NoWeb" = some (some (.ref (He.ga K "NoWeb")))),
  decide (PySem.W.nsIn K mainGlobals "Web" = some (some (.ref (He.ga K "Web")))),
  decide (PySem.W.nsIn K mainGlobals "_law_pot_at" = some (some (.ref (He.ga K "_law_pot_at")))),
  PySem.W.keepIn K (.ref (He.ga K "_law_pot_at")),
  decide (PySem.W.nsIn K mainGlobals "_law_draw" = some (some (.ref (He.ga K "_law_draw")))),
  PySem.W.keepIn K (.ref (He.ga K "_law_draw")),
  decide (PySem.W.nsIn K mainGlobals "_law_name" = some (some (.ref (He.ga K "_law_name")))),
  PySem.W.keepIn K (.ref (He.ga K "_law_name")),
  decide (PySem.W.nsIn K mainGlobals "_law_drawn" = some (some (.ref (He.ga K "_law_drawn")))),
  PySem.W.keepIn K (.ref (He.ga K "_law_drawn")),
  decide (PySem.W.nsIn K mainGlobals "_law_written" = some (some (.ref (He.ga K "_law_written")))),
  PySem.W.keepIn K (.ref (He.ga K "_law_written")),
  decide (PySem.W.nsIn K mainGlobals "is_name" = some (some (.ref (He.ga K "is_name")))),
  PySem.W.keepIn K (.ref (He.ga K "is_name")),
  decide (PySem.W.nsIn K mainGlobals "are_places" = some (some (.ref (He.ga K "are_places")))),
  PySem.W.keepIn K (.ref (He.ga K "are_places")),
  decide (PySem.W.nsIn K mainGlobals "is_tie" = some (some (.ref (He.ga K "is_tie")))),
  PySem.W.keepIn K (.ref (He.ga K "is_tie")),
  decide (PySem.W.findIn K (.ref (He.ga K "Web")) "__init__" = some (some (.ref (He.ma K (He.ga K "Web") "__init__")))),
  PySem.W.isFn K (.ref (He.ma K (He.ga K "Web") "__init__")),
  PySem.W.keepIn K (.ref (He.ma K (He.ga K "Web") "__init__"))]
def gd1 (K : PySem.W.Frag) : List Bool := [
  decide (PySem.W.findIn K (.ref (He.ga K "Web")) "places" = some (some (.ref (He.ma K (He.ga K "Web") "places")))),
  PySem.W.isFn K (.ref (He.ma K (He.ga K "Web") "places")),
  PySem.W.keepIn K (.ref (He.ma K (He.ga K "Web") "places")),
  decide (PySem.W.findIn K (.ref (He.ga K "Web")) "ties" = some (some (.ref (He.ma K (He.ga K "Web") "ties")))),
  PySem.W.isFn K (.ref (He.ma K (He.ga K "Web") "ties")),
  PySem.W.keepIn K (.ref (He.ma K (He.ga K "Web") "ties")),
  decide (PySem.W.nsIn K mainGlobals "web_text" = some (some (.ref (He.ga K "web_text")))),
  PySem.W.keepIn K (.ref (He.ga K "web_text")),
  decide (PySem.W.nsIn K mainGlobals "show_web" = some (some (.ref (He.ga K "show_web")))),
  PySem.W.keepIn K (.ref (He.ga K "show_web")),
  decide (PySem.W.nsIn K mainGlobals "tie_in" = some (some (.ref (He.ga K "tie_in")))),
  PySem.W.keepIn K (.ref (He.ga K "tie_in")),
  decide (PySem.W.nsIn K mainGlobals "read_web" = some (some (.ref (He.ga K "read_web")))),
  PySem.W.keepIn K (.ref (He.ga K "read_web")),
  decide (PySem.W.nsIn K mainGlobals "read_row" = some (some (.ref (He.ga K "read_row")))),
  PySem.W.keepIn K (.ref (He.ga K "read_row")),
  decide (PySem.W.nsIn K mainGlobals "show_ties" = some (some (.ref (He.ga K "show_ties")))),
  PySem.W.keepIn K (.ref (He.ga K "show_ties")),
  decide (PySem.W.nsIn K mainGlobals "show_cut" = some (some (.ref (He.ga K "show_cut")))),
  PySem.W.keepIn K (.ref (He.ga K "show_cut")),
  decide (PySem.W.nsIn K mainGlobals "show_times" = some (some (.ref (He.ga K "show_times")))),
  PySem.W.keepIn K (.ref (He.ga K "show_times")),
  decide (PySem.W.nsIn K mainGlobals "show_cuts" = some (some (.ref (He.ga K "show_cuts")))),
  PySem.W.keepIn K (.ref (He.ga K "show_cuts")),
  decide (PySem.W.nsIn K mainGlobals "_law_shown_right" = some (some (.ref (He.ga K "_law_shown_right"))))]
def gd2 (K : PySem.W.Frag) : List Bool := [
  PySem.W.keepIn K (.ref (He.ga K "_law_shown_right")),
  decide (PySem.W.findIn K (.ref (He.ga K "Desk")) "__init__" = some (some (.ref (He.ma K (He.ga K "Desk") "__init__")))),
  PySem.W.isFn K (.ref (He.ma K (He.ga K "Desk") "__init__")),
  PySem.W.keepIn K (.ref (He.ma K (He.ga K "Desk") "__init__")),
  decide (PySem.W.nsIn K mainGlobals "want" = some (some (.ref (He.ga K "want")))),
  PySem.W.keepIn K (.ref (He.ga K "want")),
  decide (PySem.W.findIn K (.ref (He.ga K "Desk")) "look_at_name" = some (some (.ref (He.ma K (He.ga K "Desk") "look_at_name")))),
  PySem.W.isFn K (.ref (He.ma K (He.ga K "Desk") "look_at_name")),
  PySem.W.keepIn K (.ref (He.ma K (He.ga K "Desk") "look_at_name")),
  decide (PySem.W.findIn K (.ref (He.ga K "Desk")) "said_web" = some (some (.ref (He.ma K (He.ga K "Desk") "said_web")))),
  PySem.W.isFn K (.ref (He.ma K (He.ga K "Desk") "said_web")),
  PySem.W.keepIn K (.ref (He.ma K (He.ga K "Desk") "said_web")),
  decide (PySem.W.nsIn K mainGlobals "told_of" = some (some (.ref (He.ga K "told_of")))),
  PySem.W.keepIn K (.ref (He.ga K "told_of")),
  decide (PySem.W.nsIn K mainGlobals "parts_of_desk" = some (some (.ref (He.ga K "parts_of_desk")))),
  PySem.W.keepIn K (.ref (He.ga K "parts_of_desk")),
  decide (PySem.W.findIn K (.ref (He.ga K "Desk")) "web_by" = some (some (.ref (He.ma K (He.ga K "Desk") "web_by")))),
  PySem.W.isFn K (.ref (He.ma K (He.ga K "Desk") "web_by")),
  PySem.W.keepIn K (.ref (He.ma K (He.ga K "Desk") "web_by")),
  decide (PySem.W.nsIn K mainGlobals "asked_of_ways" = some (some (.ref (He.ga K "asked_of_ways")))),
  PySem.W.keepIn K (.ref (He.ga K "asked_of_ways")),
  decide (PySem.W.findIn K (.ref (He.ga K "Desk")) "say" = some (some (.ref (He.ma K (He.ga K "Desk") "say")))),
  PySem.W.isFn K (.ref (He.ma K (He.ga K "Desk") "say")),
  PySem.W.keepIn K (.ref (He.ma K (He.ga K "Desk") "say")),
  decide (PySem.W.nsIn K mainGlobals "law" = some (some (.ref (He.ga K "law"))))]
def gd3 (K : PySem.W.Frag) : List Bool := [
  PySem.W.keepIn K (.ref (He.ga K "law")),
  decide (PySem.W.nsIn K mainGlobals "all" = some none),
  decide (PySem.W.nsIn K mainGlobals "divmod" = some none),
  decide (PySem.W.nsIn K mainGlobals "enumerate" = some none),
  decide (PySem.W.nsIn K mainGlobals "isinstance" = some none),
  decide (PySem.W.nsIn K mainGlobals "len" = some none),
  decide (PySem.W.nsIn K mainGlobals "list" = some none),
  decide (PySem.W.nsIn K mainGlobals "max" = some none),
  decide (PySem.W.nsIn K mainGlobals "min" = some none),
  decide (PySem.W.nsIn K mainGlobals "range" = some none),
  decide (PySem.W.nsIn K mainGlobals "set" = some none),
  decide (PySem.W.nsIn K mainGlobals "sorted" = some none),
  decide (PySem.W.nsIn K mainGlobals "str" = some none),
  decide (PySem.W.nsIn K mainGlobals "tuple" = some none),
  conV K "BREAK" (.str "\n"),
  conV K "CUT" (.str "cut"),
  conV K "HEAD" (.str "places"),
  conV K "LEADS" (.str " > "),
  conV K "LETTERS" (.str "abcdefghijklmnopqrstuvwxyz"),
  conV K "LONGEST" (.int 8),
  conV K "MOST_PLACES" (.int 12),
  conV K "MOST_TIES" (.int 30),
  conV K "NEW" (.str "new"),
  conV K "NOTHING" (.str "-"),
  conV K "NUMBER" (.str "number")]
def gd4 (K : PySem.W.Frag) : List Bool := [
  conV K "NUMBERS" (.str "numbers"),
  repB K "BETWEEN" "BREAK" "; " "\n",
  repB K "BREAK" "BETWEEN" "\n" "; ",
  decide (PySem.W.nsIn K mainGlobals "FORMS" = some (some (.ref (He.ga K "FORMS")))),
  tabB K (He.ga K "FORMS") rS_FORMS,
  PySem.W.plainGet K (He.ga K "Desk") Str.empty,
  PySem.W.hasDictIn K (He.ga K "Desk"),
  PySem.W.plainOver K (He.ga K "Desk"),
  decide (PySem.W.findIn K (.ref (He.ga K "Desk")) "__setattr__" = some (some (.builtin "object.__setattr__"))),
  PySem.W.plainGet K (He.ga K "Web") Str.empty,
  PySem.W.hasDictIn K (He.ga K "Web"),
  PySem.W.plainOver K (He.ga K "Web"),
  decide (PySem.W.findIn K (.ref (He.ga K "Web")) "__setattr__" = some (some (.builtin "object.__setattr__"))),
  decide (PySem.W.findIn K (.ref (He.ga K "Desk")) "webs" = some none),
  decide (PySem.W.findIn K (.ref (He.ga K "Web")) "names" = some none),
  decide (PySem.W.findIn K (.ref (He.ga K "Web")) "pairs" = some none),
  PySem.W.makesIn K (He.ga K "Desk"),
  PySem.W.keepIn K (.ref (He.ga K "Desk")),
  PySem.W.makesIn K (He.ga K "Web"),
  PySem.W.keepIn K (.ref (He.ga K "Web")),
  decide (PySem.W.exmOne K (.ref (He.ga K "NoWeb")) (.ref (He.ga K "NoWeb")) = some true),
  PySem.W.excIn K (He.ga K "NoName") [.type "ValueError", .type "Exception", .type "BaseException", .type "object"] "ValueError.__new__",
  PySem.W.keepIn K (.ref (He.ga K "NoName")),
  decide (PySem.W.subIn K (.ref (He.ga K "NoName")) (.type "BaseException") = some true),
  decide (PySem.W.typeIn K (.ref (He.ga K "NoName")) = some (.type "type"))]
def gd5 (K : PySem.W.Frag) : List Bool := [
  PySem.W.excIn K (He.ga K "NoRow") [.type "ValueError", .type "Exception", .type "BaseException", .type "object"] "ValueError.__new__",
  PySem.W.keepIn K (.ref (He.ga K "NoRow")),
  decide (PySem.W.subIn K (.ref (He.ga K "NoRow")) (.type "BaseException") = some true),
  decide (PySem.W.typeIn K (.ref (He.ga K "NoRow")) = some (.type "type")),
  PySem.W.excIn K (He.ga K "NoText") [.type "ValueError", .type "Exception", .type "BaseException", .type "object"] "ValueError.__new__",
  PySem.W.keepIn K (.ref (He.ga K "NoText")),
  decide (PySem.W.subIn K (.ref (He.ga K "NoText")) (.type "BaseException") = some true),
  decide (PySem.W.typeIn K (.ref (He.ga K "NoText")) = some (.type "type")),
  PySem.W.excIn K (He.ga K "NoWeb") [.type "ValueError", .type "Exception", .type "BaseException", .type "object"] "ValueError.__new__",
  PySem.W.keepIn K (.ref (He.ga K "NoWeb")),
  decide (PySem.W.subIn K (.ref (He.ga K "NoWeb")) (.type "BaseException") = some true),
  decide (PySem.W.typeIn K (.ref (He.ga K "NoWeb")) = some (.type "type"))]
def good (K : PySem.W.Frag) : List Bool := gd0 K ++ (gd1 K ++ (gd2 K ++ (gd3 K ++ (gd4 K ++ (gd5 K)))))
abbrev R : PySem.W.OpenRow := PySem.W.OpenLaw.row PySem.Challenge.rw_cutmeet_k90_shown_by_names
def nm0 : List PySem.Str := ["_wall", "WebError", "NoWeb", "NoPlace", "NoTie", "NoText", "NoCut", "TooMany", "NoWeights", "NoRow", "NoName", "Apart", "TooFew", "Bridge", "LETTERS", "LONGEST", "is_name", "is_whole", "MOST_PLACES", "MOST_TIES", "are_places", "is_tie", "Web", "want_place", "HEAD", "LEADS", "web_text", "tie_in", "read_web", "BREAK"]
def nm1 : List PySem.Str := ["BETWEEN", "NOTHING", "show_ties", "show_cut", "show_times", "show_cuts", "show_web", "read_row", "onward", "first_ways", "reached", "way", "pieces_among", "beside", "pieces", "hangs", "MOST_CUTS", "is_part", "is_cut", "want_cut", "all_but", "put_together", "coming_to", "settled", "closed_sets", "all_cuts", "want_hanging", "cuts_about", "parted", "with_tie"]
def nm2 : List PySem.Str := ["without_tie", "joined", "Ground", "has", "ahead_of", "flood", "floods", "is_list_of_ties", "want_ties", "missed", "bundles", "drawn", "idle", "least", "Tights", "overs", "over_moves", "in_moves", "out_moves", "better", "cheapest", "behind_round", "lightest_by", "lightest_ties", "lowered", "prices_of", "fewest", "put_to", "spots_of", "tight_lacking"]
def nm3 : List PySem.Str := ["parts_of", "parts_of_papers", "parted_level", "levels_of", "cuts_by", "told_cuts", "paper", "MOST_WEIGHT", "want_weights", "lightest", "full_paper", "Streams", "Fulls", "overs_of", "lacking_cut", "within", "prices_for", "needs_paper", "turned_about", "bridges", "fewest_turned", "NEW", "NAME", "PLACE", "CUT", "NUMBER", "NUMBERS", "FIGURES", "MOST_FIGURES", "FORMS"]
def nm4 : List PySem.Str := ["want", "number_of", "cut_of", "told_of", "parts_of_desk", "show_paper", "show_or_none", "asked_of_ways", "asked_of_ties", "made_of", "Desk", "_law_pot_at", "_law_draw", "_law_name", "_law_drawn", "_law_written", "_law_shown_right"]
def loose : List PySem.Str := nm0 ++ (nm1 ++ (nm2 ++ (nm3 ++ (nm4))))
def ts : List He.Tab := [(fun K => He.ga K "FORMS", rS_FORMS.map (·.1))]
abbrev hk : PySem.W.Hook := hookBT 1600 good fns ts
def ob (s : PySem.W.SharedT) : AlBT := obsBTG 1600 good fns ts (HandSHeadRun.getT s)
theorem ob_eq (s : PySem.W.SharedT) : ob s = hk.obs s.abs := obsBTG_eq (HandSHeadRun.getT_eq s)
abbrev kS (s : PySem.W.SharedT) : PySem.W.Frag := He.frG (HandSHeadRun.getT s) (List.range 1600)
def fixB (w : World) (b : Bool) : World := { w with params := { w.params with followText := fun r => match decide (r = "special-get-raises") with
  | true => b
  | false => w.params.followText r } }
theorem fixB_eq (w : World) : fixB w (w.params.followText "special-get-raises") = w := by
  have h : (fun r => match decide (r = "special-get-raises") with
    | true => w.params.followText "special-get-raises"
    | false => w.params.followText r) = w.params.followText := by
    funext r
    by_cases e : r = "special-get-raises"
    · rw [decide_eq_true e, e]
    · rw [decide_eq_false e]
  unfold fixB
  rw [h]
theorem rrun0_true (w : World) : HandSHeadRun.RunEq R (PySem.W.view R.prog [159]) PySem.W.Hook.none (fun _ => ()) 12000 loose (fixB w true) := by intro os; kernel_rfl
theorem rrun0_false (w : World) : HandSHeadRun.RunEq R (PySem.W.view R.prog [159]) PySem.W.Hook.none (fun _ => ()) 12000 loose (fixB w false) := by intro os; kernel_rfl
theorem rrun0_b (b : Bool) (w : World) : HandSHeadRun.RunEq R (PySem.W.view R.prog [159]) PySem.W.Hook.none (fun _ => ()) 12000 loose (fixB w b) := by
  cases b
  · exact rrun0_false w
  · exact rrun0_true w
theorem rrun0 (w : World) : HandSHeadRun.RunEq R (PySem.W.view R.prog [159]) PySem.W.Hook.none (fun _ => ()) 12000 loose w := by
  have h := rrun0_b (w.params.followText "special-get-raises") w
  rw [fixB_eq] at h
  exact h
theorem rrunF_true (w : World) (os : OsState) : (HandSHeadRun.endF (HandSHeadRun.stepQ (HandSHeadRun.denQ HandSHeadRun.tabQ) R.prog (fixB w true)) 12000 R.prog (fixB w true) os).map (fun s => (fns.all fun d => (He.Fa.code d.at_ d.qual).ok (kS s), fns.map fun d => He.fnObs (kS s) d.at_)) = some (true, fns.map He.FnD.val) := by kernel_rfl
theorem rrunF_false (w : World) (os : OsState) : (HandSHeadRun.endF (HandSHeadRun.stepQ (HandSHeadRun.denQ HandSHeadRun.tabQ) R.prog (fixB w false)) 12000 R.prog (fixB w false) os).map (fun s => (fns.all fun d => (He.Fa.code d.at_ d.qual).ok (kS s), fns.map fun d => He.fnObs (kS s) d.at_)) = some (true, fns.map He.FnD.val) := by kernel_rfl
theorem rrunF_b (b : Bool) (w : World) (os : OsState) : (HandSHeadRun.endF (HandSHeadRun.stepQ (HandSHeadRun.denQ HandSHeadRun.tabQ) R.prog (fixB w b)) 12000 R.prog (fixB w b) os).map (fun s => (fns.all fun d => (He.Fa.code d.at_ d.qual).ok (kS s), fns.map fun d => He.fnObs (kS s) d.at_)) = some (true, fns.map He.FnD.val) := by
  cases b
  · exact rrunF_false w os
  · exact rrunF_true w os
theorem rrunF (w : World) (os : OsState) : (HandSHeadRun.endF (HandSHeadRun.stepQ (HandSHeadRun.denQ HandSHeadRun.tabQ) R.prog w) 12000 R.prog w os).map (fun s => (fns.all fun d => (He.Fa.code d.at_ d.qual).ok (kS s), fns.map fun d => He.fnObs (kS s) d.at_)) = some (true, fns.map He.FnD.val) := by
  have h := rrunF_b (w.params.followText "special-get-raises") w os
  rw [fixB_eq] at h
  exact h
theorem rrunG_true (w : World) (os : OsState) : (HandSHeadRun.endF (HandSHeadRun.stepQ (HandSHeadRun.denQ HandSHeadRun.tabQ) R.prog (fixB w true)) 12000 R.prog (fixB w true) os).map (fun s => allB (good (kS s))) = some true := by kernel_rfl
theorem rrunG_false (w : World) (os : OsState) : (HandSHeadRun.endF (HandSHeadRun.stepQ (HandSHeadRun.denQ HandSHeadRun.tabQ) R.prog (fixB w false)) 12000 R.prog (fixB w false) os).map (fun s => allB (good (kS s))) = some true := by kernel_rfl
theorem rrunG_b (b : Bool) (w : World) (os : OsState) : (HandSHeadRun.endF (HandSHeadRun.stepQ (HandSHeadRun.denQ HandSHeadRun.tabQ) R.prog (fixB w b)) 12000 R.prog (fixB w b) os).map (fun s => allB (good (kS s))) = some true := by
  cases b
  · exact rrunG_false w os
  · exact rrunG_true w os
theorem rrunG (w : World) (os : OsState) : (HandSHeadRun.endF (HandSHeadRun.stepQ (HandSHeadRun.denQ HandSHeadRun.tabQ) R.prog w) 12000 R.prog w os).map (fun s => allB (good (kS s))) = some true := by
  have h := rrunG_b (w.params.followText "special-get-raises") w os
  rw [fixB_eq] at h
  exact h
theorem rrunT_true (w : World) (os : OsState) : (HandSHeadRun.endF (HandSHeadRun.stepQ (HandSHeadRun.denQ HandSHeadRun.tabQ) R.prog (fixB w true)) 12000 R.prog (fixB w true) os).map (fun s => ts.map fun t => He.dicW (kS s) (t.1 (kS s))) = some (ts.map fun t => some (He.keysIn (fixB w true).params t.2)) := by kernel_rfl
theorem rrunT_false (w : World) (os : OsState) : (HandSHeadRun.endF (HandSHeadRun.stepQ (HandSHeadRun.denQ HandSHeadRun.tabQ) R.prog (fixB w false)) 12000 R.prog (fixB w false) os).map (fun s => ts.map fun t => He.dicW (kS s) (t.1 (kS s))) = some (ts.map fun t => some (He.keysIn (fixB w false).params t.2)) := by kernel_rfl
theorem rrunT_b (b : Bool) (w : World) (os : OsState) : (HandSHeadRun.endF (HandSHeadRun.stepQ (HandSHeadRun.denQ HandSHeadRun.tabQ) R.prog (fixB w b)) 12000 R.prog (fixB w b) os).map (fun s => ts.map fun t => He.dicW (kS s) (t.1 (kS s))) = some (ts.map fun t => some (He.keysIn (fixB w b).params t.2)) := by
  cases b
  · exact rrunT_false w os
  · exact rrunT_true w os
theorem rrunT (w : World) (os : OsState) : (HandSHeadRun.endF (HandSHeadRun.stepQ (HandSHeadRun.denQ HandSHeadRun.tabQ) R.prog w) 12000 R.prog w os).map (fun s => ts.map fun t => He.dicW (kS s) (t.1 (kS s))) = some (ts.map fun t => some (He.keysIn w.params t.2)) := by
  have h := rrunT_b (w.params.followText "special-get-raises") w os
  rw [fixB_eq] at h
  exact h
theorem rrun (w : World) : HandSHeadRun.RunEq R (PySem.W.view R.prog [159]) hk ob 12000 loose w := run_split (rrun0 w) fun os => obs_joinT (k := kS) (obs_join (k := kS) (rrunG w os) (rrunF w os)) (rrunT w os)
end V4.C_k90
namespace L3
open PySem PySem.Spec PyProof.Rows L2
inductive U where
  | none
  | bool (b : Bool)
  | int (i : Int)
  | str (x : Str)
  | list (xs : List U)
  | tuple (xs : List U)
  | dict (kvs : List (Key × U))
  /-- a dict by tuples of whole numbers and texts -/
  | dictT (kvs : List (List Key × U))
  /-- a thing of the class named C -/
  | ins (C : Str) (fs : List (Str × U))
  /-- what main has by the name x: a def -/
  | fn (x : Str)
  /-- a tuple of the module, not of our heap -/
  | tupK (xs : List U)
  /-- an error of the class C; hd: it has a dict, fs -/
  | err (C : Str) (hd : Bool) (fs : List (Str × U))
structure Err where
  cls : Str
  fields : Option (List (Str × U))
inductive Out (S β : Type) where
  | ok (b : β) (s : S)
  | exc (e : Err) (s : S)
  | stuck
abbrev StM (S β : Type) : Type := S → Out S β
section
variable {S β γ δ : Type}
def Out.wp (o : Out S β) (P : β → S → Prop) (E : Err → S → Prop) : Prop :=
  match o with
  | .ok b s => P b s
  | .exc e s => E e s
  | .stuck => False
def StM.pure (b : β) : StM S β := fun s => .ok b s
def StM.bind (m : StM S β) (f : β → StM S γ) : StM S γ := fun s =>
  match m s with
  | .ok b s' => f b s'
  | .exc e s' => .exc e s'
  | .stuck => .stuck
def StM.fail : StM S β := fun _ => .stuck
def StM.ofOpt (o : Option β) : StM S β := match o with | some b => StM.pure b | none => StM.fail
theorem wp_mono {o : Out S β} {P P' : β → S → Prop} {E E' : Err → S → Prop} (h : o.wp P E) (hp : ∀ b s, P b s → P' b s) (he : ∀ e s, E e s → E' e s) : o.wp P' E' := by
  cases o with
  | ok b s => exact hp _ _ h
  | exc e s => exact he _ _ h
  | stuck => exact h
theorem wp_bind {m : StM S β} {f : β → StM S γ} {s : S} {P : γ → S → Prop} {E : Err → S → Prop} : (StM.bind m f s).wp P E ↔ (m s).wp (fun b s' => (f b s').wp P E) E := by
  unfold StM.bind Out.wp
  cases m s <;> exact Iff.rfl
end
/-- what a block comes to -/
inductive Fl (T ρ : Type) where
  | nx (t : T) | ct (t : T) | bk (t : T) | ret (r : ρ)
section
variable {S T ρ α : Type}
def Fl.after (k : T → StM S ρ) : Fl T ρ → StM S ρ
  | .nx t => k t
  | .ret r => .pure r
  | _ => .fail
end
def Ex (H H' : Hp) : Prop := ∀ a o, H a = some o → H' a = some o
theorem Ex.refl (H : Hp) : Ex H H := fun _ _ h => h
theorem Ex.trans {H H1 H2 : Hp} (a : Ex H H1) (b : Ex H1 H2) : Ex H H2 := fun x o h => b x o (a x o h)
theorem Ex.new {H : Hp} {p : Addr} {o : HO} (h : H p = none) : Ex H (upd H p o) := fun a u e => by
  rw [upd_ne (ne_of_none e h)]
  exact e
theorem Ex.back {H H' : Hp} {p : Addr} (e : Ex H H') (h : H' p = none) : H p = none := by
  cases h1 : H p with
  | none => rfl
  | some o => rw [e p o h1] at h; cases h
theorem Ex.mut {H H' : Hp} {p : Addr} {o : HO} (e : Ex H H') (h : H p = none) : Ex H (upd H' p o) := fun a u ha => by
  rw [upd_ne (ne_of_none ha h)]
  exact e a u ha
theorem Ex.both {H H' : Hp} {p : Addr} {o : HO} (e : Ex H H') : Ex (upd H p o) (upd H' p o) := fun a u ha => by
  by_cases h : a = p
  · subst h; rw [upd_same] at ha ⊢; exact ha
  · rw [upd_ne h] at ha ⊢; exact e a u ha
theorem Ex.put {H H' : Hp} {p : Addr} {o : HO} (e : Ex H H') (h : H' p = some o) : Ex (upd H p o) H' := fun a u ha => by
  by_cases hp : a = p
  · subst hp; rw [upd_same] at ha; cases ha; exact h
  · rw [upd_ne hp] at ha; exact e a u ha
structure Pv where
  p : Hp → V → Prop
  mono : ∀ {G G' : Hp} {v : V}, Ex G G' → p G v → p G' v
structure Po where
  q : Hp → HO → Prop
  mono : ∀ {G G' : Hp} {o : HO}, Ex G G' → q G o → q G' o
structure Pb where
  b : Hp → Hp → V → Prop
  mono : ∀ {G G' H H' : Hp} {v : V}, Ex G G' → Ex H H' → b G H v → b G' H' v
/-- what a slot holds: nothing known, a frozen value, an object of our own, a thing that is read -/
inductive Sl where
  | un
  | im (p : Pv)
  | ow (ad : Option Addr) (q : Po)
  | bo (b : Pb)
abbrev Gam := List Sl
def Keep (M : Addr → Prop) (H H' : Hp) : Prop := ∀ a o, H a = some o → ¬ M a → H' a = some o
def Post (M : Addr → Prop) (G H G' H' : Hp) : Prop := Ex G G' ∧ ∀ a o, H a = some o → ¬ M a → H' a = some o ∧ G' a = G a
def NoM : Addr → Prop := fun _ => False
def isDct : HO → Bool
  | .dK _ | .dT _ => true
  | _ => false
/-- only new things, among the frozen ones no dict that could be written -/
structure Grow (G H G' H' : Hp) : Prop where
  post : Post NoM G H G' H'
  sub : Ex G' H'
  nd : ∀ a o, G' a = some o → G a = none → isDct o = false
theorem Post.refl {M : Addr → Prop} {G H : Hp} : Post M G H G H := ⟨Ex.refl G, fun _ _ h _ => ⟨h, rfl⟩⟩
theorem Post.trans {M M1 : Addr → Prop} {G H G1 H1 G2 H2 : Hp} (a : Post M G H G1 H1) (b : Post M1 G1 H1 G2 H2) (hm : ∀ x o, H x = some o → M1 x → M x) : Post M G H G2 H2 :=
  ⟨a.1.trans b.1, fun x o h hx => by
    obtain ⟨h1, g1⟩ := a.2 x o h hx
    obtain ⟨h2, g2⟩ := b.2 x o h1 fun z => hx (hm x o h z)
    exact ⟨h2, g2.trans g1⟩⟩
theorem Post.mono {M M' : Addr → Prop} {G H G' H' : Hp} (a : Post M G H G' H') (h : ∀ x, M x → M' x) : Post M' G H G' H' := ⟨a.1, fun x o e n => a.2 x o e fun z => n (h x z)⟩
theorem Post.keep {M : Addr → Prop} {G H G' H' : Hp} (a : Post M G H G' H') : Keep M H H' := fun x o h n => (a.2 x o h n).1
theorem Grow.refl {G H : Hp} (h : Ex G H) : Grow G H G H := ⟨Post.refl, h, fun a o e n => by rw [n] at e; cases e⟩
theorem Grow.trans {G H G1 H1 G2 H2 : Hp} (a : Grow G H G1 H1) (b : Grow G1 H1 G2 H2) : Grow G H G2 H2 := ⟨a.1.trans b.1 fun _ _ _ z => z, b.2, fun x o e n => by
  cases h : G1 x with
  | none => exact b.nd x o e h
  | some u =>
    have z := b.1.1 x u h
    rw [e] at z; cases z
    exact a.nd x _ h n⟩
theorem Grow.ex {G H G' H' : Hp} (a : Grow G H G' H') : Ex G G' := a.1.1
theorem Grow.exH {G H G' H' : Hp} (a : Grow G H G' H') : Ex H H' := fun x o h => (a.1.2 x o h fun z => z).1
/-- a new object, our own | frozen -/
theorem Grow.new {G H : Hp} {p : Addr} {o : HO} (h : Ex G H) (n : H p = none) : Grow G H G (upd H p o) :=
  ⟨⟨Ex.refl G, fun a u e _ => ⟨by rw [upd_ne (ne_of_none e n)]; exact e, rfl⟩⟩, fun a u e => by
    rw [upd_ne (ne_of_none (h a u e) n)]
    exact h a u e, fun a o e n => by rw [n] at e; cases e⟩
theorem Grow.newF {G H : Hp} {p : Addr} {o : HO} (h : Ex G H) (n : H p = none) (hd : isDct o = false := by rfl) : Grow G H (upd G p o) (upd H p o) :=
  ⟨⟨Ex.new (Ex.back h n), fun a u e _ => ⟨by rw [upd_ne (ne_of_none e n)]; exact e, by rw [upd_ne (ne_of_none e n)]⟩⟩, Ex.both h, fun a u e ng => by
    by_cases z : a = p
    · subst z; rw [upd_same] at e; cases e; exact hd
    · rw [upd_ne z, ng] at e; cases e⟩
def SlotOk (M : Addr → Prop) (H0 G H : Hp) (x : Option (Option V)) : Sl → Prop
  | .un => True
  | .im p => ∃ v, x = some (some v) ∧ p.p G v
  | .ow ad q => ∃ l o, x = some (some (V.ref l)) ∧ G l = none ∧ H l = some o ∧ q.q G o ∧ (M l ∨ H0 l = none) ∧ ∀ r, ad = some r → l = r
  | .bo b => ∃ v, x = some (some v) ∧ ∀ H', Keep M H0 H' → b.b G H' v
/-- what may be put into a slot -/
def Asg : Sl → Prop
  | .bo _ => False
  | .ow (some _) _ => False
  | _ => True
structure At (M : Addr → Prop) (G0 H0 : Hp) (Γ : Gam) (G H : Hp) (σ : L2.St) : Prop where
  len : σ.length = Γ.length
  sub : Ex G H
  post : Post M G0 H0 G H
  mt : ∀ a, M a → ∃ o, H a = some o
  slot : ∀ (i : Nat) (s : Sl), Γ[i]? = some s → SlotOk M H0 G H σ[i]? s
  dist : ∀ (i j : Nat) (a b : Option Addr) (q q' : Po) (l : Addr), Γ[i]? = some (Sl.ow a q) → Γ[j]? = some (Sl.ow b q') → σ[i]? = some (some (V.ref l)) → σ[j]? = some (some (V.ref l)) → i = j
def OwnA (Γ : Gam) (σ : L2.St) (a : Addr) : Prop := ∃ (i : Nat) (ad : Option Addr) (q : Po), Γ[i]? = some (Sl.ow ad q) ∧ σ[i]? = some (some (V.ref a))
def Rok (s : Sl) (H0 G H : Hp) (v : V) : Prop :=
  match s with
  | .un => True
  | .im p => p.p G v
  | .ow _ q => ∃ l o, v = V.ref l ∧ H0 l = none ∧ G l = none ∧ H l = some o ∧ q.q G o
  | .bo b => b.b G H v
theorem Rok.grow {s : Sl} {H0 G H G' H' : Hp} {v : V} (r : Rok s H0 G H v) (g : Grow G H G' H') : Rok s H0 G' H' v := by
  cases s with
  | un => trivial
  | im p => exact p.mono g.ex r
  | ow ad q =>
    obtain ⟨l, o, e, h0, hg, hh, hq⟩ := r
    obtain ⟨h1, g1⟩ := g.1.2 l o hh fun z => z
    exact ⟨l, o, e, h0, g1.trans hg, h1, q.mono g.ex hq⟩
  | bo b => exact b.mono g.ex g.exH r
section
variable {M : Addr → Prop} {G0 H0 G H G' H' : Hp} {Γ : Gam} {σ : L2.St}
theorem At.fresh (a : At M G0 H0 Γ G H σ) {p : Addr} (h : H p = none) : H0 p = none ∧ ¬ M p := by
  have hm : ¬ M p := fun z => by
    obtain ⟨o, e⟩ := a.mt p z
    rw [h] at e; cases e
  refine ⟨?_, hm⟩
  cases e : H0 p with
  | none => rfl
  | some o =>
    have z := (a.post.2 p o e hm).1
    rw [h] at z; cases z
theorem At.grow (a : At M G0 H0 Γ G H σ) (g : Grow G H G' H') : At M G0 H0 Γ G' H' σ where
  len := a.len
  sub := g.2
  post := a.post.trans g.1 fun _ _ _ z => z.elim
  mt := fun x z => let ⟨o, e⟩ := a.mt x z; ⟨o, g.exH x o e⟩
  slot := fun i s e => by
    have z := a.slot i s e
    cases s with
    | un => trivial
    | im p => obtain ⟨v, e1, e2⟩ := z; exact ⟨v, e1, p.mono g.ex e2⟩
    | ow ad q =>
      obtain ⟨l, o, e1, e2, e3, e4, e5, e6⟩ := z
      obtain ⟨h1, g1⟩ := g.1.2 l o e3 fun z => z
      exact ⟨l, o, e1, g1.trans e2, h1, q.mono g.ex e4, e5, e6⟩
    | bo b => obtain ⟨v, e1, e2⟩ := z; exact ⟨v, e1, fun H' k => b.mono g.ex (Ex.refl _) (e2 H' k)⟩
  dist := a.dist
theorem OwnA.ne {p : Addr} (a : At M G0 H0 Γ G H σ) (h : OwnA Γ σ p) : ∃ o, H p = some o := by
  obtain ⟨i, ad, q, e1, e2⟩ := h
  obtain ⟨l, o, e3, _, e4, _⟩ := a.slot i _ e1
  rw [e2] at e3
  cases e3
  exact ⟨o, e4⟩
/-- weaker slots -/
inductive Wk : Gam → Gam → Prop
  | nil : Wk [] []
  | s {x : Sl} {Γ Γ' : Gam} : Wk Γ Γ' → Wk (x :: Γ) (x :: Γ')
  | d {x : Sl} {Γ Γ' : Gam} : Wk Γ Γ' → Wk (x :: Γ) (.un :: Γ')
theorem Wk.refl : ∀ Γ : Gam, Wk Γ Γ
  | [] => .nil
  | _ :: Γ => .s (Wk.refl Γ)
theorem Wk.get : ∀ {Γ Γ' : Gam} {i : Nat} {s : Sl}, Wk Γ Γ' → Γ'[i]? = some s → s = .un ∨ Γ[i]? = some s
  | _, _, _, _, .nil, e => by simp at e
  | _, _, 0, _, .s _, e => .inr e
  | _, _, 0, _, .d _, e => by simp at e; exact .inl e.symm
  | _, _, i + 1, z, .s w, e => by simpa using Wk.get (i := i) (s := z) w (by simpa using e)
  | _, _, i + 1, z, .d w, e => by simpa using Wk.get (i := i) (s := z) w (by simpa using e)
theorem Wk.len : ∀ {Γ Γ' : Gam}, Wk Γ Γ' → Γ.length = Γ'.length
  | _, _, .nil => rfl
  | _, _, .s w => by simp [Wk.len w]
  | _, _, .d w => by simp [Wk.len w]
theorem At.weak {Γ' : Gam} (a : At M G0 H0 Γ G H σ) (w : Wk Γ Γ') : At M G0 H0 Γ' G H σ where
  len := a.len.trans w.len
  sub := a.sub
  post := a.post
  mt := a.mt
  slot := fun i s e => by
    rcases w.get e with rfl | e'
    · trivial
    · exact a.slot i s e'
  dist := fun i j x y q q' l e1 e2 => by
    rcases w.get e1 with z | e1'
    · cases z
    · rcases w.get e2 with z | e2'
      · cases z
      · exact a.dist i j x y q q' l e1' e2'
end
end L3
namespace L3
open PySem PySem.Spec PyProof.Rows L2
section
variable {X : Cx} {e : Expr} {σ : L2.St} {H : Hp}
def SE (X : Cx) (e : Expr) : TE := fun σ H Q => ∀ (pins : List (Addr × Obj)) (s : Shared), Inv X pins σ H s → wpAny (model X.prog X.w) X.A (eval e X.env) (EP X pins σ Q) X.xe s
def ST (X : Cx) (e : Expr) : TT := fun σ H Q => ∀ (pins : List (Addr × Obj)) (s : Shared), Inv X pins σ H s → wpAny (model X.prog X.w) X.A (isTrue e X.env (eval e X.env)) (TP X pins σ Q) X.xe s
def SW (X : Cx) (e : Expr) : TT := fun σ H Q => ∀ (whole : Sem Value) (pins : List (Addr × Obj)) (s : Shared), Inv X pins σ H s → wpAny (model X.prog X.w) X.A (isTrue e X.env whole) (TP X pins σ Q) X.xe s
def SA (X : Cx) (es : List Expr) : TA := fun σ H Q => ∀ (pos : Pos) (pins : List (Addr × Obj)) (s : Shared), Inv X pins σ H s → wpAny (model X.prog X.w) X.A (spliced (backTo pos (starEach es X.env))) (AP X pins σ Q) X.xe s
def SS (X : Cx) (st : Stmt) : TS := fun D σ H => ∀ (pins : List (Addr × Obj)) (s : Shared), Inv X pins σ H s → wpAny (model X.prog X.w) X.A (exec st X.env) (SP X pins D) X.xe s
def SB (X : Cx) (st : List Stmt) : TS := fun D σ H => ∀ (pins : List (Addr × Obj)) (s : Shared), Inv X pins σ H s → wpAny (model X.prog X.w) X.A (execs st X.env) (SP X pins D) X.xe s
theorem pe_se : PE X e (SE X e) := ⟨fun pins s _ _ _ I h => h pins s I⟩
theorem pt_st : PT X e (ST X e) := ⟨fun pins s _ _ _ I h => h pins s I⟩
theorem pw_sw : PW X e (SW X e) := ⟨fun wh pins s _ _ _ I h => h wh pins s I⟩
theorem pa_sa {es : List Expr} : PA X es (SA X es) := ⟨fun pos pins s _ _ _ I h => h pos pins s I⟩
theorem ps_ss {st : Stmt} : PS X st (SS X st) := ⟨fun pins s _ _ _ I h => h pins s I⟩
theorem pss_sb {st : List Stmt} : PSs X st (SB X st) := ⟨fun pins s _ _ _ I h => h pins s I⟩
theorem SE.of {t : TE} {Q : VK} (h : PE X e t) (q : t σ H Q) : SE X e σ H Q := fun pins s I => h.run pins s σ H Q I q
theorem ST.of {t : TT} {Q : Bool → Hp → Prop} (h : PT X e t) (q : t σ H Q) : ST X e σ H Q := fun pins s I => h.run pins s σ H Q I q
theorem SW.of {t : TT} {Q : Bool → Hp → Prop} (h : PW X e t) (q : t σ H Q) : SW X e σ H Q := fun wh pins s I => h.run wh pins s σ H Q I q
theorem SA.of {es : List Expr} {t : TA} {Q : List V → Hp → Prop} (h : PA X es t) (q : t σ H Q) : SA X es σ H Q := fun pos pins s I => h.run pos pins s σ H Q I q
theorem SS.of {st : Stmt} {t : TS} {D : Ends} (h : PS X st t) (q : t D σ H) : SS X st D σ H := fun pins s I => h.run pins s σ H D I q
theorem SB.of {st : List Stmt} {t : TS} {D : Ends} (h : PSs X st t) (q : t D σ H) : SB X st D σ H := fun pins s I => h.run pins s σ H D I q
end
/-- the class that the main module has by that name -/
def clsAt (K : PySem.W.Frag) (x : Str) : Addr := match PySem.W.nsIn K mainGlobals x with
  | some (some (.ref a)) => a
  | _ => 0
/-- a tuple of the module -/
def KTup (K : PySem.W.Frag) (a : Addr) (xs : List V) : Prop := ∃ (o : Obj) (its : Array Value) (n : Nat), K.lookup a = some o ∧ o.cls = .type "tuple" ∧ o.data = .seq its n ∧ its.size ≤ sizeLine ∧ Vals xs its.toList
/-- at a: an error of the class c, its dict at d -/
def errO (c : Value) (a : Addr) (d : Option Addr) : HO := .ext fun h => ∃ o : Obj, h.get? a = some o ∧ o.cls = c ∧ o.dict = d ∧ ∃ vs, o.data = .fields vs
mutual
inductive Dq (K : PySem.W.Frag) (H : Hp) : V → U → Prop
  | non : Dq K H .non .none
  | bl (b : Bool) : Dq K H (.bl b) (.bool b)
  | int (i : Int) : Dq K H (.int i) (.int i)
  | str (x : Str) (h : PyData.strOk x = true) : Dq K H (.str x) (.str x)
  | lst {a : Addr} {xs : List V} {ds : List U} : SqL K H a xs → DqAll K H xs ds → Dq K H (V.ref a) (.list ds)
  | tup {a : Addr} {xs : List V} {ds : List U} : H a = some (.tup xs) → DqAll K H xs ds → Dq K H (V.ref a) (.tuple ds)
  | dct {a : Addr} {kvs : List (Key × V)} {ds : List (Key × U)} : Rd H a (.dK kvs) → DqKvs K H kvs ds → Dq K H (V.ref a) (.dict ds)
  | dctT {a : Addr} {kvs : List (List Key × V)} {ds : List (List Key × U)} : Rd H a (.dT kvs) → DqKts K H kvs ds → Dq K H (V.ref a) (.dictT ds)
  | ins {a dx : Addr} {C : Str} {fvs : List (Str × V)} {fs : List (Str × U)} : H a = some (.ins (clsAt K C) dx fvs) → DqFs K H fvs fs → Dq K H (V.ref a) (.ins C fs)
  | fn (x : Str) : Dq K H (V.ref (clsAt K x)) (.fn x)
  | tupK {a : Addr} {xs : List V} {ds : List U} : KTup K a xs → DqAll K H xs ds → Dq K H (V.ref a) (.tupK ds)
  | err {a : Addr} {C : Str} : H a = some (errO (.ref (clsAt K C)) a none) → Dq K H (V.ref a) (.err C false [])
  | errF {a dd : Addr} {C : Str} {fvs : List (Str × V)} {fs : List (Str × U)} : H a = some (errO (.ref (clsAt K C)) a (some dd)) → H dd = some (.xd fvs) → DqFs K H fvs fs → Dq K H (V.ref a) (.err C true fs)
inductive DqAll (K : PySem.W.Frag) (H : Hp) : List V → List U → Prop
  | nil : DqAll K H [] []
  | cons {v : V} {vs : List V} {d : U} {ds : List U} : Dq K H v d → DqAll K H vs ds → DqAll K H (v :: vs) (d :: ds)
inductive DqKvs (K : PySem.W.Frag) (H : Hp) : List (Key × V) → List (Key × U) → Prop
  | nil : DqKvs K H [] []
  | cons {k : Key} {v : V} {kvs : List (Key × V)} {d : U} {ds : List (Key × U)} : Dq K H v d → DqKvs K H kvs ds → DqKvs K H ((k, v) :: kvs) ((k, d) :: ds)
inductive DqKts (K : PySem.W.Frag) (H : Hp) : List (List Key × V) → List (List Key × U) → Prop
  | nil : DqKts K H [] []
  | cons {k : List Key} {v : V} {kvs : List (List Key × V)} {d : U} {ds : List (List Key × U)} : Dq K H v d → DqKts K H kvs ds → DqKts K H ((k, v) :: kvs) ((k, d) :: ds)
inductive DqFs (K : PySem.W.Frag) (H : Hp) : List (Str × V) → List (Str × U) → Prop
  | nil : DqFs K H [] []
  | cons {k : Str} {v : V} {kvs : List (Str × V)} {d : U} {ds : List (Str × U)} : Dq K H v d → DqFs K H kvs ds → DqFs K H ((k, v) :: kvs) ((k, d) :: ds)
end
theorem sqL_ex {K : PySem.W.Frag} {H H' : Hp} {a : Addr} {xs : List V} (x : Ex H H') (h : SqL K H a xs) : SqL K H' a xs := by
  rcases h with (z | ⟨o, z⟩) | z
  · exact .inl (.inl (x _ _ z))
  · exact .inl (.inr ⟨o, x _ _ z⟩)
  · exact .inr z
theorem sqT_ex {K : PySem.W.Frag} {H H' : Hp} {a : Addr} {xs : List V} (x : Ex H H') (h : SqT K H a xs) : SqT K H' a xs := by
  rcases h with (z | ⟨o, z⟩) | z
  · exact .inl (.inl (x _ _ z))
  · exact .inl (.inr ⟨o, x _ _ z⟩)
  · exact .inr z
mutual
theorem dp_ex {K : PySem.W.Frag} {H H' : Hp} (x : Ex H H') : ∀ (d : U) (v : V), Dq K H v d → Dq K H' v d
  | .none, _, h => by cases h; exact .non
  | .bool _, _, h => by cases h; exact .bl _
  | .int _, _, h => by cases h; exact .int _
  | .str _, _, h => by cases h with | str _ h => exact .str _ h
  | .list ds, _, h => by cases h with | lst hs ha => exact .lst (sqL_ex x hs) (dpAll_ex x ds _ ha)
  | .tuple ds, _, h => by cases h with | tup hs ha => exact .tup (x _ _ hs) (dpAll_ex x ds _ ha)
  | .dict ds, _, h => by cases h with | dct hs ha => exact .dct (hs.imp (x _ _) fun ⟨o, z⟩ => ⟨o, x _ _ z⟩) (dpKvs_ex x ds _ ha)
  | .dictT ds, _, h => by cases h with | dctT hs ha => exact .dctT (hs.imp (x _ _) fun ⟨o, z⟩ => ⟨o, x _ _ z⟩) (dpKts_ex x ds _ ha)
  | .ins C fs, _, h => by cases h with | ins hs ha => exact .ins (x _ _ hs) (dpFs_ex x fs _ ha)
  | .fn z, _, h => by cases h; exact .fn z
  | .tupK ds, _, h => by cases h with | tupK hs ha => exact .tupK hs (dpAll_ex x ds _ ha)
  | .err _ _ fs, _, h => by
    cases h with
    | err h1 => exact .err (x _ _ h1)
    | errF h1 h2 h3 => exact .errF (x _ _ h1) (x _ _ h2) (dpFs_ex x fs _ h3)
theorem dpAll_ex {K : PySem.W.Frag} {H H' : Hp} (x : Ex H H') : ∀ (ds : List U) (vs : List V), DqAll K H vs ds → DqAll K H' vs ds
  | [], _, h => by cases h; exact .nil
  | d :: ds, _, h => by
    cases h with
    | cons h1 h2 => exact .cons (dp_ex x d _ h1) (dpAll_ex x ds _ h2)
theorem dpKvs_ex {K : PySem.W.Frag} {H H' : Hp} (x : Ex H H') : ∀ (ds : List (Key × U)) (kvs : List (Key × V)), DqKvs K H kvs ds → DqKvs K H' kvs ds
  | [], _, h => by cases h; exact .nil
  | (_, d) :: ds, _, h => by
    cases h with
    | cons h1 h2 => exact .cons (dp_ex x d _ h1) (dpKvs_ex x ds _ h2)
theorem dpKts_ex {K : PySem.W.Frag} {H H' : Hp} (x : Ex H H') : ∀ (ds : List (List Key × U)) (kvs : List (List Key × V)), DqKts K H kvs ds → DqKts K H' kvs ds
  | [], _, h => by cases h; exact .nil
  | (_, d) :: ds, _, h => by
    cases h with
    | cons h1 h2 => exact .cons (dp_ex x d _ h1) (dpKts_ex x ds _ h2)
theorem dpFs_ex {K : PySem.W.Frag} {H H' : Hp} (x : Ex H H') : ∀ (ds : List (Str × U)) (kvs : List (Str × V)), DqFs K H kvs ds → DqFs K H' kvs ds
  | [], _, h => by cases h; exact .nil
  | (_, d) :: ds, _, h => by
    cases h with
    | cons h1 h2 => exact .cons (dp_ex x d _ h1) (dpFs_ex x ds _ h2)
end
mutual
def noDct : U → Bool
  | .none | .bool _ | .int _ | .str _ => true
  | .list ds | .tuple ds => noDcts ds
  | _ => false
def noDcts : List U → Bool
  | [] => true
  | d :: ds => noDct d && noDcts ds
end
mutual
def U.py : U → PyData
  | .bool b => .bool b
  | .int i => .int i
  | .str x => .str x
  | .list ds => .list (U.pys ds)
  | .tuple ds => .tuple (U.pys ds)
  | _ => .none
def U.pys : List U → List PyData
  | [] => []
  | d :: ds => U.py d :: U.pys ds
end
mutual
theorem dq_dp {K : PySem.W.Frag} {H : Hp} : ∀ (d : U) (v : V), noDct d = true → Dq K H v d → Dp K H v d.py ∧ d.py.canLay0 = true
  | .none, _, _, h => by cases h; exact ⟨by simpa [U.py] using Dp.non, by simp [U.py, PyData.canLay0]⟩
  | .bool _, _, _, h => by cases h; exact ⟨by simpa [U.py] using Dp.bl _, by simp [U.py, PyData.canLay0]⟩
  | .int _, _, _, h => by cases h; exact ⟨by simpa [U.py] using Dp.int _, by simp [U.py, PyData.canLay0]⟩
  | .str _, _, _, h => by cases h with | str _ h => exact ⟨by simpa [U.py] using Dp.str _, by simpa [U.py, PyData.canLay0] using h⟩
  | .list ds, _, c, h => by
    cases h with
    | lst hs ha =>
      obtain ⟨a, b⟩ := dqAll_dp ds _ (by simpa [noDct] using c) ha
      exact ⟨by simpa [U.py] using Dp.lst hs a, by simpa [U.py, PyData.canLay0] using b⟩
  | .tuple ds, _, c, h => by
    cases h with
    | tup hs ha =>
      obtain ⟨a, b⟩ := dqAll_dp ds _ (by simpa [noDct] using c) ha
      exact ⟨by simpa [U.py] using Dp.tup (.inl (.inl hs)) a, by simpa [U.py, PyData.canLay0] using b⟩
  | .dict ds, _, c, h => by simp [noDct] at c
  | .dictT ds, _, c, h => by simp [noDct] at c
  | .ins _ _, _, c, h => by simp [noDct] at c
  | .fn _, _, c, h => by simp [noDct] at c
  | .tupK _, _, c, h => by simp [noDct] at c
  | .err _ _ _, _, c, h => by simp [noDct] at c
theorem dqAll_dp {K : PySem.W.Frag} {H : Hp} : ∀ (ds : List U) (vs : List V), noDcts ds = true → DqAll K H vs ds → DpAll K H vs (U.pys ds) ∧ PyData.canLayAll0 (U.pys ds) = true
  | [], _, _, h => by cases h; exact ⟨by simpa [U.pys] using DpAll.nil, by simp [U.pys, PyData.canLayAll0]⟩
  | d :: ds, _, c, h => by
    simp only [noDcts, Bool.and_eq_true] at c
    cases h with
    | cons h1 h2 =>
      obtain ⟨a1, b1⟩ := dq_dp d _ c.1 h1
      obtain ⟨a2, b2⟩ := dqAll_dp ds _ c.2 h2
      exact ⟨by simpa [U.pys] using DpAll.cons a1 a2, by simp [U.pys, PyData.canLayAll0, b1, b2]⟩
end
section
variable {K : PySem.W.Frag} {H : Hp}
theorem dpAll_len : ∀ {vs : List V} {ds : List U}, DqAll K H vs ds → vs.length = ds.length
  | _, [], h => by cases h; rfl
  | _, _ :: _, h => by cases h with | cons _ h2 => simp [dpAll_len h2]
theorem dpAll_get : ∀ {vs : List V} {ds : List U} {i : Nat} {d : U}, DqAll K H vs ds → ds[i]? = some d → ∃ v, vs[i]? = some v ∧ Dq K H v d
  | _, [], _, _, _, e => by simp at e
  | _, _ :: _, 0, _, h, e => by
    cases h with
    | cons h1 h2 => simp at e; subst e; exact ⟨_, rfl, h1⟩
  | _, _ :: _, i + 1, d, h, e => by
    cases h with
    | cons h1 h2 =>
      obtain ⟨v, a, b⟩ := dpAll_get (i := i) h2 (by simpa using e)
      exact ⟨v, by simpa using a, b⟩
theorem dpAll_append : ∀ {vs ws : List V} {ds es : List U}, DqAll K H vs ds → DqAll K H ws es → DqAll K H (vs ++ ws) (ds ++ es)
  | _, _, [], _, h, q => by cases h; exact q
  | _, _, _ :: _, _, h, q => by cases h with | cons h1 h2 => exact .cons h1 (dpAll_append h2 q)
theorem dpAll_take : ∀ {vs : List V} {ds : List U} (n : Nat), DqAll K H vs ds → DqAll K H (vs.take n) (ds.take n)
  | _, _, 0, _ => .nil
  | _, [], _ + 1, h => by cases h; exact .nil
  | _, _ :: _, n + 1, h => by cases h with | cons h1 h2 => exact .cons h1 (dpAll_take n h2)
theorem dpAll_drop : ∀ {vs : List V} {ds : List U} (n : Nat), DqAll K H vs ds → DqAll K H (vs.drop n) (ds.drop n)
  | _, _, 0, h => h
  | _, [], _ + 1, h => by cases h; exact .nil
  | _, _ :: _, n + 1, h => by cases h with | cons h1 h2 => exact dpAll_drop n h2
end
/-- plain data, frozen -/
def isD (K : PySem.W.Frag) (d : U) : Pv := ⟨fun G v => Dq K G v d, fun e h => dp_ex e _ _ h⟩
def Po.bo (q : Po) : Pb := ⟨fun G H v => ∃ l o, v = V.ref l ∧ H l = some o ∧ q.q G o, fun e e' ⟨l, o, h1, h2, h3⟩ => ⟨l, o, h1, e' _ _ h2, q.mono e h3⟩⟩
def ErrOk (K : PySem.W.Frag) (ca : Str → Addr) (e : Err) (c : Value) (d : Option Addr) (G : Hp) : Prop :=
  c = Value.ref (ca e.cls) ∧ match e.fields with
    | none => d = none
    | some fs => ∃ a fvs, d = some a ∧ G a = some (.xd fvs) ∧ Paired (fun (p : Str × V) (q : Str × U) => p.1 = q.1 ∧ Dq K G p.2 q.2) fvs fs
section
variable {S β γ δ : Type}
structure Shp (Γ Γ' : Gam) : Prop where
  to : ∀ (i : Nat) (a : Option Addr) (q : Po), Γ'[i]? = some (Sl.ow a q) → ∃ a' q', Γ[i]? = some (Sl.ow a' q')
  fro : ∀ (i : Nat) (a : Option Addr) (q : Po), Γ[i]? = some (Sl.ow a q) → ∃ a' q', Γ'[i]? = some (Sl.ow a' q')
theorem Shp.refl (Γ : Gam) : Shp Γ Γ := ⟨fun _ a q h => ⟨a, q, h⟩, fun _ a q h => ⟨a, q, h⟩⟩
theorem Shp.symm {A B : Gam} (x : Shp A B) : Shp B A := ⟨x.fro, x.to⟩
theorem Shp.trans {A B C : Gam} (x : Shp A B) (y : Shp B C) : Shp A C := ⟨fun i a q h => by
    obtain ⟨a', q', z⟩ := y.to i a q h
    exact x.to i a' q' z, fun i a q h => by
    obtain ⟨a', q', z⟩ := x.fro i a q h
    exact y.fro i a' q' z⟩
theorem Shp.own {A B : Gam} {σ : L2.St} {l : Addr} (x : Shp A B) (h : OwnA B σ l) : OwnA A σ l := by
  obtain ⟨i, ad, q, e, f⟩ := h
  obtain ⟨a', q', z⟩ := x.to i ad q e
  exact ⟨i, a', q', z, f⟩
/-- an own object's slot is given another word -/
theorem Shp.set {Γ : Gam} {i : Nat} {a b : Option Addr} {q p : Po} (h : Γ[i]? = some (Sl.ow a q)) : Shp Γ (Γ.set i (.ow b p)) := by
  have hl := (List.getElem?_eq_some_iff.mp h).1
  refine ⟨fun j c r e => ?_, fun j c r e => ?_⟩
  · by_cases hj : i = j
    · subst hj; exact ⟨a, q, h⟩
    · rw [List.getElem?_set_ne hj] at e; exact ⟨c, r, e⟩
  · by_cases hj : i = j
    · subst hj; exact ⟨b, p, List.getElem?_set_self hl⟩
    · exact ⟨c, r, by rw [List.getElem?_set_ne hj]; exact e⟩
structure Step (Γ Γ' : Gam) (σ : L2.St) (G H G' H' : Hp) : Prop where
  post : Post (OwnA Γ σ) G H G' H'
  shp : Shp Γ Γ'
theorem Step.refl {Γ : Gam} {σ : L2.St} {G H : Hp} : Step Γ Γ σ G H G H := ⟨Post.refl, Shp.refl Γ⟩
theorem Step.trans {A B C : Gam} {σ : L2.St} {G H G1 H1 G2 H2 : Hp} (x : Step A B σ G H G1 H1) (y : Step B C σ G1 H1 G2 H2) : Step A C σ G H G2 H2 :=
  ⟨x.post.trans y.post fun _ _ _ z => x.shp.own z, x.shp.trans y.shp⟩
theorem Step.fresh {A B : Gam} {M : Addr → Prop} {G0 H0 : Hp} {σ : L2.St} {G H G' H' : Hp} (x : Step A B σ G H G' H') (a : At M G0 H0 B G' H' σ) {l : Addr} (h : H' l = none) : H l = none := by
  cases hh : H l with
  | none => rfl
  | some u =>
    by_cases hO : OwnA A σ l
    · obtain ⟨o, z⟩ := OwnA.ne a (x.shp.symm.own hO)
      rw [h] at z; cases z
    · have z := (x.post.2 l u hh hO).1
      rw [h] at z; cases z
/-- what was new later is new -/
theorem Rok.since {s : Sl} {H H' G1 H1 : Hp} {v : V} (r : Rok s H' G1 H1 v) (h : ∀ l, H' l = none → H l = none) : Rok s H G1 H1 v := by
  cases s with
  | un => trivial
  | im p => exact r
  | ow ad p =>
    obtain ⟨l, o, e1, e2, e3⟩ := r
    exact ⟨l, o, e1, h l e2, e3⟩
  | bo p => exact r
theorem Grow.step {Γ : Gam} {σ : L2.St} {G H G' H' : Hp} (g : Grow G H G' H') : Step Γ Γ σ G H G' H' := ⟨g.1.mono fun _ z => z.elim, Shp.refl Γ⟩
/-- what a code that may raise is to fulfil -/
structure Env1 where
  W : WX
  ca : Str → Addr
abbrev ExcK (X : Cx) (w : Env1) (Γ : S → Gam) (M : Addr → Prop) (G0 H0 : Hp) (σ : L2.St) : Err → S → Prop :=
  fun e s' => ∀ c d G' H', At M G0 H0 (Γ s') G' H' σ → ErrOk X.K w.ca e c d G' → w.W c d σ H'
def EvE (X : Cx) (w : Env1) (Γ : S → Gam) (e : Expr) (m : StM S β) (R : β → Sl) : Prop := ∀ M G0 H0 G H σ s, At M G0 H0 (Γ s) G H σ → ∀ Q : VK,
  (m s).wp (fun b s' => ∀ v G' H', At M G0 H0 (Γ s') G' H' σ → Step (Γ s) (Γ s') σ G H G' H' → Rok (R b) H G' H' v → Q v H') (ExcK X w Γ M G0 H0 σ) → SE X e σ H Q
def TeE (X : Cx) (w : Env1) (Γ : S → Gam) (e : Expr) (m : StM S Bool) : Prop := ∀ M G0 H0 G H σ s, At M G0 H0 (Γ s) G H σ → ∀ Q : Bool → Hp → Prop,
  (m s).wp (fun b s' => ∀ G' H', At M G0 H0 (Γ s') G' H' σ → Step (Γ s) (Γ s') σ G H G' H' → Q b H') (ExcK X w Γ M G0 H0 σ) → ST X e σ H Q
end
end L3
namespace L3
open PySem PySem.Spec PyProof.Rows L2
section
variable {K : PySem.W.Frag} {X : Cx}
/-- data: == and != -/
def eqD (d e : U) : Bool := PyData.eqv d.py e.py
/-- of a kind that can be compared, not too deep -/
structure Sh (n : Nat) (d : U) : Prop where
  c : noDct d = true
  d : d.py.depth ≤ n
theorem Sh.mono {n m : Nat} {d : U} (h : Sh n d) (k : n ≤ m) : Sh m d := ⟨h.c, Nat.le_trans h.d k⟩
theorem Sh.shaped {n : Nat} {d : U} {H : Hp} {v : V} (h : Sh n d) (q : Dq K H v d) (k : n ≤ 64) : SeqAt.shaped d.py = true := by
  unfold SeqAt.shaped
  rw [(dq_dp _ _ h.c q).2, decide_eq_true (Nat.le_trans h.d k)]
  rfl
end
end L3
namespace L3
open PySem PySem.Spec PyProof.Rows L2
section
variable {M : Addr → Prop} {G0 H0 G H G' H' : Hp} {Γ : Gam} {σ : L2.St}
theorem At.put (a : At M G0 H0 Γ G H σ) {i : Nat} {s : Sl} {v : V} {Hb : Hp} (r : Rok s Hb G H v) (hf : ∀ l, Hb l = none → H0 l = none ∧ ¬ OwnA Γ σ l) (hs : Asg s) :
    At M G0 H0 (Γ.set i s) G H (σ.set i (some v)) where
  len := by rw [List.length_set, List.length_set]; exact a.len
  sub := a.sub
  post := a.post
  mt := a.mt
  slot := fun j s' e => by
    by_cases hj : i = j
    · subst hj
      by_cases hl : i < Γ.length
      · rw [List.getElem?_set_self hl] at e
        cases e
        rw [List.getElem?_set_self (by rw [a.len]; exact hl)]
        cases s with
        | un => trivial
        | im p => exact ⟨v, rfl, r⟩
        | ow ad q =>
          cases ad with
          | some x => exact hs.elim
          | none =>
            obtain ⟨l, o, rfl, h0, hg, hh, hq⟩ := r
            exact ⟨l, o, rfl, hg, hh, hq, .inr (hf l h0).1, fun r z => nomatch z⟩
        | bo b => exact hs.elim
      · rw [List.getElem?_eq_none (by rw [List.length_set]; omega)] at e
        cases e
    · rw [List.getElem?_set_ne hj] at e ⊢
      exact a.slot j s' e
  dist := fun j k x y q q' l e1 e2 e3 e4 => by
    have key : ∀ (j : Nat) (x : Option Addr) (q : Po) (l : Addr), i ≠ j → (Γ.set i s)[j]? = some (Sl.ow x q) → (σ.set i (some v))[j]? = some (some (V.ref l)) → OwnA Γ σ l := fun j x q l hj e e' => by
      rw [List.getElem?_set_ne hj] at e e'
      exact ⟨j, x, q, e, e'⟩
    have self : ∀ (x : Option Addr) (q : Po) (l : Addr), (Γ.set i s)[i]? = some (Sl.ow x q) → (σ.set i (some v))[i]? = some (some (V.ref l)) → Hb l = none := fun x q l e e' => by
      by_cases hl : i < Γ.length
      · rw [List.getElem?_set_self hl] at e
        cases e
        rw [List.getElem?_set_self (by rw [a.len]; exact hl)] at e'
        cases e'
        obtain ⟨l', o, z, h0, _⟩ := r
        cases z
        exact h0
      · rw [List.getElem?_eq_none (by rw [List.length_set]; omega)] at e
        cases e
    by_cases hj : i = j
    · by_cases hk : i = k
      · exact hj.symm.trans hk
      · subst hj
        exact absurd (key k y q' l hk e2 e4) (hf l (self x q l e1 e3)).2
    · by_cases hk : i = k
      · subst hk
        exact absurd (key j x q l hj e1 e3) (hf l (self y q' l e2 e4)).2
      · rw [List.getElem?_set_ne hj] at e1 e3
        rw [List.getElem?_set_ne hk] at e2 e4
        exact a.dist j k x y q q' l e1 e2 e3 e4
/-- an own object is kept as it is from now on -/
theorem At.freeze (a : At M G0 H0 Γ G H σ) {i : Nat} {ad : Option Addr} {q : Po} {p : Pv} (hi : Γ[i]? = some (Sl.ow ad q)) (hp : ∀ G l o, G l = some o → q.q G o → p.p G (V.ref l)) :
    ∃ G', Ex G G' ∧ At M G0 H0 (Γ.set i (Sl.im p)) G' H σ := by
  obtain ⟨l, o, z1, hg, hh, hq, hm, _⟩ := a.slot i _ hi
  have hlt : i < Γ.length := (List.getElem?_eq_some_iff.mp hi).1
  have ex : Ex G (upd G l o) := Ex.new hg
  have tr : ∀ {j : Nat} {x : Option Addr} {p' : Po}, (Γ.set i (Sl.im p))[j]? = some (Sl.ow x p') → i ≠ j ∧ Γ[j]? = some (Sl.ow x p') := fun {j x p'} e => by
    by_cases hj : i = j
    · subst hj
      rw [List.getElem?_set_self hlt] at e
      cases e
    · rw [List.getElem?_set_ne hj] at e
      exact ⟨hj, e⟩
  refine ⟨upd G l o, ex, by rw [List.length_set]; exact a.len, Ex.put a.sub hh, ⟨a.post.1.trans ex, fun b u e hb => ?_⟩, a.mt, fun j s e => ?_, fun j k x y p1 p2 m e1 e2 e3 e4 => ?_⟩
  · obtain ⟨h1, g1⟩ := a.post.2 b u e hb
    refine ⟨h1, ?_⟩
    rw [upd_ne]
    · exact g1
    · rintro rfl
      rcases hm with z | z
      · exact hb z
      · rw [e] at z; cases z
  · by_cases hj : i = j
    · subst hj
      rw [List.getElem?_set_self hlt] at e
      cases e
      exact ⟨_, z1, hp _ l o upd_same (q.mono ex hq)⟩
    · rw [List.getElem?_set_ne hj] at e
      have z := a.slot j s e
      cases s with
      | un => trivial
      | im p2 =>
        obtain ⟨v, y1, y2⟩ := z
        exact ⟨v, y1, p2.mono ex y2⟩
      | ow ad2 q2 =>
        obtain ⟨l2, o2, y1, y2, y3, y4, y5, y6⟩ := z
        refine ⟨l2, o2, y1, ?_, y3, q2.mono ex y4, y5, y6⟩
        rw [upd_ne]
        · exact y2
        · rintro rfl
          exact hj (a.dist i j ad ad2 q q2 l2 hi e z1 y1)
      | bo b =>
        obtain ⟨v, y1, y2⟩ := z
        exact ⟨v, y1, fun H' k => b.mono ex (Ex.refl _) (y2 H' k)⟩
  · obtain ⟨_, f1⟩ := tr e1
    obtain ⟨_, f2⟩ := tr e2
    exact a.dist j k x y p1 p2 m f1 f2 e3 e4
end
section
variable {S T T' ρ β γ : Type}
def FlK (M : Addr → Prop) (io : S → Hp → Hp → Prop) (Γn : T → S → Gam) (R : ρ → Sl) (G0 H0 G : Hp) (D : Ends) : Fl T ρ → S → Prop
  | .nx t, s' => ∀ σ' G' H', At M G0 H0 (Γn t s') G' H' σ' → Ex G G' → D.nx σ' H'
  | .ct t, s' => ∀ σ' G' H', At M G0 H0 (Γn t s') G' H' σ' → Ex G G' → D.ct σ' H'
  | .bk t, s' => ∀ σ' G' H', At M G0 H0 (Γn t s') G' H' σ' → Ex G G' → D.bk σ' H'
  | .ret r, s' => ∀ v G' H', Post M G0 H0 G' H' → Ex G' H' → io s' G' H' → Rok (R r) H0 G' H' v → D.rt v H'
section
variable {X : Cx} {w : Env1} {M : Addr → Prop} {io : S → Hp → Hp → Prop} {Γ : S → Gam} {Γn : T → S → Gam} {R : ρ → Sl} {st : Stmt} {rest A B : List Stmt} {e c : Expr} {pos : Pos}
theorem FlK.ex {G0 H0 G G1 : Hp} {D : Ends} {o : Fl T ρ} {s : S} (x : Ex G G1) (h : FlK M io Γn R G0 H0 G D o s) : FlK M io Γn R G0 H0 G1 D o s := by
  cases o with
  | nx t => exact fun σ' G' H' a e => h σ' G' H' a (x.trans e)
  | ct t => exact fun σ' G' H' a e => h σ' G' H' a (x.trans e)
  | bk t => exact fun σ' G' H' a e => h σ' G' H' a (x.trans e)
  | ret r => exact h
/-- the ways meet again -/
def Fl.k {ρ' : Type} (k : T → StM S ρ) : Fl T ρ → StM S ρ
  | .nx t => k t
  | .ret r => .pure r
  | _ => .fail
end
end
end L3
namespace L3
open PySem PySem.Spec PyProof.Rows L2
/-- what is known of an argument: by a word, or it is what the slot i holds -/
inductive Ar where
  | sl (s : Sl)
  | at_ (i : Nat)
def ArOk (σ : L2.St) (H0 G H : Hp) (v : V) : Ar → Prop
  | .sl s => Rok s H0 G H v
  | .at_ i => σ[i]? = some (some v)
def ArsOk (σ : L2.St) (H0 G H : Hp) : List Ar → List V → Prop
  | [], [] => True
  | a :: as, v :: vs => ArOk σ H0 G H v a ∧ ArsOk σ H0 G H as vs
  | _, _ => False
def RoksOk (H0 G H : Hp) : List Sl → List V → Prop
  | [], [] => True
  | a :: as, v :: vs => Rok a H0 G H v ∧ RoksOk H0 G H as vs
  | _, _ => False
theorem RoksOk.grow {H0 G H G' H' : Hp} (g : Grow G H G' H') : ∀ {as : List Sl} {vs : List V}, RoksOk H0 G H as vs → RoksOk H0 G' H' as vs
  | [], [], _ => trivial
  | _ :: _, _ :: _, ⟨a, b⟩ => ⟨a.grow g, RoksOk.grow g b⟩
  | [], _ :: _, h => h.elim
  | _ :: _, [], h => h.elim
theorem RoksOk.since {H H' G1 H1 : Hp} (h : ∀ l, H' l = none → H l = none) : ∀ {as : List Sl} {vs : List V}, RoksOk H' G1 H1 as vs → RoksOk H G1 H1 as vs
  | [], [], _ => trivial
  | _ :: _, _ :: _, ⟨a, b⟩ => ⟨a.since h, RoksOk.since h b⟩
  | [], _ :: _, h => h.elim
  | _ :: _, [], h => h.elim
section
variable {S β γ δ : Type} {X : Cx} {w : Env1} {Γ : S → Gam} {Γ0 : Gam} {e : Expr} {es : List Expr} {pos : Pos}
theorem ArsOk.since {σ : L2.St} {H H' G1 H1 : Hp} (h : ∀ l, H' l = none → H l = none) : ∀ {as : List Ar} {vs : List V}, ArsOk σ H' G1 H1 as vs → ArsOk σ H G1 H1 as vs
  | [], [], _ => trivial
  | .sl _ :: _, _ :: _, ⟨a, b⟩ => ⟨Rok.since a h, ArsOk.since h b⟩
  | .at_ _ :: _, _ :: _, ⟨a, b⟩ => ⟨a, ArsOk.since h b⟩
  | [], _ :: _, h => h.elim
  | _ :: _, [], h => h.elim
/-- the receiver of a method of the class at C, then the arguments -/
def tRecv (X : Cx) (C : Addr) (mth : Str) (o : Expr) (t : TA) : TA := fun σ H Q => SE X o σ H fun x H1 => ∃ a dx fs, x = V.ref a ∧ H1 a = some (.ins C dx fs) ∧ fs.lookup mth = none ∧ t σ H1 fun vs H2 => Q (x :: vs) H2
end
section
variable {S S' α β γ : Type}
def ioG (Γ : Gam) (vs : List V) (G H : Hp) : Prop := ∀ (i : Nat) (ad : Option Addr) (q : Po), Γ[i]? = some (Sl.ow ad q) → ∃ l o, vs[i]? = some (V.ref l) ∧ G l = none ∧ H l = some o ∧ q.q G o
def SpOf (K : PySem.W.Frag) (ca : Str → Addr) (par : α → S → Gam) (m : α → StM S β) (res : β → Sl) : Sp := fun vs H Q E => ∃ (x : α) (s : S) (G : Hp), At (OwnA (par x s) (vs.map some)) G H (par x s) G H (vs.map some) ∧
  (m x s).wp (fun b s' => ∀ v G' H', Ex G' H' → Post (OwnA (par x s) (vs.map some)) G H G' H' → ioG (par x s') vs G' H' → Rok (res b) H G' H' v → Q v H')
    (fun e _ => ∀ c d G' H', Ex G' H' → Post (OwnA (par x s) (vs.map some)) G H G' H' → ErrOk K ca e c d G' → E c d H')
/-- how arguments fit a def's parameters; io: the caller's slot that is handed on to be changed -/
inductive Fit (K : PySem.W.Frag) (io : Option Nat) (Γc : Gam) : List Ar → Gam → Prop
  | nil : Fit K io Γc [] []
  | im {p : Pv} {as : List Ar} {Γp : Gam} : Fit K io Γc as Γp → Fit K io Γc (.sl (.im p) :: as) (.im p :: Γp)
  | imc {p p' : Pv} {as : List Ar} {Γp : Gam} (h : ∀ G v, p.p G v → p'.p G v) : Fit K io Γc as Γp → Fit K io Γc (.sl (.im p) :: as) (.im p' :: Γp)
  | imb {p : Pv} {b : Pb} {as : List Ar} {Γp : Gam} (h : ∀ G H v, Ex G H → p.p G v → b.b G H v) : Fit K io Γc as Γp → Fit K io Γc (.sl (.im p) :: as) (.bo b :: Γp)
  | owb {q : Po} {b : Pb} {as : List Ar} {Γp : Gam} (h : ∀ G H l o, H l = some o → q.q G o → b.b G H (V.ref l)) : Fit K io Γc as Γp → Fit K io Γc (.sl (.ow none q) :: as) (.bo b :: Γp)
  | atb {i : Nat} {ad : Option Addr} {q : Po} {b : Pb} {as : List Ar} {Γp : Gam} (hi : Γc[i]? = some (Sl.ow ad q)) (hn : io ≠ some i) (h : ∀ G H l o, H l = some o → q.q G o → b.b G H (V.ref l)) : Fit K io Γc as Γp → Fit K io Γc (.at_ i :: as) (.bo b :: Γp)
  | atm {i : Nat} {p : Pv} {b : Pb} {as : List Ar} {Γp : Gam} (hi : Γc[i]? = some (Sl.im p)) (h : ∀ G H v, Ex G H → p.p G v → b.b G H v) : Fit K io Γc as Γp → Fit K io Γc (.at_ i :: as) (.bo b :: Γp)
  | atp {i : Nat} {p p' : Pv} {as : List Ar} {Γp : Gam} (hi : Γc[i]? = some (Sl.im p)) (h : ∀ G v, p.p G v → p'.p G v) : Fit K io Γc as Γp → Fit K io Γc (.at_ i :: as) (.im p' :: Γp)
  | io {i : Nat} {ad : Option Addr} {q : Po} {as : List Ar} {Γp : Gam} (hi : Γc[i]? = some (Sl.ow ad q)) (hn : io = some i) : Fit K io Γc as Γp → Fit K io Γc (.at_ i :: as) (.ow none q :: Γp)
section
variable {K : PySem.W.Frag} {M : Addr → Prop} {G0 H0 G H Hb : Hp} {Γc : Gam} {σ : L2.St} {io : Option Nat}
/-- a parameter's slot, the own ones' addresses within Mc -/
theorem Fit.slot (a : At M G0 H0 Γc G H σ) (Mc : Addr → Prop) (hMc : ∀ (l : Addr), Mc l → ∃ (i : Nat) (ad : Option Addr) (q : Po), io = some i ∧ Γc[i]? = some (Sl.ow ad q) ∧ σ[i]? = some (some (V.ref l))) :
    ∀ {as : List Ar} {Γp : Gam} {vs : List V}, Fit K io Γc as Γp → ArsOk σ Hb G H as vs → (∀ (l : Addr), Hb l = none → ∀ (i : Nat) (ad : Option Addr) (q : Po), Γc[i]? = some (Sl.ow ad q) → σ[i]? ≠ some (some (V.ref l))) →
      (∀ (j : Nat) (ad : Option Addr) (q : Po) (l : Addr), Γp[j]? = some (Sl.ow ad q) → vs[j]? = some (V.ref l) → Mc l) →
      vs.length = Γp.length ∧ ∀ (j : Nat) (s : Sl), Γp[j]? = some s → SlotOk Mc H G H (vs[j]?.map some) s := by
  have mg : ∀ l, Mc l → G l = none := fun l h => by
    obtain ⟨i, ad, q, _, e1, e2⟩ := hMc l h
    obtain ⟨l', o, z1, z2, _⟩ := a.slot i _ e1
    rw [e2] at z1
    cases z1
    exact z2
  have exk : ∀ H', Keep Mc H H' → Ex G H' := fun H' k b o e => k b o (a.sub b o e) fun z => by rw [mg b z] at e; cases e
  intro as Γp vs f
  induction f generalizing vs with
  | nil =>
    intro r _ _
    cases vs with
    | nil => exact ⟨rfl, fun j s e => by simp at e⟩
    | cons _ _ => exact r.elim
  | @im p as Γp f ih =>
    intro r hn ho
    cases vs with
    | nil => exact r.elim
    | cons v vs =>
      obtain ⟨z1, z2⟩ := ih r.2 hn fun j ad q l e1 e2 => ho (j + 1) ad q l (by simpa using e1) (by simpa using e2)
      refine ⟨by simp [z1], fun j s e => ?_⟩
      cases j with
      | zero => simp at e; subst e; exact ⟨v, rfl, r.1⟩
      | succ j => simpa using z2 j s (by simpa using e)
  | @imc p p' as Γp h f ih =>
    intro r hn ho
    cases vs with
    | nil => exact r.elim
    | cons v vs =>
      obtain ⟨z1, z2⟩ := ih r.2 hn fun j ad q l e1 e2 => ho (j + 1) ad q l (by simpa using e1) (by simpa using e2)
      refine ⟨by simp [z1], fun j s e => ?_⟩
      cases j with
      | zero => simp at e; subst e; exact ⟨v, rfl, h G v r.1⟩
      | succ j => simpa using z2 j s (by simpa using e)
  | @imb p b as Γp h f ih =>
    intro r hn ho
    cases vs with
    | nil => exact r.elim
    | cons v vs =>
      obtain ⟨z1, z2⟩ := ih r.2 hn fun j ad q l e1 e2 => ho (j + 1) ad q l (by simpa using e1) (by simpa using e2)
      refine ⟨by simp [z1], fun j s e => ?_⟩
      cases j with
      | zero => simp at e; subst e; exact ⟨v, rfl, fun H' k => h G H' v (exk H' k) r.1⟩
      | succ j => simpa using z2 j s (by simpa using e)
  | @owb q b as Γp h f ih =>
    intro r hn ho
    cases vs with
    | nil => exact r.elim
    | cons v vs =>
      obtain ⟨z1, z2⟩ := ih r.2 hn fun j ad q l e1 e2 => ho (j + 1) ad q l (by simpa using e1) (by simpa using e2)
      refine ⟨by simp [z1], fun j s e => ?_⟩
      cases j with
      | zero =>
        simp at e
        subst e
        obtain ⟨l, o, ev, hb0, hg, hh, hq⟩ := r.1
        subst ev
        refine ⟨_, rfl, fun H' k => h G H' l o (k l o hh fun z => ?_) hq⟩
        obtain ⟨i, ad, q2, _, e1, e2⟩ := hMc l z
        exact hn l hb0 i ad q2 e1 e2
      | succ j => simpa using z2 j s (by simpa using e)
  | @atb i ad q b as Γp hi hn2 h f ih =>
    intro r hn ho
    cases vs with
    | nil => exact r.elim
    | cons v vs =>
      obtain ⟨z1, z2⟩ := ih r.2 hn fun j ad q l e1 e2 => ho (j + 1) ad q l (by simpa using e1) (by simpa using e2)
      refine ⟨by simp [z1], fun j s e => ?_⟩
      cases j with
      | zero =>
        simp at e
        subst e
        obtain ⟨l, o, y1, y2, y3, y4, _⟩ := a.slot i _ hi
        have ev : σ[i]? = some (some v) := r.1
        rw [ev] at y1
        cases y1
        refine ⟨_, rfl, fun H' k => h G H' l o (k l o y3 fun z => ?_) y4⟩
        obtain ⟨i2, ad2, q2, e0, e1, e2⟩ := hMc l z
        have := a.dist i i2 ad ad2 q q2 l hi e1 ev e2
        subst this
        exact hn2 e0
      | succ j => simpa using z2 j s (by simpa using e)
  | @atm i p b as Γp hi h f ih =>
    intro r hn ho
    cases vs with
    | nil => exact r.elim
    | cons v vs =>
      obtain ⟨z1, z2⟩ := ih r.2 hn fun j ad q l e1 e2 => ho (j + 1) ad q l (by simpa using e1) (by simpa using e2)
      refine ⟨by simp [z1], fun j s e => ?_⟩
      cases j with
      | zero =>
        simp at e
        subst e
        obtain ⟨v', y1, y2⟩ := a.slot i _ hi
        have ev : σ[i]? = some (some v) := r.1
        rw [ev] at y1
        cases y1
        exact ⟨_, rfl, fun H' k => h G H' v (exk H' k) y2⟩
      | succ j => simpa using z2 j s (by simpa using e)
  | @atp i p p' as Γp hi h f ih =>
    intro r hn ho
    cases vs with
    | nil => exact r.elim
    | cons v vs =>
      obtain ⟨z1, z2⟩ := ih r.2 hn fun j ad q l e1 e2 => ho (j + 1) ad q l (by simpa using e1) (by simpa using e2)
      refine ⟨by simp [z1], fun j s e => ?_⟩
      cases j with
      | zero =>
        simp at e
        subst e
        obtain ⟨v', y1, y2⟩ := a.slot i _ hi
        have ev : σ[i]? = some (some v) := r.1
        rw [ev] at y1
        cases y1
        exact ⟨_, rfl, h G v y2⟩
      | succ j => simpa using z2 j s (by simpa using e)
  | @io i ad q as Γp hi hn2 f ih =>
    intro r hn ho
    cases vs with
    | nil => exact r.elim
    | cons v vs =>
      obtain ⟨z1, z2⟩ := ih r.2 hn fun j ad q l e1 e2 => ho (j + 1) ad q l (by simpa using e1) (by simpa using e2)
      refine ⟨by simp [z1], fun j s e => ?_⟩
      cases j with
      | zero =>
        simp at e
        subst e
        obtain ⟨l, o, y1, y2, y3, y4, _⟩ := a.slot i _ hi
        have ev : σ[i]? = some (some v) := r.1
        rw [ev] at y1
        cases y1
        exact ⟨l, o, rfl, y2, y3, y4, .inl (ho 0 none q l rfl rfl), fun r z => nomatch z⟩
      | succ j => simpa using z2 j s (by simpa using e)
/-- an own parameter comes of the caller's slot -/
theorem Fit.own : ∀ {as : List Ar} {Γp : Gam} {vs : List V}, Fit K io Γc as Γp → ArsOk σ Hb G H as vs → ∀ (j : Nat) (ad : Option Addr) (q : Po) (l : Addr), Γp[j]? = some (Sl.ow ad q) → vs[j]? = some (V.ref l) →
    ∃ (i : Nat) (ad' : Option Addr), io = some i ∧ Γc[i]? = some (Sl.ow ad' q) ∧ σ[i]? = some (some (V.ref l)) := by
  intro as Γp vs f
  induction f generalizing vs with
  | nil => intro _ j ad q l e; simp at e
  | @io i ad q as Γp hi hn2 f ih =>
    intro r j ad2 q2 l e1 e2
    cases vs with
    | nil => exact r.elim
    | cons v vs =>
      cases j with
      | zero =>
        simp at e1 e2
        obtain ⟨_, e1⟩ := e1
        subst e1 e2
        exact ⟨i, ad, hn2, hi, r.1⟩
      | succ j => exact ih r.2 j ad2 q2 l (by simpa using e1) (by simpa using e2)
  | im f ih =>
    intro r j ad2 q2 l e1 e2
    cases vs with
    | nil => exact r.elim
    | cons v vs =>
      cases j with
      | zero => simp at e1
      | succ j => exact ih r.2 j ad2 q2 l (by simpa using e1) (by simpa using e2)
  | imc h f ih =>
    intro r j ad2 q2 l e1 e2
    cases vs with
    | nil => exact r.elim
    | cons v vs =>
      cases j with
      | zero => simp at e1
      | succ j => exact ih r.2 j ad2 q2 l (by simpa using e1) (by simpa using e2)
  | imb h f ih =>
    intro r j ad2 q2 l e1 e2
    cases vs with
    | nil => exact r.elim
    | cons v vs =>
      cases j with
      | zero => simp at e1
      | succ j => exact ih r.2 j ad2 q2 l (by simpa using e1) (by simpa using e2)
  | owb h f ih =>
    intro r j ad2 q2 l e1 e2
    cases vs with
    | nil => exact r.elim
    | cons v vs =>
      cases j with
      | zero => simp at e1
      | succ j => exact ih r.2 j ad2 q2 l (by simpa using e1) (by simpa using e2)
  | atb hi hn h f ih =>
    intro r j ad2 q2 l e1 e2
    cases vs with
    | nil => exact r.elim
    | cons v vs =>
      cases j with
      | zero => simp at e1
      | succ j => exact ih r.2 j ad2 q2 l (by simpa using e1) (by simpa using e2)
  | atm hi h f ih =>
    intro r j ad2 q2 l e1 e2
    cases vs with
    | nil => exact r.elim
    | cons v vs =>
      cases j with
      | zero => simp at e1
      | succ j => exact ih r.2 j ad2 q2 l (by simpa using e1) (by simpa using e2)
  | atp hi h f ih =>
    intro r j ad2 q2 l e1 e2
    cases vs with
    | nil => exact r.elim
    | cons v vs =>
      cases j with
      | zero => simp at e1
      | succ j => exact ih r.2 j ad2 q2 l (by simpa using e1) (by simpa using e2)
end
end
end L3
namespace L3
open PySem PySem.Spec PyProof.Rows L2
section
variable {K : PySem.W.Frag} {M : Addr → Prop} {G0 H0 G H Hb : Hp} {Γc Γp : Gam} {σ : L2.St} {io : Option Nat} {as : List Ar} {vs : List V}
def Uniq (Γ : Gam) : Prop := ∀ (i j : Nat) (a b : Option Addr) (p q : Po), Γ[i]? = some (Sl.ow a p) → Γ[j]? = some (Sl.ow b q) → i = j
theorem get_some {j : Nat} {v : V} (h : (vs.map some)[j]? = some (some v)) : vs[j]? = some v := by
  rw [List.getElem?_map] at h
  cases e : vs[j]? with
  | none => rw [e] at h; cases h
  | some u => rw [e] at h; cases h; rfl
theorem Fit.at (f : Fit K io Γc as Γp) (a : At M G0 H0 Γc G H σ) (r : ArsOk σ Hb G H as vs) (hn : ∀ (l : Addr), Hb l = none → ¬ OwnA Γc σ l) (hu : Uniq Γp) : At (OwnA Γp (vs.map some)) G H Γp G H (vs.map some) := by
  have hMc : ∀ (l : Addr), OwnA Γp (vs.map some) l → ∃ (i : Nat) (ad : Option Addr) (q : Po), io = some i ∧ Γc[i]? = some (Sl.ow ad q) ∧ σ[i]? = some (some (V.ref l)) := fun l ⟨j, ad, q, e1, e2⟩ => by
    obtain ⟨i, ad', z1, z2, z3⟩ := Fit.own f r j ad q l e1 (get_some e2)
    exact ⟨i, ad', q, z1, z2, z3⟩
  obtain ⟨hl, hs⟩ := Fit.slot a (OwnA Γp (vs.map some)) hMc f r (fun l h i ad q e1 e2 => hn l h ⟨i, ad, q, e1, e2⟩) fun j ad q l e1 e2 => ⟨j, ad, q, e1, by rw [List.getElem?_map, e2]; rfl⟩
  refine ⟨by rw [List.length_map]; exact hl, a.sub, Post.refl, fun l h => ?_, fun i s e => ?_, fun i j x y p q l e1 e2 _ _ => hu i j x y p q e1 e2⟩
  · obtain ⟨i, ad, q, _, e1, e2⟩ := hMc l h
    exact OwnA.ne a ⟨i, ad, q, e1, e2⟩
  · rw [List.getElem?_map]
    exact hs i s e
end
structure RoomG (k : Nat) (A : Around) : Prop extends L2.Room k A where
  gd : A.guards = some []
theorem RoomG.mono {j k : Nat} {A : Around} (r : RoomG k A) (h : j ≤ k) : RoomG j A := ⟨r.toRoom.mono h, r.gd⟩
theorem RoomG.deeper {k : Nat} {A : Around} (r : RoomG (k + 1) A) (env : PySem.Env) : RoomG k (A.deeper env) := ⟨r.toRoom.deeper env, r.gd⟩
theorem RoomG.make {k : Nat} {A : Around} (r : RoomG (k + 1) A) (C : Addr) (us : List Value) (kw : List (Str × Value)) : RoomG k (A.under (.builtin "type.__call__" ⟨.ref C :: us, kw⟩)) :=
  ⟨r.toRoom.make C us kw, by
    have h := r.gd
    first | (simp only [Around.under, h]; first | rfl | simp [Code.guards, Code.isGuard, guardIds, pushGuards])⟩
structure FnG (P : Program) (w : World) (K : PySem.W.Frag) (mg : Str → Option Value) (base : Heap) (CX : CXT) (k : Nat) (f : Addr) (fd : FuncData) (ps : List Str) (sp : Sp) : Prop where
  len : ∀ vs H Q E, sp vs H Q E → vs.length = ps.length
  run : ∀ (A : Around) (outer : List PySem.Env) (s : Shared) (H : Hp) (args : Args) (us : List Value) (vs : List V) (Q : VK) (E : XK), RoomG k A → Env0 P w K mg base A outer s H → BindsTo s fd args (ps.zip us) → Vals vs us → sp vs H Q E →
    codeAny (model P w) A (.call (.ref f) args) (CR CX outer P w H s Q E) s
theorem FnG.imp {P : Program} {w : World} {K : PySem.W.Frag} {mg : Str → Option Value} {base : Heap} {CX : CXT} {k : Nat} {f : Addr} {fd : FuncData} {ps : List Str} {sp sp' : Sp} (F : FnG P w K mg base CX k f fd ps sp) (h : ∀ vs H Q E, sp' vs H Q E → sp vs H Q E) : FnG P w K mg base CX k f fd ps sp' where
  len vs H Q E q := F.len vs H Q E (h vs H Q E q)
  run A outer s H args us vs Q E hr he hb hv hs := F.run A outer s H args us vs Q E hr he hb hv (h vs H Q E hs)
section
variable {X : Cx} {CX : CXT} {k : Nat} {f C : Addr} {fd : FuncData} {ps : List Str} {sp : Sp} {E : L2.St → XK} {x m : Str} {p pos apos : Pos} {e o : Expr} {es : List Expr} {ta : TE} {t : TA}
theorem run_fnG {pins : List (Addr × Obj)} {σ : L2.St} {H : Hp} {s : Shared} {Q : VK} {us : List Value} {vs : List V} (F : FnG X.prog X.w X.K X.mg X.base CX k f fd ps sp) (hr : RoomG k X.A) (hb : Binds X.K fd ps []) (hx : PassesAt CX X σ (E σ))
    (I : Inv X pins σ H s) (r : Vals vs us) (h : sp vs H Q (E σ)) : wpAny (model X.prog X.w) X.A (call (.ref f) us) (EP X pins σ Q) X.xe s := by
  have hl : us.length = ps.length := r.length ▸ F.len _ _ _ _ h
  have b := hb s us I.kIn (by rw [List.append_nil]; exact hl)
  rw [List.append_nil] at b
  apply wpAny_call
  refine codeAny_mono (F.run X.A X.stack s H ⟨us, []⟩ us vs Q (E σ) hr I.env0 b r h) ?_
  rintro (e | (u | _ | _ | _)) s' hq
  all_goals first | exact hx pins H s _ s' I hq | exact I.after hq | exact False.elim hq
theorem pe_callG (F : FnG X.prog X.w X.K X.mg X.base CX k f fd ps sp) (hr : RoomG k X.A) (hg : Gl X x) (hm : X.mg x = some (Value.ref f)) (hk : PySem.W.keepIn X.K (Value.ref f) = true) (hb : Binds X.K fd ps []) (hx : ∀ σ, PassesAt CX X σ (E σ))
    (ha : PA X (e :: es) t) (hdb : (x == ("__debug__" : Str)) = false := by decide) (he : starEach (e :: es) X.env = (false, eval e X.env) :: starEach es X.env := by rfl) (hpl : (backTo pos (starEach es X.env)).any (·.1) = false := by rfl) :
    PE X (.Call (.Name x p) (e :: es) [] pos) (tCallS sp E t) := by
  constructor
  intro pins s σ H Q I h
  apply wpAny_Call_Name_kw (ld_glob I hg hm ?_ hdb)
  apply PySem.W.callWith_K (h₀ := X.base) I.ok.mod.kin hk (thn (ha.run pos pins s σ H _ I h) fun us s1 hh => ?_) he hpl
  obtain ⟨vs, H1, I1, r, q⟩ := hh
  exact ⟨I1.kIn, run_fnG F hr hb (hx σ) I1 r q⟩
end
section
variable {CX : CXT} {P : Program} {w : World} {K : PySem.W.Frag} {mg : Str → Option Value} {base : Heap} {k : Nat} {f : Addr} {N ps : List Str} {sp : Sp}
theorem fn_ofG {name qual : Str} {params : Arguments} {body : List Stmt} {scope : Scope} {dV kV doc pm cdv ct oc : Value} {an od : Option Addr}
    {osl : Array (Option Value)} (lk : K.lookup f = some ⟨oc, od, .func (PySem.W.fnOf name qual params body scope dV kV doc pm an cdv ct), osl⟩) (hcd : PySem.W.codeIn K cdv qual = true) (S : FnScope N ps scope)
    (len : ∀ vs H Q E, sp vs H Q E → vs.length = ps.length)
    (hbody : ∀ (A : Around) (outer : List PySem.Env) (s : Shared) (H : Hp) (vs : List V) (Q : VK) (E : XK), RoomG k (A.deeper (envOfC qual scope s.heap.objs.size f cdv)) → sp vs H Q E →
      ∃ t, PSs (cxOf CX P w K mg base N qual scope f cdv A outer s H E) body t ∧ t { nx := fun _ H' => Q .non H', rt := Q } (start N vs) H) :
    FnG P w K mg base CX (k + 1) f (PySem.W.fnOf name qual params body scope dV kV doc pm an cdv ct) ps sp := by
  constructor
  · exact len
  intro A outer s H args us vs Q E hr e0 hb r hsp
  have hl := len _ _ _ _ hsp
  have KX : K.In s.heap := e0.mod.kin.keeps fun b o e => (e0.bs b o e).1
  have lim : s.heap.NoLimit := e0.mod.nolimit.keeps fun b o e => (e0.bs b o e).1
  have hkind : ∀ y ∈ ps.zip us, scope.names.lookup y.1 = some .local ∨ (scope.names.lookup y.1 = some .cell ∧ ((cellsFrom (s.heap.objs.size + 1) scope.names []).lookup y.1).isSome = true) := by
    rintro ⟨n, v⟩ hy
    exact (S.par n (List.of_mem_zip hy).1).imp id fun q => ⟨q, PySem.W.cellsFrom_some _ _ _ (.inl q)⟩
  apply codeAny_call_function hr.depth (KX _ _ lk) rfl S.co S.gen rfl (PySem.W.codeRec_of KX hcd) (hb _ _ _ _ ?_)
  apply wpAny_newFunctionEnv_cells S.kind hkind
  rintro env rfl s1 x
  refine ⟨lim.keeps x.toInCall.keep, codeAny_func ?_⟩
  obtain ⟨t, ht, hq⟩ := hbody A outer s H vs Q E (hr.deeper _) hsp
  have I := inv_start (CX := CX) (P := P) (w := w) (E := E) S hr.hd e0 hl r x
  refine wpAny_mono (ht.run [] s1 (start N vs) H _ I hq) ?_ fun e s' hs => hs
  intro fl s' hs
  cases fl with
  | ret u =>
    obtain ⟨v, σ', H', J, rv, q⟩ := hs
    exact ⟨v, H', J.os, J.bare, J.base, J.hok, rv, q⟩
  | next =>
    obtain ⟨σ', H', J, q⟩ := hs
    exact ⟨V.non, H', J.os, J.bare, J.base, J.hok, rfl, q⟩
  | brk =>
    obtain ⟨_, _, _, q⟩ := hs
    exact q.elim
  | cont =>
    obtain ⟨_, _, _, q⟩ := hs
    exact q.elim
theorem okG {x qual : Str} {st : Stmt} {fd : FuncData} (F : Fun K x qual st f fd) (S : FnScope N ps (defScope st)) (len : ∀ vs H Q E, sp vs H Q E → vs.length = ps.length)
    (hbody : ∀ (cdv : Value) (A : Around) (outer : List PySem.Env) (s : Shared) (H : Hp) (vs : List V) (Q : VK) (E : XK), RoomG k (A.deeper (envOfC qual (defScope st) s.heap.objs.size f cdv)) → sp vs H Q E →
      ∃ t, PSs (cxOf CX P w K mg base N qual (defScope st) f cdv A outer s H E) (defBody st) t ∧ t { nx := fun _ H' => Q .non H', rt := Q } (start N vs) H) : FnG P w K mg base CX (k + 1) f fd ps sp := by
  obtain ⟨oc, od, kV, doc, pm, an, cdv, ct, osl, rfl, lk, hcd⟩ := F.ex
  exact fn_ofG lk hcd S len fun A outer s H vs Q E hr hsp => hbody cdv A outer s H vs Q E hr hsp
end
section
variable {X : Cx} {CX : CXT} {k : Nat} {f C : Addr} {fd : FuncData} {ps : List Str} {sp : Sp} {E : L2.St → XK} {x m : Str} {p pos apos : Pos} {e o : Expr} {es : List Expr} {ta : TE} {t : TA}
/-- o.m(..) that may raise -/
def tMethS (C : Addr) (m : Str) (sp : Sp) (E : L2.St → XK) (ta : TE) (t : TA) : TE := fun σ H Q => ta σ H fun x H1 => ∃ a dx fs, x = V.ref a ∧ H1 a = some (.ins C dx fs) ∧ fs.lookup m = none ∧ t σ H1 fun vs H2 => sp (x :: vs) H2 Q (E σ)
theorem pe_methE {pl : Sem Bool} (he : PE X o ta) (c : Cls X.K C) (hm : Meth X.K C m f) (F : FnG X.prog X.w X.K X.mg X.base CX k f fd ps sp) (hr : RoomG k X.A) (hb : Binds X.K fd ps []) (hx : ∀ σ, PassesAt CX X σ (E σ)) (ha : PA X (e :: es) t)
    (h1 : starEach (e :: es) X.env = (false, eval e X.env) :: starEach es X.env) (h2 : (backTo pos (starEach es X.env)).any (·.1) = false)
    (h3 : eval (.Call (.Attribute o m apos) (e :: es) [] pos) X.env = (do
      let ov ← eval o X.env
      standAt apos.atName
      let (f, first) ← holding [ov] (getMethod ov m pl)
      callWith pos f first (backTo pos (starEach (e :: es) X.env)) (backToKw pos (keywordEach [] X.env)))) :
    PE X (.Call (.Attribute o m apos) (e :: es) [] pos) (tMethS C m sp E ta t) := by
  constructor
  intro pins s σ H Q I h
  apply PySem.W.methodCall_KW (pl := pl) (thn (he.run pins s σ H _ I h) fun u s1 hh => ?_) h3
  obtain ⟨x, H1, I1, rx, a, dx, fs, ex, ea, l, q⟩ := hh
  subst ex
  have eu : u = Value.ref a := rx
  subst eu
  apply getmeth_ok I1 ea c hm l
  apply PySem.W.callWith_K (first := [Value.ref a]) (h₀ := X.base) I.ok.mod.kin hm.kp (thn (ha.run pos pins s1 σ H1 _ I1 q) fun us s2 hh2 => ?_) h1 h2
  obtain ⟨vs, H2, I2, r, q2⟩ := hh2
  exact ⟨I2.kIn, run_fnG (us := Value.ref a :: us) (vs := V.ref a :: vs) F hr hb (hx σ) I2 (.cons rfl r) q2⟩
theorem pe_methN {pl : Sem Bool} (he : PE X o ta) (c : Cls X.K C) (hm : Meth X.K C m f) (F : FnG X.prog X.w X.K X.mg X.base CX k f fd ps sp) (hr : RoomG k X.A) (hb : Binds X.K fd ps []) (hx : ∀ σ, PassesAt CX X σ (E σ))
    (h3 : eval (.Call (.Attribute o m apos) [] [] pos) X.env = (do
      let ov ← eval o X.env
      standAt apos.atName
      let (f, first) ← holding [ov] (getMethod ov m pl)
      callWith pos f first (backTo pos (starEach [] X.env)) (backToKw pos (keywordEach [] X.env)))) :
    PE X (.Call (.Attribute o m apos) [] [] pos) (tMethS C m sp E ta tNil) := by
  constructor
  intro pins s σ H Q I h
  apply PySem.W.methodCall_KW (pl := pl) (thn (he.run pins s σ H _ I h) fun u s1 hh => ?_) h3
  obtain ⟨x, H1, I1, rx, a, dx, fs, ex, ea, l, q⟩ := hh
  subst ex
  have eu : u = Value.ref a := rx
  subst eu
  apply getmeth_ok I1 ea c hm l
  exact PySem.W.callWith_K0 (first := [Value.ref a]) I1.kIn hm.kp (run_fnG (us := [Value.ref a]) (vs := [V.ref a]) F hr hb (hx σ) I1 (.cons rfl .nil) q)
end
section
variable {S S' α β γ δ : Type} {X : Cx} {w : Env1} {Γ : S → Gam} {k : Nat} {f C : Addr} {fd : FuncData} {ps : List Str} {x mth : Str} {p pos apos : Pos} {e o : Expr} {es : List Expr} {t : TA}
/-- f(e, ..) -/
theorem rule_fn {sp : Sp} (tk : Takes X w.W) (F : FnG X.prog X.w X.K X.mg X.base (L2.CX X.prog X.w) k f fd ps sp) (hr : RoomG k X.A) (hm : X.mg x = some (Value.ref f)) (hk : PySem.W.keepIn X.K (Value.ref f) = true) (hb : Binds X.K fd ps []) (hg : Gl X x := by rfl) (hdb : (x == ("__debug__" : Str)) = false := by decide)
    (he : starEach (e :: es) X.env = (false, eval e X.env) :: starEach es X.env := by rfl) (hpl : (backTo pos (starEach es X.env)).any (·.1) = false := by rfl) :
    ∀ σ H (Q : VK), SA X (e :: es) σ H (fun vs H1 => sp vs H1 Q fun c d H' => w.W c d σ H') → SE X (.Call (.Name x p) (e :: es) [] pos) σ H Q := fun σ H Q h =>
  SE.of (pe_callG (E := fun σ c d H' => w.W c d σ H') F hr hg hm hk hb (fun σ => passAt tk σ) pa_sa hdb he hpl) h
/-- o.m(e, ..) -/
theorem rule_m {sp : Sp} {pl : Sem Bool} (tk : Takes X w.W) (c : Cls X.K C) (hm : Meth X.K C mth f) (F : FnG X.prog X.w X.K X.mg X.base (L2.CX X.prog X.w) k f fd ps sp) (hr : RoomG k X.A) (hb : Binds X.K fd ps [])
    (h1 : starEach (e :: es) X.env = (false, eval e X.env) :: starEach es X.env := by rfl) (h2 : (backTo pos (starEach es X.env)).any (·.1) = false := by rfl)
    (h3 : eval (.Call (.Attribute o mth apos) (e :: es) [] pos) X.env = (do
      let ov ← eval o X.env
      standAt apos.atName
      let (f, first) ← holding [ov] (getMethod ov mth pl)
      callWith pos f first (backTo pos (starEach (e :: es) X.env)) (backToKw pos (keywordEach [] X.env))) := by rfl) :
    ∀ σ H (Q : VK), tRecv X C mth o (SA X (e :: es)) σ H (fun vs H1 => sp vs H1 Q fun c d H' => w.W c d σ H') → SE X (.Call (.Attribute o mth apos) (e :: es) [] pos) σ H Q := fun σ H Q h =>
  SE.of (pe_methE (E := fun σ c d H' => w.W c d σ H') pe_se c hm F hr hb (fun σ => passAt tk σ) pa_sa h1 h2 h3) h
theorem rule_m0 {sp : Sp} {pl : Sem Bool} (tk : Takes X w.W) (c : Cls X.K C) (hm : Meth X.K C mth f) (F : FnG X.prog X.w X.K X.mg X.base (L2.CX X.prog X.w) k f fd ps sp) (hr : RoomG k X.A) (hb : Binds X.K fd ps [])
    (h3 : eval (.Call (.Attribute o mth apos) [] [] pos) X.env = (do
      let ov ← eval o X.env
      standAt apos.atName
      let (f, first) ← holding [ov] (getMethod ov mth pl)
      callWith pos f first (backTo pos (starEach [] X.env)) (backToKw pos (keywordEach [] X.env))) := by rfl) :
    ∀ σ H (Q : VK), tRecv X C mth o tNil σ H (fun vs H1 => sp vs H1 Q fun c d H' => w.W c d σ H') → SE X (.Call (.Attribute o mth apos) [] [] pos) σ H Q := fun σ H Q h =>
  SE.of (pe_methN (E := fun σ c d H' => w.W c d σ H') pe_se c hm F hr hb (fun σ => passAt tk σ) h3) h
end
section
variable {P : Program} {wd : World} {K : PySem.W.Frag} {mg : Str → Option Value} {base : Heap} {S T α β : Type} {x qual : Str} {st : Stmt} {f : Addr} {fd : FuncData} {N ps : List Str} {k : Nat} {ca : Str → Addr}
abbrev cx (P : Program) (wd : World) (K : PySem.W.Frag) (mg : Str → Option Value) (base : Heap) (N : List Str) (qual : Str) (st : Stmt) (f : Addr) (cdv : Value) (A : Around) (outer : List PySem.Env) (s : Shared) (H : Hp) (E : XK) : Cx := cxOf (L2.CX P wd) P wd K mg base N qual (defScope st) f cdv A outer s H E
abbrev wE (ca : Str → Addr) (E : XK) : Env1 := ⟨fun c d _ H => E c d H, ca⟩
theorem cx_takes {cdv : Value} {A : Around} {outer : List PySem.Env} {s : Shared} {H : Hp} {E : XK} : Takes (cx P wd K mg base N qual st f cdv A outer s H E) (wE ca E).W := takes_of rfl rfl rfl rfl
theorem cx_po {cdv : Value} {A : Around} {outer : List PySem.Env} {s : Shared} {H : Hp} {E : XK} : PassesOwn (model P wd) (cx P wd K mg base N qual st f cdv A outer s H E).A (cx P wd K mg base N qual st f cdv A outer s H E).env (cx P wd K mg base N qual st f cdv A outer s H E).xe := PassesOwn.leaving
theorem start_eq {N : List Str} {vs : List V} : start N vs = vs.map some ++ List.replicate (N.length - vs.length) none := rfl
end
end L3
namespace L3
open PySem PySem.Spec PyProof.Rows L2
def Ivd (X : Cx) (σ : L2.St) (H : Hp) : Prop := ∃ (pins : List (Addr × Obj)) (s : Shared), Inv X pins σ H s
theorem SE.iv {X : Cx} {e : Expr} {σ : L2.St} {H : Hp} {Q : VK} (h : SE X e σ H fun v H' => Ivd X σ H' → Q v H') : SE X e σ H Q := fun pins s I =>
  thn (h pins s I) fun u s' ⟨v, H', I', r, q⟩ => ⟨v, H', I', r, q ⟨_, _, I'⟩⟩
structure Wlk {α : Type} (J : It) (xs : List α) (p : α → Pv) (Gb : Hp) : Prop where
  sz : xs.length ≤ sizeLine
  stop : ∀ (i : Nat) G1 H1, Ex Gb G1 → Ex G1 H1 → xs.length ≤ i → J.stop i H1
  go : ∀ (i : Nat) (x : α) G1 H1, Ex Gb G1 → Ex G1 H1 → xs[i]? = some x → J.go i H1 ∧ ∀ v H2, J.yld i H1 v H2 → ∃ G2, Grow G1 H1 G2 H2 ∧ (p x).p G2 v
section
variable {S α β γ δ : Type} {X : Cx} {w : Env1} {Γ : S → Gam}
/-- an object that no slot owns and that is not frozen may change -/
theorem At.other {M : Addr → Prop} {G0 H0 G H : Hp} {Γ : Gam} {σ : L2.St} {D : Addr} {o : HO} (a : At M G0 H0 Γ G H σ) (hG : G D = none) (h0 : H0 D = none) (hO : ¬ OwnA Γ σ D) : At M G0 H0 Γ G (upd H D o) σ := by
  refine ⟨a.len, fun b u e => ?_, ⟨a.post.1, fun b u e hb => ?_⟩, fun b hb => ?_, fun i s e => ?_, a.dist⟩
  · rw [upd_ne (ne_of_none e hG)]; exact a.sub b u e
  · rw [upd_ne (ne_of_none e h0)]; exact a.post.2 b u e hb
  · by_cases z : b = D
    · subst z; exact ⟨o, upd_same⟩
    · rw [upd_ne z]; exact a.mt b hb
  · have z := a.slot i s e
    cases s with
    | un => trivial
    | im p => exact z
    | ow ad q =>
      obtain ⟨l, o2, z1, z2, z3, z4⟩ := z
      refine ⟨l, o2, z1, z2, ?_, z4⟩
      rw [upd_ne]
      · exact z3
      · rintro rfl
        exact hO ⟨i, ad, q, e, z1⟩
    | bo b => exact z
end
end L3
namespace L3
open PySem PySem.Spec PyProof.Rows L2
section
variable {S α β γ δ : Type} {X : Cx} {w : Env1} {Γ : S → Gam} {l e e2 : Expr} {tg : Expr} {p pos tpos : Pos}
theorem dq_map_get {K : PySem.W.Frag} {H : Hp} {enc : α → U} {vs : List V} {xs : List α} {i : Nat} {x : α} (h : DqAll K H vs (xs.map enc)) (hx : xs[i]? = some x) : ∃ v, vs[i]? = some v ∧ Dq K H v (enc x) :=
  dpAll_get h (by rw [List.getElem?_map, hx]; rfl)
theorem wlk_list {K : PySem.W.Frag} {G : Hp} {a : Addr} {vs : List V} {xs : List α} {enc : α → U} (hz : vs.length ≤ sizeLine) (hs : SqL K G a vs) (hd : DqAll K G vs (xs.map enc)) : Wlk (Itl K a) xs (fun x => isD K (enc x)) G := by
  have hl : vs.length = xs.length := by have := dpAll_len hd; rw [List.length_map] at this; exact this
  refine ⟨by omega, fun i G1 H1 e1 e2 h => ⟨vs, sqL_ex e2 (sqL_ex e1 hs), by omega⟩, fun i x G1 H1 e1 e2 hx => ?_⟩
  obtain ⟨v, hv, hq⟩ := dq_map_get hd hx
  refine ⟨⟨vs, v, sqL_ex e2 (sqL_ex e1 hs), hv⟩, fun v' H2 ⟨eh, y⟩ => ?_⟩
  subst eh
  have := y vs (sqL_ex e2 (sqL_ex e1 hs))
  rw [hv] at this
  cases this
  exact ⟨G1, Grow.refl e2, dp_ex e1 _ _ hq⟩
/-- a text, sign by sign -/
def signs (z : Str) : List Str := z.cps.toList.map fun c => ⟨#[c]⟩
/-- range(n), range(a, b) -/
def rangeL (lo hi : Int) : List Int := (List.range (hi - lo).toNat).map fun (i : Nat) => lo + (i : Int)
def rangeM (lo hi : Int) : StM S (List Int) := if -16777216 ≤ lo ∧ hi ≤ 8388608 ∧ hi - lo ≤ 16777216 ∧ lo ≤ 16777216 ∧ -16777216 ≤ hi then .pure (rangeL lo hi) else .fail
theorem rangeL_len (lo hi : Int) : (rangeL lo hi).length = (hi - lo).toNat := by simp [rangeL]
theorem wlk_range {K : PySem.W.Frag} {G : Hp} {lo hi : Int} (h : hi - lo ≤ 16777216) : Wlk (Itr lo (hi - lo).toNat) (rangeL lo hi) (fun i => isD K (.int i)) G := by
  have hz : sizeLine = 16777216 := sizeLine_eq
  refine ⟨by rw [rangeL_len]; omega, fun i G1 H1 _ _ h => by rw [rangeL_len] at h; exact h, fun i x G1 H1 e1 e2 hx => ?_⟩
  have hi2 : i < (hi - lo).toNat := by rw [← rangeL_len]; exact (List.getElem?_eq_some_iff.mp hx).1
  refine ⟨hi2, fun v H2 ⟨eh, ev⟩ => ?_⟩
  subst eh ev
  have : x = lo + (i : Int) := by
    unfold rangeL at hx
    rw [List.getElem?_map, List.getElem?_range hi2] at hx
    cases hx; rfl
  subst this
  exact ⟨G1, Grow.refl e2, .int _⟩
/-- enumerate(list) -/
def enumL (xs : List α) : List (Int × α) := (List.range xs.length).zip xs |>.map fun p => ((p.1 : Int), p.2)
theorem enumL_get {xs : List α} {i : Nat} {y : Int × α} (h : (enumL xs)[i]? = some y) : y.1 = (i : Int) ∧ xs[i]? = some y.2 := by
  unfold enumL at h
  rw [List.getElem?_map] at h
  cases e : ((List.range xs.length).zip xs)[i]? with
  | none => rw [e] at h; cases h
  | some z =>
    rw [e] at h
    cases h
    obtain ⟨h1, h2⟩ := List.getElem?_zip_eq_some.mp e
    refine ⟨?_, h2⟩
    have hi : i < xs.length := (List.getElem?_eq_some_iff.mp h2).1
    rw [List.getElem?_range hi] at h1
    cases h1; rfl
end
end L3
namespace L3
open PySem PySem.Spec PyProof.Rows L2
section
variable {S α β γ δ : Type} {X : Cx} {w : Env1} {Γ : S → Gam} {Γ0 : Gam} {a b e : Expr} {pos p : Pos} {x : Str}
/-- where a built-in is called -/
structure Bcall (X : Cx) (e : Expr) (es : List Expr) (r : List V → Hp → VK → Prop) : Prop where
  pe : PE X e (tCB r (SA X es))
theorem bcB {id : String} {es : List Expr} {r : List V → Hp → VK → Prop} (hc : CallR X (.builtin id) r) (hm : X.mg x = none) (hv : bootBuiltins x = some (.builtin id)) (hg : Gl X x := by rfl) (hn : x ≠ "__name__" := by decide) (hdb : (x == ("__debug__" : Str)) = false := by decide)
    (he : starEach (e :: es) X.env = (false, eval e X.env) :: starEach es X.env := by rfl) (hpl : (backTo pos (starEach es X.env)).any (·.1) = false := by rfl) : Bcall X (.Call (.Name x p) (e :: es) [] pos) (e :: es) r := ⟨pe_callB hc hg hm hv pa_sa hn hdb he hpl⟩
theorem bcT {T : String} {es : List Expr} {r : List V → Hp → VK → Prop} (hc : CallR X (.type T) r) (hm : X.mg x = none) (hv : bootBuiltins x = some (.type T)) (hg : Gl X x := by rfl) (hn : x ≠ "__name__" := by decide) (hdb : (x == ("__debug__" : Str)) = false := by decide)
    (he : starEach (e :: es) X.env = (false, eval e X.env) :: starEach es X.env := by rfl) (hpl : (backTo pos (starEach es X.env)).any (·.1) = false := by rfl) : Bcall X (.Call (.Name x p) (e :: es) [] pos) (e :: es) r := ⟨pe_callTy hc hg hm hv pa_sa hn hdb he hpl⟩
end
end L3
namespace L3
open PySem PySem.Spec PyProof.Rows L2
section
variable {K : PySem.W.Frag}
def topO (K : PySem.W.Frag) (G : Hp) : HO → U → Prop
  | .lst vs, .list ds => DqAll K G vs ds
  | .dK kvs, .dict ds => DqKvs K G kvs ds
  | .dT kvs, .dictT ds => DqKts K G kvs ds
  | .ins C dx fvs, .ins D fs => C = clsAt K D ∧ DqFs K G fvs fs
  | _, _ => False
theorem topO_mono {G G' : Hp} (e : Ex G G') : ∀ {o : HO} {u : U}, topO K G o u → topO K G' o u := fun {o u} h => by
  unfold topO at h ⊢
  split at h
  · exact dpAll_ex e _ _ h
  · exact dpKvs_ex e _ _ h
  · exact dpKts_ex e _ _ h
  · exact ⟨h.1, dpFs_ex e _ _ h.2⟩
  · exact h.elim
def ownO (K : PySem.W.Frag) (u : U) : Po := ⟨fun G o => topO K G o u, fun e h => topO_mono e h⟩
def bowB (K : PySem.W.Frag) (u : U) : Pb := ⟨fun G H v => Dq K G v u ∨ ∃ l o, v = V.ref l ∧ H l = some o ∧ topO K G o u, fun e e' h => by
  rcases h with h | ⟨l, o, h1, h2, h3⟩
  · exact .inl (dp_ex e _ _ h)
  · exact .inr ⟨l, o, h1, e' _ _ h2, topO_mono e h3⟩⟩
abbrev dU (K : PySem.W.Frag) (u : U) : Sl := .im (isD K u)
abbrev oU (K : PySem.W.Frag) (u : U) : Sl := .ow none (ownO K u)
theorem top_dq {G : Hp} {l : Addr} {o : HO} {u : U} (h : G l = some o) (t : topO K G o u) : Dq K G (V.ref l) u := by
  unfold topO at t
  split at t
  · exact .lst (.inl (.inl h)) t
  · exact .dct (.inl h) t
  · exact .dctT (.inl h) t
  · obtain ⟨rfl, t⟩ := t; exact .ins h t
  · exact t.elim
theorem bow_dq {G H : Hp} {v : V} {u : U} (e : Ex G H) (h : (bowB K u).b G H v) : Dq K H v u := by
  rcases h with h | ⟨l, o, rfl, h2, h3⟩
  · exact dp_ex e _ _ h
  · exact top_dq h2 (topO_mono e h3)
theorem bow_ls {G H : Hp} {v : V} {ds : List U} (e : Ex G H) (h : (bowB K (.list ds)).b G H v) : ∃ a vs, v = V.ref a ∧ SqL K H a vs ∧ DqAll K G vs ds := by
  rcases h with h | ⟨l, o, rfl, h2, h3⟩
  · cases h with
    | lst hs ha => exact ⟨_, _, rfl, sqL_ex e hs, ha⟩
  · cases o <;> first | exact h3.elim | exact ⟨l, _, rfl, .inl (.inl h2), h3⟩
theorem bow_tp {G H : Hp} {v : V} {ds : List U} (e : Ex G H) (h : (bowB K (.tuple ds)).b G H v) : ∃ a vs, v = V.ref a ∧ SqT K H a vs ∧ DqAll K G vs ds := by
  rcases h with h | ⟨l, o, rfl, h2, h3⟩
  · cases h with
    | tup hs ha => exact ⟨_, _, rfl, .inl (.inl (e _ _ hs)), ha⟩
  · cases o <;> exact h3.elim
theorem bow_tk {G H : Hp} {v : V} {ds : List U} (e : Ex G H) (h : (bowB K (.tupK ds)).b G H v) : ∃ a vs, v = V.ref a ∧ KTup K a vs ∧ DqAll K G vs ds := by
  rcases h with h | ⟨l, o, rfl, h2, h3⟩
  · cases h with
    | tupK hs ha => exact ⟨_, _, rfl, hs, ha⟩
  · cases o <;> exact h3.elim
theorem bow_at {G H : Hp} {v : V} {u : U} (e : Ex G H) (h : (bowB K u).b G H v) (hl : ∀ xs, u ≠ .list xs) (hd : ∀ xs, u ≠ .dict xs) (ht : ∀ xs, u ≠ .dictT xs) (hi : ∀ C xs, u ≠ .ins C xs) : Dq K G v u := by
  rcases h with h | ⟨l, o, rfl, h2, h3⟩
  · exact h
  · unfold topO at h3
    split at h3
    · exact absurd rfl (hl _)
    · exact absurd rfl (hd _)
    · exact absurd rfl (ht _)
    · exact absurd rfl (hi _ _)
    · exact h3.elim
theorem bow_int {G H : Hp} {v : V} {i : Int} (h : (bowB K (.int i)).b G H v) : v = .int i := by
  rcases h with h | ⟨l, o, rfl, h2, h3⟩
  · cases h; rfl
  · cases o <;> exact h3.elim
theorem bow_str {G H : Hp} {v : V} {x : Str} (h : (bowB K (.str x)).b G H v) : v = .str x ∧ PyData.strOk x = true := by
  rcases h with h | ⟨l, o, rfl, h2, h3⟩
  · cases h with | str _ h => exact ⟨rfl, h⟩
  · cases o <;> exact h3.elim
def Bows (K : PySem.W.Frag) (G H : Hp) : List U → List V → Prop
  | [], [] => True
  | u :: us, v :: vs => (bowB K u).b G H v ∧ Bows K G H us vs
  | _, _ => False
/-- of arguments that read as us, where g us = some d: the answer d -/
def Pr (K : PySem.W.Frag) (R : U → Sl) (r : List V → Hp → VK → Prop) (g : List U → Option U) : Prop := ∀ us d, g us = some d → ∀ (H0 G H : Hp) vs (Q : VK), Ex G H → Bows K G H us vs → (∀ v G' H', Grow G H G' H' → Rok (R d) H G' H' v → Q v H') → r vs H Q
def a1 (f : U → Option U) : List U → Option U
  | [a] => f a
  | _ => none
def a2 (f : U → U → Option U) : List U → Option U
  | [a, b] => f a b
  | _ => none
def a3 (f : U → U → U → Option U) : List U → Option U
  | [a, b, c] => f a b c
  | _ => none
theorem pr1 {R : U → Sl} {r : List V → Hp → VK → Prop} {f : U → Option U} (h : ∀ u d, f u = some d → ∀ (G H : Hp) v (Q : VK), Ex G H → (bowB K u).b G H v → (∀ v G' H', Grow G H G' H' → Rok (R d) H G' H' v → Q v H') → r [v] H Q) : Pr K R r (a1 f) := fun us d e H0 G H vs Q ex bs q => by
  match us, e with
  | [u], e =>
    match vs, bs with
    | [v], bs => exact h u d e G H v Q ex bs.1 q
theorem pr2 {R : U → Sl} {r : List V → Hp → VK → Prop} {f : U → U → Option U} (h : ∀ u w d, f u w = some d → ∀ (G H : Hp) v x (Q : VK), Ex G H → (bowB K u).b G H v → (bowB K w).b G H x → (∀ v G' H', Grow G H G' H' → Rok (R d) H G' H' v → Q v H') → r [v, x] H Q) : Pr K R r (a2 f) := fun us d e H0 G H vs Q ex bs q => by
  match us, e with
  | [u, w], e =>
    match vs, bs with
    | [v, x], bs => exact h u w d e G H v x Q ex bs.1 bs.2.1 q
def r2l (r : R2) : List V → Hp → VK → Prop := fun vs H Q => match vs with
  | [x, y] => r x y H Q
  | _ => False
def r1l (r : V → Hp → VK → Prop) : List V → Hp → VK → Prop := fun vs H Q => match vs with
  | [x] => r x H Q
  | _ => False
end
section
variable {S β γ δ : Type} {X : Cx} {w : Env1} {Γ : S → Gam} {a b c e : Expr} {pos p : Pos} {x : Str}
abbrev EvD (X : Cx) (w : Env1) (Γ : S → Gam) (e : Expr) (m : StM S U) : Prop := EvE X w Γ e m fun u => dU X.K u
/-- an operand: what its evaluation comes to, and how it reads later on -/
def Opd (X : Cx) (w : Env1) (Γ : S → Gam) (e : Expr) (m : StM S β) (rd : β → S → U) : Prop := ∃ pers : β → L2.St → Hp → V → Prop, (∀ b σ G G' v, Ex G G' → pers b σ G v → pers b σ G' v) ∧
  (∀ M G0 H0 G H σ s b v, At M G0 H0 (Γ s) G H σ → pers b σ G v → (bowB X.K (rd b s)).b G H v) ∧
  ∀ M G0 H0 G H σ s, At M G0 H0 (Γ s) G H σ → ∀ Q : VK, (m s).wp (fun b s' => ∀ v G' H', At M G0 H0 (Γ s') G' H' σ → Step (Γ s) (Γ s') σ G H G' H' → pers b σ G' v → Q v H') (ExcK X w Γ M G0 H0 σ) → SE X e σ H Q
/-- one operand -/
theorem e1_ {R : U → Sl} {r : V → Hp → VK → Prop} {f : U → Option U} {ma : StM S β} {rd : β → S → U} (pe : ∀ σ H (Q : VK), SE X a σ H (fun v H1 => r v H1 Q) → SE X e σ H Q) (pr : Pr X.K R (r1l r) (a1 f)) (ha : Opd X w Γ a ma rd) :
    EvE X w Γ e (.bind ma fun x s => (StM.ofOpt (f (rd x s)) : StM S U) s) R := fun M G0 H0 G H σ s at_ Q q => by
  obtain ⟨pers, hp, hr, hv⟩ := ha
  refine pe σ H Q (hv M G0 H0 G H σ s at_ _ (wp_mono (wp_bind.mp q) (fun x s1 q1 v G1 H1 a1 st1 r1 => ?_) fun _ _ h => h))
  cases e1 : f (rd x s1) with
  | none =>
    rw [show (StM.ofOpt (f (rd x s1)) : StM S U) s1 = (StM.ofOpt (none : Option U) : StM S U) s1 by rw [e1]] at q1
    exact q1.elim
  | some d =>
    rw [show (StM.ofOpt (f (rd x s1)) : StM S U) s1 = (StM.ofOpt (some d) : StM S U) s1 by rw [e1]] at q1
    exact pr [rd x s1] d e1 H G1 H1 [v] Q a1.sub ⟨hr _ _ _ _ _ _ _ _ _ a1 r1, trivial⟩ fun v2 G2 H2 g2 r2 => q1 v2 G2 H2 (a1.grow g2) (st1.trans g2.step) (r2.since fun l h => st1.fresh a1 h)
/-- two operands -/
theorem e2_ {R : U → Sl} {r : R2} {f : U → U → Option U} {ma : StM S β} {rd : β → S → U} {mb : StM S γ} {rd2 : γ → S → U} (pe : ∀ σ H (Q : VK), SE X a σ H (fun v H1 => SE X b σ H1 fun u H2 => r v u H2 Q) → SE X e σ H Q) (pr : Pr X.K R (r2l r) (a2 f)) (ha : Opd X w Γ a ma rd) (hb : Opd X w Γ b mb rd2) :
    EvE X w Γ e (.bind ma fun x => .bind mb fun y s => (StM.ofOpt (f (rd x s) (rd2 y s)) : StM S U) s) R := fun M G0 H0 G H σ s at_ Q q => by
  obtain ⟨pers, hp, hr, hv⟩ := ha
  obtain ⟨pers2, hp2, hr2, hv2⟩ := hb
  refine pe σ H Q (hv M G0 H0 G H σ s at_ _ (wp_mono (wp_bind.mp q) (fun x s1 q1 v G1 H1 a1 st1 r1 => ?_) fun _ _ h => h))
  refine hv2 M G0 H0 G1 H1 σ s1 a1 _ (wp_mono (wp_bind.mp q1) (fun y s2 q2 u G2 H2 at2 st2 r2 => ?_) fun _ _ h => h)
  have st := st1.trans st2
  cases e1 : f (rd x s2) (rd2 y s2) with
  | none =>
    rw [show (StM.ofOpt (f (rd x s2) (rd2 y s2)) : StM S U) s2 = (StM.ofOpt (none : Option U) : StM S U) s2 by rw [e1]] at q2
    exact q2.elim
  | some d =>
    rw [show (StM.ofOpt (f (rd x s2) (rd2 y s2)) : StM S U) s2 = (StM.ofOpt (some d) : StM S U) s2 by rw [e1]] at q2
    exact pr [rd x s2, rd2 y s2] d e1 H G2 H2 [v, u] Q at2.sub ⟨hr _ _ _ _ _ _ _ _ _ at2 (hp _ _ _ _ _ st2.post.1 r1), hr2 _ _ _ _ _ _ _ _ _ at2 r2, trivial⟩ fun v2 G3 H3 g2 r3 => q2 v2 G3 H3 (at2.grow g2) (st.trans g2.step) (r3.since fun l h => st.fresh at2 h)
theorem pr_r1 {K : PySem.W.Frag} {R : U → Sl} {r : List V → Hp → VK → Prop} {f : U → Option U} (h : Pr K R r (a1 f)) : Pr K R (r1l fun v => r [v]) (a1 f) := pr1 fun u d e G H v Q ex b q => h [u] d e H G H [v] Q ex ⟨b, trivial⟩ q
theorem pr_r2 {K : PySem.W.Frag} {R : U → Sl} {r : List V → Hp → VK → Prop} {f : U → U → Option U} (h : Pr K R r (a2 f)) : Pr K R (r2l fun v u => r [v, u]) (a2 f) := pr2 fun u z d e G H v x Q ex b b2 q => h [u, z] d e H G H [v, x] Q ex ⟨b, b2, trivial⟩ q
theorem cmp_ {op : CmpOp} {R : U → Sl} {r : R2} {f : U → U → Option U} {ma : StM S β} {rd : β → S → U} {mb : StM S γ} {rd2 : γ → S → U} (hop : OpR X (compareOp op) r) (pr : Pr X.K R (r2l r) (a2 f)) (ha : Opd X w Γ a ma rd) (hb : Opd X w Γ b mb rd2) (hm : behindInMarks op b = false := by first | exact nomark _ | rfl) :
    EvE X w Γ (.Compare a [op] [b] pos) (.bind ma fun x => .bind mb fun y s => (StM.ofOpt (f (rd x s) (rd2 y s)) : StM S U) s) R := e2_ (fun σ H Q h => SE.of (pe_cmpR hop pe_se pe_se hm) h) pr ha hb
theorem ix_ {R : U → Sl} {r : R2} {f : U → U → Option U} {ma : StM S β} {rd : β → S → U} {mb : StM S γ} {rd2 : γ → S → U} (hop : IxR X r) (pr : Pr X.K R (r2l r) (a2 f)) (ha : Opd X w Γ a ma rd) (hb : Opd X w Γ b mb rd2) (hs : PlainIx b := by intro _ _; rfl) :
    EvE X w Γ (.Subscript a b pos) (.bind ma fun x => .bind mb fun y s => (StM.ofOpt (f (rd x s) (rd2 y s)) : StM S U) s) R := e2_ (fun σ H Q h => SE.of (pe_ix hop pe_se pe_se hs) h) pr ha hb
/-- a test by a value -/
def asB (u : U) : StM S Bool := match u with | .bool b => .pure b | _ => .fail
end
end L3
namespace L3
open PySem PySem.Spec PyProof.Rows L2
def tyU : U → String
  | .none => "NoneType"
  | .bool _ => "bool"
  | .int _ => "int"
  | .str _ => "str"
  | .list _ => "list"
  | .tuple _ => "tuple"
  | .dict _ => "dict"
  | .dictT _ => "dict"
  | .ins _ _ => ""
  | .fn _ => ""
  | .tupK _ => ""
  | .err _ _ _ => ""
def isInsU : U → Bool
  | .ins _ _ => true
  | .fn _ => true
  | .tupK _ => true
  | .err _ _ _ => true
  | .dictT _ => true
  | _ => false
/-- isinstance(x, T), T a built-in type -/
def uIsi (T : String) (u : U) : Option U := if isInsU u then none else (kitB (tyU u) T).map U.bool
def uLen : U → Option U
  | .str z => if z.length ≤ sizeLine then some (.int z.length) else none
  | .list ds => some (.int ds.length)
  | .tuple ds => some (.int ds.length)
  | .tupK ds => some (.int ds.length)
  | _ => none
def blsU : List U → Option (List Bool)
  | [] => some []
  | .bool b :: us => (blsU us).map (b :: ·)
  | _ => none
def intsU : List U → Option (List Int)
  | [] => some []
  | .int b :: us => (intsU us).map (b :: ·)
  | _ => none
def strsU : List U → Option (List Str)
  | [] => some []
  | .str b :: us => (strsU us).map (b :: ·)
  | _ => none
def uAll : U → Option U
  | .list ds => (blsU ds).map fun bs => .bool (bs.all id)
  | _ => none
def uAny : U → Option U
  | .list ds => (blsU ds).map fun bs => .bool (bs.any id)
  | _ => none
def uList : U → Option U
  | .list ds => some (.list ds)
  | .tuple ds => some (.list ds)
  | .str z => if z.length ≤ sizeLine then some (.list ((signs z).map U.str)) else none
  | _ => none
def uTuple : U → Option U
  | .list ds => some (.tuple ds)
  | .tuple ds => some (.tuple ds)
  | _ => none
def uMax2 : U → U → Option U
  | .int i, .int j => some (.int (if j > i then j else i))
  | _, _ => none
def uMin2 : U → U → Option U
  | .int i, .int j => some (.int (if j < i then j else i))
  | _, _ => none
def uNeg : U → Option U
  | .int i => some (.int (-i))
  | _ => none
def uDivmod : U → U → Option U
  | .int i, .int j => if 0 < j ∧ Builtin.divisionGoesByPylong i j = false then some (.tuple [.int (i / j), .int (i % j)]) else none
  | _, _ => none
def uAdd : U → U → Option U
  | .int i, .int j => some (.int (i + j))
  | .str i, .str j => if i.length + j.length ≤ sizeLine then some (.str (i ++ j)) else none
  | .tuple xs, .tuple ys => if xs.length + ys.length ≤ sizeLine ∧ ¬ xs.isEmpty ∧ ¬ ys.isEmpty then some (.tuple (xs ++ ys)) else none
  | .list xs, .list ys => if xs.length + ys.length ≤ sizeLine then some (.list (xs ++ ys)) else none
  | _, _ => none
def uSub : U → U → Option U
  | .int i, .int j => some (.int (i - j))
  | _, _ => none
def uMul : U → U → Option U
  | .int i, .int j => if i.natAbs < 2 ^ 64 ∨ j.natAbs < 2 ^ 64 then some (.int (i * j)) else none
  | _, _ => none
def uFdiv : U → U → Option U
  | .int i, .int j => if 0 < j ∧ j.natAbs.log2 < 9000 then some (.int (i / j)) else none
  | _, _ => none
def uMod : U → U → Option U
  | .int i, .int j => if 0 < j then some (.int (i % j)) else none
  | _, _ => none
def uPow : U → U → Option U
  | .int i, .int j => if 0 ≤ j ∧ j ≤ 1000000 ∧ i.natAbs < 2 ^ 64 then some (.int (i ^ j.toNat)) else none
  | _, _ => none
def uLt : U → U → Option U
  | .int i, .int j => some (.bool (decide (i < j)))
  | .str i, .str j => some (.bool (decide (i.cps.toList < j.cps.toList)))
  | _, _ => none
def uLe : U → U → Option U
  | .int i, .int j => some (.bool (decide (i ≤ j)))
  | .str i, .str j => some (.bool (!decide (j.cps.toList < i.cps.toList)))
  | _, _ => none
def uGt : U → U → Option U
  | .int i, .int j => some (.bool (decide (j < i)))
  | .str i, .str j => some (.bool (decide (j.cps.toList < i.cps.toList)))
  | _, _ => none
def uGe : U → U → Option U
  | .int i, .int j => some (.bool (decide (j ≤ i)))
  | .str i, .str j => some (.bool (!decide (i.cps.toList < j.cps.toList)))
  | _, _ => none
/-- of a kind that can be compared, not too deep -/
def shp (u : U) : Bool := noDct u && decide (u.py.depth ≤ 64)
def uEq (u v : U) : Option U := if shp u && shp v then some (.bool (eqD u v)) else none
def uNe (u v : U) : Option U := if shp u && shp v then some (.bool (!eqD u v)) else none
def flatU : U → Bool
  | .none | .bool _ | .int _ | .str _ => true
  | _ => false
def inStr (i j : Str) : Bool := !(Builtin.Str.occurrences j i 0 j.length 1).isEmpty
def uIn : U → U → Option U
  | u, .list ds => if shp u && shp (.list ds) then some (.bool (ds.any fun z => eqD z u)) else none
  | u, .tuple ds => if flatU u && ds.all flatU then some (.bool (ds.any fun z => eqD z u)) else none
  | .str i, .str j => some (.bool (if i.length = 1 then decide (i.cps.getD 0 0 ∈ j.cps.toList) else inStr i j))
  | _, _ => none
def uNotIn (u v : U) : Option U := match uIn u v with
  | some (.bool b) => some (.bool (!b))
  | _ => none
def uIdx : U → U → Option U
  | .list ds, .int i => atI ds i
  | .tuple ds, .int i => atI ds i
  | .tupK ds, .int i => atI ds i
  | .str z, .int i => if z.length ≤ sizeLine then (atI z.cps.toList i).map fun c => .str ⟨#[c]⟩ else none
  | _, _ => none
section
variable {K : PySem.W.Frag} {X : Cx}
theorem ty_u {G H : Hp} {v : V} {u : U} (e : Ex G H) (h : (bowB K u).b G H v) (hi : isInsU u = false) : TyX K H v (.type (tyU u)) := by
  have q := bow_dq e h
  cases u with
  | none => cases q; exact .base .non
  | bool b => cases q; exact .base (.bl _)
  | int i => cases q; exact .base (.int _)
  | str x => cases q; exact .base (.str _)
  | list ds =>
    cases q with
    | lst hs ha =>
      rcases hs with (z | ⟨o, z⟩) | ⟨o, its, n, h1, h2, _⟩
      · exact .base (.lst z)
      · exact .base (.frz z)
      · exact .kList h1 h2
  | tuple ds =>
    cases q with
    | tup hs ha => exact .base (.tup hs)
  | dict ds => cases q with
    | dct hh _ =>
      rcases hh with hh | ⟨o, hh⟩
      · exact .base (.dK hh)
      · exact .fDict hh
  | dictT ds => cases hi
  | ins C fs => cases hi
  | fn x => cases hi
  | tupK _ => cases hi
  | err _ _ _ => cases hi
/-- the answer a known value -/
theorem done {H0 G H : Hp} {v : V} {d : U} {Q : VK} (ex : Ex G H) (q : ∀ v G' H', Grow G H G' H' → Rok (dU K d) H G' H' v → Q v H') (h : Dq K G v d) : Q v H := q v G H (Grow.refl ex) h
theorem pr_isi {T : String} : Pr K (dU K) (fun vs => rIsi K (vs ++ [.ty T])) (a1 (uIsi T)) := pr1 fun u d e G H v Q ex b q => by
  unfold uIsi at e
  split at e
  · cases e
  · rename_i hi
    obtain ⟨k, hk, e2⟩ := Option.map_eq_some_iff.mp e
    subst e2
    exact ⟨v, .ty T, _, _, k, rfl, .ty T, ty_u ex b (by simpa using hi), kit_ty hk, q _ G H (Grow.refl ex) (.bl k)⟩
theorem pr_len : Pr K (dU K) (fun xs H Q => ∃ x n, xs = [x] ∧ LenV K x H n ∧ Q (.int n) H) (a1 uLen) := pr1 fun u d e G H v Q ex b q => by
  unfold uLen at e
  split at e
  · split at e
    · rename_i z hz
      cases e
      obtain ⟨rfl, _⟩ := bow_str b
      exact ⟨_, _, rfl, ⟨hz, rfl⟩, q _ G H (Grow.refl ex) (.int _)⟩
    · cases e
  · cases e
    obtain ⟨a, vs, rfl, h1, h2⟩ := bow_ls ex b
    refine ⟨_, vs.length, rfl, .inl ⟨vs, h1, rfl⟩, q _ G H (Grow.refl ex) ?_⟩
    rw [dpAll_len h2]; exact .int _
  · cases e
    obtain ⟨a, vs, rfl, h1, h2⟩ := bow_tp ex b
    refine ⟨_, vs.length, rfl, .inr ⟨vs, h1, rfl⟩, q _ G H (Grow.refl ex) ?_⟩
    rw [dpAll_len h2]; exact .int _
  · cases e
    obtain ⟨a, vs, rfl, h1, h2⟩ := bow_tk ex b
    refine ⟨_, vs.length, rfl, .inr ⟨vs, .inr h1, rfl⟩, q _ G H (Grow.refl ex) ?_⟩
    rw [dpAll_len h2]; exact .int _
  · cases e
theorem blsU_dq {G : Hp} : ∀ {ds : List U} {bs : List Bool} {vs : List V}, blsU ds = some bs → DqAll K G vs ds → vs = bs.map V.bl
  | [], bs, vs, e, h => by cases e; cases h; rfl
  | .bool b :: ds, bs, vs, e, h => by
    simp only [blsU] at e
    obtain ⟨cs, h1, rfl⟩ := Option.map_eq_some_iff.mp e
    cases h with
    | cons hd tl => cases hd; rw [blsU_dq h1 tl]; rfl
  | .none :: _, _, _, e, _ | .int _ :: _, _, _, e, _ | .str _ :: _, _, _, e, _ | .list _ :: _, _, _, e, _ | .tuple _ :: _, _, _, e, _ | .dict _ :: _, _, _, e, _ | .dictT _ :: _, _, _, e, _ | .ins _ _ :: _, _, _, e, _ | .fn _ :: _, _, _, e, _ | .tupK _ :: _, _, _, e, _ | .err _ _ _ :: _, _, _, e, _ => by simp [blsU] at e
theorem strsU_dq {G : Hp} : ∀ {ds : List U} {bs : List Str} {vs : List V}, strsU ds = some bs → DqAll K G vs ds → vs = bs.map V.str
  | [], bs, vs, e, h => by cases e; cases h; rfl
  | .str b :: ds, bs, vs, e, h => by
    simp only [strsU] at e
    obtain ⟨cs, h1, rfl⟩ := Option.map_eq_some_iff.mp e
    cases h with
    | cons hd tl => cases hd; rw [strsU_dq h1 tl]; rfl
  | .none :: _, _, _, e, _ | .bool _ :: _, _, _, e, _ | .int _ :: _, _, _, e, _ | .list _ :: _, _, _, e, _ | .tuple _ :: _, _, _, e, _ | .dict _ :: _, _, _, e, _ | .dictT _ :: _, _, _, e, _ | .ins _ _ :: _, _, _, e, _ | .fn _ :: _, _, _, e, _ | .tupK _ :: _, _, _, e, _ | .err _ _ _ :: _, _, _, e, _ => by simp [strsU] at e
theorem pr_all : Pr K (dU K) (rAll K) (a1 uAll) := pr1 fun u d e G H v Q ex b q => by
  unfold uAll at e
  split at e
  · obtain ⟨bs, h1, rfl⟩ := Option.map_eq_some_iff.mp e
    obtain ⟨a, vs, rfl, h3, h2⟩ := bow_ls ex b
    rw [blsU_dq h1 h2] at h3
    exact ⟨a, bs, rfl, h3, q _ G H (Grow.refl ex) (.bl _)⟩
  · cases e
theorem oNew {H0 G H : Hp} {vs : List V} {ds : List U} {l : Addr} {Q : VK} (ex : Ex G H) (hl : H l = none) (h2 : DqAll K G vs ds) (q : ∀ v G' H', Grow G H G' H' → Rok (oU K (.list ds)) H G' H' v → Q v H') : Q (.ref l) (upd H l (.lst vs)) :=
  q _ G _ (Grow.new ex hl) ⟨l, _, rfl, hl, Ex.back ex hl, upd_same, h2⟩
theorem tNew {H0 G H : Hp} {vs : List V} {ds : List U} {l : Addr} {Q : VK} (ex : Ex G H) (hl : H l = none) (h2 : DqAll K G vs ds) (q : ∀ v G' H', Grow G H G' H' → Rok (dU K (.tuple ds)) H G' H' v → Q v H') : Q (.ref l) (upd H l (.tup vs)) :=
  q _ _ _ (Grow.newF ex hl) (.tup upd_same (dpAll_ex (Ex.new (Ex.back ex hl)) _ _ h2))
theorem pr_tuple : Pr K (dU K) (fun xs H Q => ∃ p ys, xs = [.ref p] ∧ ((SqL K H p ys ∧ ∀ l, H l = none → Q (.ref l) (upd H l (.tup ys))) ∨ (SqT K H p ys ∧ Q (.ref p) H))) (a1 uTuple) := pr1 fun u d e G H v Q ex b q => by
  unfold uTuple at e
  split at e
  · cases e
    obtain ⟨a, vs, rfl, h3, h2⟩ := bow_ls ex b
    exact ⟨a, vs, rfl, .inl ⟨h3, fun l hl => tNew (H0 := H) ex hl h2 q⟩⟩
  · rename_i ds
    cases e
    have z := bow_at ex b (fun _ z => nomatch z) (fun _ z => nomatch z) (fun _ z => nomatch z) (fun _ _ z => nomatch z)
    cases z with
    | tup hs ha => exact ⟨_, _, rfl, .inr ⟨.inl (.inl (ex _ _ hs)), q _ G H (Grow.refl ex) (.tup hs ha)⟩⟩
  · cases e
theorem pr_max2 : Pr K (dU K) (fun xs H Q => ∃ i j, xs = [.int i, .int j] ∧ Q (.int (if j > i then j else i)) H) (a2 uMax2) := pr2 fun u w d e G H v x Q ex b b2 q => by
  unfold uMax2 at e
  split at e
  · cases e
    cases bow_int b; cases bow_int b2
    exact ⟨_, _, rfl, q _ G H (Grow.refl ex) (.int _)⟩
  · cases e
theorem pr_min2 : Pr K (dU K) (fun xs H Q => ∃ i j, xs = [.int i, .int j] ∧ Q (.int (if j < i then j else i)) H) (a2 uMin2) := pr2 fun u w d e G H v x Q ex b b2 q => by
  unfold uMin2 at e
  split at e
  · cases e
    cases bow_int b; cases bow_int b2
    exact ⟨_, _, rfl, q _ G H (Grow.refl ex) (.int _)⟩
  · cases e
theorem pr_divmod : Pr K (dU K) (fun xs H Q => ∃ i j, xs = [.int i, .int j] ∧ CDivP i j ∧ ∀ p, H p = none → Q (.ref p) (upd H p (.tup [.int (i / j), .int (i % j)]))) (a2 uDivmod) := pr2 fun u w d e G H v x Q ex b b2 q => by
  unfold uDivmod at e
  split at e
  · split at e
    · rename_i hc
      cases e
      cases bow_int b; cases bow_int b2
      exact ⟨_, _, rfl, hc, fun l hl => tNew (H0 := H) ex hl (.cons (.int _) (.cons (.int _) .nil)) q⟩
    · cases e
  · cases e
theorem pr_neg : Pr K (dU K) (r1l (rU fun i => .int (-i))) (a1 uNeg) := pr1 fun u d e G H v Q ex b q => by
  unfold uNeg at e
  split at e
  · cases e; cases bow_int b; exact ⟨_, rfl, q _ G H (Grow.refl ex) (.int _)⟩
  · cases e
/-- list + list, of any list that can be read -/
def rCatLL (K : PySem.W.Frag) : R2 := fun x y H Q => ∃ (l b : Addr) (xs zs : List V), x = .ref l ∧ y = .ref b ∧ SqL K H l xs ∧ SqL K H b zs ∧ xs.length + zs.length ≤ sizeLine ∧ ∀ p, H p = none → Q (.ref p) (upd H p (.lst (xs ++ zs)))
theorem op_catLL : OpR X (binaryOp .Add) (rCatLL X.K) := by
  intro pins s σ H x y v u Q I rx ry h
  obtain ⟨l, b, xs, zs, rfl, rfl, hH, hB, hz, q⟩ := h
  cases rx
  cases ry
  obtain ⟨its, r, ⟨⟨cls, dd, data, sl⟩, n, ho, hc, hd0, hd⟩, hl⟩ := I.list hH
  obtain ⟨its2, r2, ⟨⟨cls2, dd2, data2, sl2⟩, n2, ho2, hc2, hd02, hd2⟩, hl2⟩ := I.list hB
  simp only at hc hd hc2 hd2
  subst hc hd hc2 hd2
  have z1 := r.length
  have z2 := r2.length
  have ea : its.toArray ++ its2.toArray = (its ++ its2).toArray := by simp
  refine concat_meets ⟨_, ho, rfl⟩ ⟨_, ho2, rfl⟩ PySem.noFill_list_add PySem.seq_list_add PySem.F.slot_list_add PySem.F.entry_list_add (PySem.F.args_list_add_2 _ _) (list_addW l b its.toArray its2.toArray n n2 dd dd2 sl sl2 (by rw [List.size_toArray, List.size_toArray]; omega)) ⟨ho, ho2, ?_⟩
  rw [ea]
  exact ⟨.ref _, _, I.lnew (t' := s.toks) (r.append r2) (by rw [List.length_append]; omega), rfl, q _ I.fresh⟩
theorem lNewF {G H : Hp} {vs : List V} {ds : List U} {l : Addr} {Q : VK} (ex : Ex G H) (hl : H l = none) (h2 : DqAll K G vs ds) (q : ∀ v G' H', Grow G H G' H' → Rok (dU K (.list ds)) H G' H' v → Q v H') : Q (.ref l) (upd H l (.lst vs)) :=
  q _ _ _ (Grow.newF ex hl) (.lst (.inl (.inl upd_same)) (dpAll_ex (Ex.new (Ex.back ex hl)) _ _ h2))
def rAdd (K : PySem.W.Frag) : R2 := fun x y H Q => ((rI0 (fun i j => .int (i + j)) x y H Q ∨ (∃ i j, x = .str i ∧ y = .str j ∧ i.length + j.length ≤ sizeLine ∧ Q (.str (i ++ j)) H)) ∨ rCatT K x y H Q) ∨ rCatLL K x y H Q
theorem op_addU : OpR X (binaryOp .Add) (rAdd X.K) := OpR.or (OpR.or (OpR.or op_add op_add_str) op_catT) op_catLL
theorem strOk_append {i j : Str} (h : PyData.strOk i = true) (k : PyData.strOk j = true) : PyData.strOk (i ++ j) = true := by
  have e : (i ++ j).cps = i.cps ++ j.cps := rfl
  unfold PyData.strOk at h k ⊢
  rw [e, Array.all_append, h, k]; rfl
theorem pr_add : Pr K (dU K) (r2l (rAdd K)) (a2 uAdd) := pr2 fun u w d e G H v x Q ex b b2 q => by
  unfold uAdd at e
  split at e
  · cases e; cases bow_int b; cases bow_int b2
    exact .inl (.inl (.inl ⟨_, _, rfl, rfl, q _ G H (Grow.refl ex) (.int _)⟩))
  · split at e
    · rename_i hz
      cases e
      obtain ⟨rfl, h1⟩ := bow_str b
      obtain ⟨rfl, h2⟩ := bow_str b2
      exact .inl (.inl (.inr ⟨_, _, rfl, rfl, hz, q _ G H (Grow.refl ex) (.str _ (strOk_append h1 h2))⟩))
    · cases e
  · split at e
    · rename_i xs ys hz
      cases e
      obtain ⟨a, vs, rfl, h3, h4⟩ := bow_tp ex b
      obtain ⟨a2, ws, rfl, h5, h6⟩ := bow_tp ex b2
      have l1 := dpAll_len h4
      have l2 := dpAll_len h6
      have n1 : vs ≠ [] := by
        rintro rfl
        cases xs with
        | nil => simp at hz
        | cons _ _ => simp at l1
      have n2 : ws ≠ [] := by
        rintro rfl
        cases ys with
        | nil => simp at hz
        | cons _ _ => simp at l2
      exact .inl (.inr ⟨_, _, vs, ws, rfl, rfl, h3, h5, n1, by omega, fun z => absurd z n2, fun _ l hl => tNew (H0 := H) ex hl (dpAll_append h4 h6) q⟩)
    · cases e
  · split at e
    · rename_i xs ys hz
      cases e
      obtain ⟨a, vs, rfl, h3, h4⟩ := bow_ls ex b
      obtain ⟨a2, ws, rfl, h5, h6⟩ := bow_ls ex b2
      have l1 := dpAll_len h4
      have l2 := dpAll_len h6
      exact .inr ⟨_, _, vs, ws, rfl, rfl, h3, h5, by omega, fun l hl => lNewF ex hl (dpAll_append h4 h6) q⟩
    · cases e
  · cases e
theorem pr_sub : Pr K (dU K) (r2l (rI0 fun i j => .int (i - j))) (a2 uSub) := pr2 fun u w d e G H v x Q ex b b2 q => by
  unfold uSub at e
  split at e
  · cases e; cases bow_int b; cases bow_int b2
    exact ⟨_, _, rfl, rfl, q _ G H (Grow.refl ex) (.int _)⟩
  · cases e
theorem pr_mul : Pr K (dU K) (r2l (rI CMul fun i j => .int (i * j))) (a2 uMul) := pr2 fun u w d e G H v x Q ex b b2 q => by
  unfold uMul at e
  split at e
  · split at e
    · rename_i hz
      cases e; cases bow_int b; cases bow_int b2
      exact ⟨_, _, rfl, rfl, (by unfold CMul; omega), q _ G H (Grow.refl ex) (.int _)⟩
    · cases e
  · cases e
theorem pr_fdiv : Pr K (dU K) (r2l (rI CDivW fun i j => .int (i / j))) (a2 uFdiv) := pr2 fun u w d e G H v x Q ex b b2 q => by
  unfold uFdiv at e
  split at e
  · split at e
    · rename_i hz
      cases e; cases bow_int b; cases bow_int b2
      exact ⟨_, _, rfl, rfl, hz, q _ G H (Grow.refl ex) (.int _)⟩
    · cases e
  · cases e
theorem pr_mod : Pr K (dU K) (r2l (rI (fun _ j => 0 < j) fun i j => .int (i % j))) (a2 uMod) := pr2 fun u w d e G H v x Q ex b b2 q => by
  unfold uMod at e
  split at e
  · split at e
    · rename_i hz
      cases e; cases bow_int b; cases bow_int b2
      exact ⟨_, _, rfl, rfl, hz, q _ G H (Grow.refl ex) (.int _)⟩
    · cases e
  · cases e
theorem pr_pow : Pr K (dU K) (r2l (rI CPow fun i j => .int (i ^ j.toNat))) (a2 uPow) := pr2 fun u w d e G H v x Q ex b b2 q => by
  unfold uPow at e
  split at e
  · split at e
    · rename_i hz
      cases e; cases bow_int b; cases bow_int b2
      exact ⟨_, _, rfl, rfl, hz, q _ G H (Grow.refl ex) (.int _)⟩
    · cases e
  · cases e
def rLtU : R2 := fun x y H Q => rI0 (fun i j => .bl (decide (i < j))) x y H Q ∨ (∃ i j, x = .str i ∧ y = .str j ∧ Q (.bl (decide (i.cps.toList < j.cps.toList))) H)
def rLeU : R2 := fun x y H Q => rI0 (fun i j => .bl (decide (i ≤ j))) x y H Q ∨ (∃ i j, x = .str i ∧ y = .str j ∧ Q (.bl (!decide (j.cps.toList < i.cps.toList))) H)
def rGtU : R2 := fun x y H Q => rI0 (fun i j => .bl (decide (j < i))) x y H Q ∨ (∃ i j, x = .str i ∧ y = .str j ∧ Q (.bl (decide (j.cps.toList < i.cps.toList))) H)
theorem op_ltU : OpR X (compareOp .Lt) rLtU := OpR.or op_lt op_lt_str
theorem op_leU : OpR X (compareOp .LtE) rLeU := OpR.or op_le op_le_str
theorem op_gtU : OpR X (compareOp .Gt) rGtU := OpR.or op_gt op_gt_str
theorem pr_lt : Pr K (dU K) (r2l rLtU) (a2 uLt) := pr2 fun u w d e G H v x Q ex b b2 q => by
  unfold uLt at e
  split at e
  · cases e; cases bow_int b; cases bow_int b2; exact .inl ⟨_, _, rfl, rfl, q _ G H (Grow.refl ex) (.bl _)⟩
  · cases e; cases (bow_str b).1; cases (bow_str b2).1; exact .inr ⟨_, _, rfl, rfl, q _ G H (Grow.refl ex) (.bl _)⟩
  · cases e
theorem pr_le : Pr K (dU K) (r2l rLeU) (a2 uLe) := pr2 fun u w d e G H v x Q ex b b2 q => by
  unfold uLe at e
  split at e
  · cases e; cases bow_int b; cases bow_int b2; exact .inl ⟨_, _, rfl, rfl, q _ G H (Grow.refl ex) (.bl _)⟩
  · cases e; cases (bow_str b).1; cases (bow_str b2).1; exact .inr ⟨_, _, rfl, rfl, q _ G H (Grow.refl ex) (.bl _)⟩
  · cases e
theorem pr_gt : Pr K (dU K) (r2l rGtU) (a2 uGt) := pr2 fun u w d e G H v x Q ex b b2 q => by
  unfold uGt at e
  split at e
  · cases e; cases bow_int b; cases bow_int b2; exact .inl ⟨_, _, rfl, rfl, q _ G H (Grow.refl ex) (.bl _)⟩
  · cases e; cases (bow_str b).1; cases (bow_str b2).1; exact .inr ⟨_, _, rfl, rfl, q _ G H (Grow.refl ex) (.bl _)⟩
  · cases e
theorem shp_dp {G H : Hp} {v : V} {u : U} (ex : Ex G H) (b : (bowB K u).b G H v) (h : shp u = true) : Dp K H v u.py ∧ SeqAt.shaped u.py = true := by
  unfold shp at h
  simp only [Bool.and_eq_true, decide_eq_true_eq] at h
  have q := bow_dq ex b
  obtain ⟨h1, h2⟩ := dq_dp _ _ h.1 q
  exact ⟨h1, by unfold SeqAt.shaped; rw [h2, decide_eq_true h.2]; rfl⟩
theorem pr_eq : Pr K (dU K) (r2l (rEqD K)) (a2 uEq) := pr2 fun u w d e G H v x Q ex b b2 q => by
  unfold uEq at e
  split at e
  · rename_i hc
    simp only [Bool.and_eq_true] at hc
    cases e
    exact ⟨u.py, w.py, (shp_dp ex b hc.1).1, (shp_dp ex b2 hc.2).1, (shp_dp ex b hc.1).2, (shp_dp ex b2 hc.2).2, q _ G H (Grow.refl ex) (.bl _)⟩
  · cases e
theorem pr_ne : Pr K (dU K) (r2l (rNeD K)) (a2 uNe) := pr2 fun u w d e G H v x Q ex b b2 q => by
  unfold uNe at e
  split at e
  · rename_i hc
    simp only [Bool.and_eq_true] at hc
    cases e
    exact ⟨u.py, w.py, (shp_dp ex b hc.1).1, (shp_dp ex b2 hc.2).1, (shp_dp ex b hc.1).2, (shp_dp ex b2 hc.2).2, q _ G H (Grow.refl ex) (.bl _)⟩
  · cases e
end
end L3
namespace L3
open PySem PySem.Spec PyProof.Rows L2
section
variable {K : PySem.W.Frag} {X : Cx}
def rInU (K : PySem.W.Frag) : R2 := fun x y H Q => ((rInD K x y H Q ∨ rIn K false x y H Q) ∨ (∃ (c : Nat) (z : Str), x = .str ⟨#[c]⟩ ∧ y = .str z ∧ Q (.bl (decide (c ∈ z.cps.toList))) H)) ∨ (∃ i j, x = .str i ∧ y = .str j ∧ Q (.bl (!(Builtin.Str.occurrences j i 0 j.length 1).isEmpty)) H)
def rNotInU (K : PySem.W.Frag) : R2 := fun x y H Q => ((rNotInD K x y H Q ∨ rIn K true x y H Q) ∨ (∃ (c : Nat) (z : Str), x = .str ⟨#[c]⟩ ∧ y = .str z ∧ Q (.bl (!decide (c ∈ z.cps.toList))) H)) ∨ (∃ i j, x = .str i ∧ y = .str j ∧ Q (.bl (!(!(Builtin.Str.occurrences j i 0 j.length 1).isEmpty))) H)
theorem op_inU (hu : X.A.units + 65 < cLine) : OpR X (compareOp .In) (rInU X.K) := OpR.or (OpR.or (OpR.or (op_inD hu) op_in_seq) op_in_sign) op_in_str
theorem op_notInU (hu : X.A.units + 65 < cLine) : OpR X (compareOp .NotIn) (rNotInU X.K) := OpR.or (OpR.or (OpR.or (op_notInD hu) op_notIn_seq) op_notIn_sign) op_notIn_str
theorem flat_v {G : Hp} {v : V} {u : U} (h : Dq K G v u) (f : flatU u = true) : flatV v = true := by
  cases h <;> first | rfl | cases f
theorem flats_v {G : Hp} : ∀ {vs : List V} {us : List U}, DqAll K G vs us → us.all flatU = true → vs.all flatV = true
  | _, [], h, _ => by cases h; rfl
  | _, u :: us, h, f => by
    cases h with
    | cons h1 h2 =>
      rw [List.all_cons, Bool.and_eq_true] at f ⊢
      exact ⟨flat_v h1 f.1, flats_v h2 f.2⟩
theorem eqV_u {G : Hp} {x y : V} {u z : U} (h : Dq K G x u) (k : Dq K G y z) (f : flatU u = true) (g : flatU z = true) : eqV y x = eqD z u := by
  cases h <;> first | cases f | skip
  all_goals cases k <;> first | cases g | skip
  all_goals first | rfl | (simp [eqV, eqD, U.py, PyData.eqv]; done) | (unfold eqD; simp [U.py]; unfold PyData.eqv; rfl)
theorem inV_u {G : Hp} {x : V} {u : U} (h : Dq K G x u) (f : flatU u = true) : ∀ {vs : List V} {us : List U}, DqAll K G vs us → us.all flatU = true → inV x vs = us.any fun z => eqD z u
  | _, [], k, _ => by cases k; rfl
  | _, z :: us, k, g => by
    cases k with
    | cons k1 k2 =>
      rw [List.all_cons, Bool.and_eq_true] at g
      have ih := inV_u h f k2 g.2
      unfold inV at ih ⊢
      rw [List.any_cons, List.any_cons, ih, eqV_u h k1 f g.1]
theorem any_py (f : PyData → Bool) : ∀ us : List U, (U.pys us).any f = us.any fun u => f u.py
  | [] => rfl
  | u :: us => by rw [U.pys, List.any_cons, List.any_cons, any_py f us]
theorem in_core {G H : Hp} {v x : V} {u w d : U} (e : uIn u w = some d) (ex : Ex G H) (b : (bowB K u).b G H v) (b2 : (bowB K w).b G H x) : ∃ k, d = .bool k ∧ (∀ Q : VK, Q (.bl k) H → rInU K v x H Q) ∧ ∀ Q : VK, Q (.bl (!k)) H → rNotInU K v x H Q := by
  unfold uIn at e
  split at e
  · rename_i ds
    split at e
    · rename_i hc
      simp only [Bool.and_eq_true] at hc
      cases e
      have h1 := shp_dp ex b hc.1
      have h2 := shp_dp ex b2 hc.2
      rw [U.py] at h2
      refine ⟨_, rfl, fun Q q => .inl (.inl (.inl ⟨_, _, h1.1, h2.1, h1.2, h2.2, ?_⟩)), fun Q q => .inl (.inl (.inl ⟨_, _, h1.1, h2.1, h1.2, h2.2, ?_⟩))⟩
      · rw [any_py]; exact q
      · rw [any_py]; exact q
    · cases e
  · rename_i ds
    split at e
    · rename_i hc
      simp only [Bool.and_eq_true] at hc
      cases e
      obtain ⟨a, vs, rfl, h3, h2⟩ := bow_tp ex b2
      have hv : Dq K G v u := bow_at ex b (by rintro _ rfl; cases hc.1) (by rintro _ rfl; cases hc.1) (by rintro _ rfl; cases hc.1) (by rintro _ _ rfl; cases hc.1)
      have e1 := inV_u hv hc.1 h2 hc.2
      refine ⟨_, rfl, fun Q q => .inl (.inl (.inr ⟨_, vs, rfl, .inr h3, flat_v hv hc.1, flats_v h2 hc.2, ?_⟩)), fun Q q => .inl (.inl (.inr ⟨_, vs, rfl, .inr h3, flat_v hv hc.1, flats_v h2 hc.2, ?_⟩))⟩
      · rw [if_neg Bool.false_ne_true, e1]; exact q
      · rw [if_pos rfl, e1]; exact q
    · cases e
  · rename_i i j
    cases e
    obtain ⟨rfl, h1⟩ := bow_str b
    obtain ⟨rfl, h2⟩ := bow_str b2
    by_cases hl : i.length = 1
    · obtain ⟨⟨cs⟩⟩ := i
      match cs, hl with
      | [c], hl =>
        refine ⟨_, rfl, fun Q q => .inl (.inr ⟨c, j, rfl, rfl, ?_⟩), fun Q q => .inl (.inr ⟨c, j, rfl, rfl, ?_⟩)⟩
        · rw [if_pos hl] at q; exact q
        · rw [if_pos hl] at q; exact q
    · refine ⟨_, rfl, fun Q q => .inr ⟨_, _, rfl, rfl, ?_⟩, fun Q q => .inr ⟨_, _, rfl, rfl, ?_⟩⟩
      · rw [if_neg hl] at q; exact q
      · rw [if_neg hl] at q; exact q
  · cases e
theorem pr_in : Pr K (dU K) (r2l (rInU K)) (a2 uIn) := pr2 fun u w d e G H v x Q ex b b2 q => by
  obtain ⟨k, rfl, h, _⟩ := in_core e ex b b2
  exact h Q (q _ G H (Grow.refl ex) (.bl _))
theorem pr_notIn : Pr K (dU K) (r2l (rNotInU K)) (a2 uNotIn) := pr2 fun u w d e G H v x Q ex b b2 q => by
  unfold uNotIn at e
  split at e
  · rename_i k hk
    cases e
    obtain ⟨k', e', _, h⟩ := in_core hk ex b b2
    cases e'
    exact h Q (q _ G H (Grow.refl ex) (.bl _))
  · cases e
theorem dpAll_atI {G : Hp} {vs : List V} {us : List U} {i : Int} {d : U} (h : DqAll K G vs us) (e : atI us i = some d) : ∃ v, atI vs i = some v ∧ Dq K G v d := by
  unfold atI at e ⊢
  rw [dpAll_len h]
  cases hx : ixN us.length i with
  | none => rw [hx] at e; cases e
  | some j =>
    rw [hx] at e
    obtain ⟨v, h1, h2⟩ := dpAll_get h e
    exact ⟨v, h1, h2⟩
theorem atI_mem {α : Type} {xs : List α} {i : Int} {c : α} (hc : atI xs i = some c) : c ∈ xs := by
  unfold atI at hc
  obtain ⟨j, _, hj⟩ := Option.bind_eq_some_iff.mp hc
  exact List.mem_of_getElem? hj
theorem sign_ok {z : Str} {c : Nat} (h : PyData.strOk z = true) (hm : c ∈ z.cps.toList) : PyData.strOk ⟨#[c]⟩ = true := by
  have := (Array.all_eq_true_iff_forall_mem.mp h) c (by simpa using hm)
  simpa [PyData.strOk] using this
theorem pr_idx : Pr K (dU K) (r2l (rIx K)) (a2 uIdx) := pr2 fun u w d e G H v x Q ex b b2 q => by
  unfold uIdx at e
  split at e
  · cases bow_int b2
    obtain ⟨a, vs, rfl, h3, h2⟩ := bow_ls ex b
    obtain ⟨y, h4, h5⟩ := dpAll_atI h2 e
    exact .inl ⟨_, vs, _, y, rfl, rfl, h3, h4, q _ G H (Grow.refl ex) h5⟩
  · cases bow_int b2
    obtain ⟨a, vs, rfl, h3, h2⟩ := bow_tp ex b
    obtain ⟨y, h4, h5⟩ := dpAll_atI h2 e
    exact .inr (.inl ⟨_, vs, _, y, rfl, rfl, h3, h4, q _ G H (Grow.refl ex) h5⟩)
  · cases bow_int b2
    obtain ⟨a, vs, rfl, h3, h2⟩ := bow_tk ex b
    obtain ⟨y, h4, h5⟩ := dpAll_atI h2 e
    exact .inr (.inl ⟨_, vs, _, y, rfl, rfl, .inr h3, h4, q _ G H (Grow.refl ex) h5⟩)
  · split at e
    · rename_i hz
      cases bow_int b2
      obtain ⟨rfl, hok⟩ := bow_str b
      obtain ⟨c, hc, rfl⟩ := Option.map_eq_some_iff.mp e
      have hm := atI_mem hc
      exact .inr (.inr ⟨_, _, c, rfl, rfl, hz, hc, q _ G H (Grow.refl ex) (.str _ (sign_ok hok hm))⟩)
    · cases e
  · cases e
def cutU (us : List U) (lo hi : Option Int) : List U := (us.drop (HT.sIx us.length 0 lo)).take (HT.sIx us.length us.length hi - HT.sIx us.length 0 lo)
theorem dpAll_cut {G : Hp} {vs : List V} {us : List U} (lo hi : Option Int) (h : DqAll K G vs us) : DqAll K G (cutV vs lo hi) (cutU us lo hi) := by
  unfold cutV cutU
  rw [dpAll_len h]
  exact dpAll_take _ (dpAll_drop _ h)
def uCut (u : U) (lo hi : Option Int) : Option U := match u with
  | .list ds => some (.list (cutU ds lo hi))
  | .tuple ds => if HT.sIx ds.length 0 lo = 0 ∧ HT.sIx ds.length ds.length hi = ds.length then none else some (.tuple (cutU ds lo hi))
  | .str z => if z.length ≤ sizeLine then some (.str (cutS z lo hi)) else none
  | _ => none
theorem SlR.or {r r' : V → Option Int → Option Int → Hp → VK → Prop} (h : SlR X r) (h' : SlR X r') : SlR X (fun x l u H Q => r x l u H Q ∨ r' x l u H Q) := by
  intro pins s σ H x v vl vu lo hi sl Q I rx hs pl pu q
  rcases q with q | q
  · exact h pins s σ H x v vl vu lo hi sl Q I rx hs pl pu q
  · exact h' pins s σ H x v vl vu lo hi sl Q I rx hs pl pu q
def rSlU (K : PySem.W.Frag) : V → Option Int → Option Int → Hp → VK → Prop := fun x lo hi H Q => (rSlL K x lo hi H Q ∨ rSlT K x lo hi H Q) ∨ rSlS x lo hi H Q
theorem sl_u : SlR X (rSlU X.K) := SlR.or (SlR.or sl_list sl_tup) sl_str
theorem cut_ok {z : Str} {lo hi : Option Int} (h : PyData.strOk z = true) : PyData.strOk (cutS z lo hi) = true := by
  unfold PyData.strOk at h ⊢
  rw [Array.all_eq_true_iff_forall_mem] at h ⊢
  intro c hc
  refine h c ?_
  unfold cutS at hc
  rw [List.mem_toArray] at hc
  simpa using List.mem_of_mem_drop (List.mem_of_mem_take hc)
theorem cut_run {G H : Hp} {v : V} {u d : U} {lo hi : Option Int} {Q : VK} (e : uCut u lo hi = some d) (ex : Ex G H) (b : (bowB K u).b G H v) (q : ∀ v G' H', Grow G H G' H' → Rok (dU K d) H G' H' v → Q v H') : rSlU K v lo hi H Q := by
  unfold uCut at e
  split at e
  · cases e
    obtain ⟨a, vs, rfl, h3, h2⟩ := bow_ls ex b
    refine .inl (.inl ⟨a, vs, rfl, h3, fun l hl => ?_⟩)
    exact q _ _ _ (Grow.newF ex hl) (.lst (.inl (.inl upd_same)) (dpAll_ex (Ex.new (Ex.back ex hl)) _ _ (dpAll_cut lo hi h2)))
  · split at e
    · cases e
    · rename_i hn
      cases e
      obtain ⟨a, vs, rfl, h3, h2⟩ := bow_tp ex b
      refine .inl (.inr ⟨a, vs, rfl, h3, by rw [dpAll_len h2]; exact hn, fun l hl => tNew (H0 := H) ex hl (dpAll_cut lo hi h2) q⟩)
  · split at e
    · rename_i hz
      cases e
      obtain ⟨rfl, hok⟩ := bow_str b
      exact .inr ⟨_, rfl, hz, q _ G H (Grow.refl ex) (.str _ (cut_ok hok))⟩
    · cases e
  · cases e
end
section
variable {S β γ δ : Type} {X : Cx} {w : Env1} {Γ : S → Gam} {a b c e : Expr} {pos p p2 : Pos} {x : Str}
def asI (u : U) : StM S Int := match u with | .int i => .pure i | _ => .fail
/-- a part of a slice: none, or a whole number -/
def PartE (X : Cx) (w : Env1) (Γ : S → Gam) (o : Option Expr) (m : StM S (Option Int)) : Prop := ∃ t, PO X o t ∧ ∀ M G0 H0 G H σ s, At M G0 H0 (Γ s) G H σ → ∀ Q : Option Int → Hp → Prop,
  (m s).wp (fun l s' => ∀ G' H', At M G0 H0 (Γ s') G' H' σ → Step (Γ s) (Γ s') σ G H G' H' → Q l H') (ExcK X w Γ M G0 H0 σ) → t σ H Q
/-- e[lo:hi], frozen -/
theorem sl_ {ma : StM S β} {rd : β → S → U} {lo hi : Option Expr} {ml mh : StM S (Option Int)} (ha : Opd X w Γ a ma rd) (hl : PartE X w Γ lo ml) (hh : PartE X w Γ hi mh) :
    EvD X w Γ (.Subscript a (.Slice lo hi none p2) pos) (.bind ma fun x => .bind ml fun l => .bind mh fun h s => (StM.ofOpt (uCut (rd x s) l h) : StM S U) s) := fun M G0 H0 G H σ s at_ Q q => by
  obtain ⟨pers, hp, hr, hv⟩ := ha
  obtain ⟨tl, pl, hl⟩ := hl
  obtain ⟨th, ph, hh⟩ := hh
  refine SE.of (pe_slice sl_u pe_se pl ph) (hv M G0 H0 G H σ s at_ _ (wp_mono (wp_bind.mp q) (fun x s1 q1 v G1 H1 a1 st1 r1 => ?_) fun _ _ h => h))
  refine hl M G0 H0 G1 H1 σ s1 a1 _ (wp_mono (wp_bind.mp q1) (fun l s2 q2 G2 H2 a2 st2 => ?_) fun _ _ h => h)
  refine hh M G0 H0 G2 H2 σ s2 a2 _ (wp_mono (wp_bind.mp q2) (fun h s3 q3 G3 H3 a3 st3 => ?_) fun _ _ h => h)
  have st := (st1.trans st2).trans st3
  cases e1 : uCut (rd x s3) l h with
  | none =>
    rw [show (StM.ofOpt (uCut (rd x s3) l h) : StM S U) s3 = (StM.ofOpt (none : Option U) : StM S U) s3 by rw [e1]] at q3
    exact q3.elim
  | some d =>
    rw [show (StM.ofOpt (uCut (rd x s3) l h) : StM S U) s3 = (StM.ofOpt (some d) : StM S U) s3 by rw [e1]] at q3
    exact cut_run e1 a3.sub (hr _ _ _ _ _ _ _ _ _ a3 (hp _ _ _ _ _ (st2.post.1.trans st3.post.1) r1)) fun v2 G4 H4 g4 r4 => q3 v2 G4 H4 (a3.grow g4) (st.trans g4.step) r4
end
section
variable {S β γ δ : Type} {X : Cx} {w : Env1} {Γ : S → Gam} {a b c e : Expr} {pos apos p p2 : Pos} {x : Str}
def uJoin : U → U → Option U
  | .str a, .list us => (strsU us).bind fun ys => if (ys.map (·.length)).sum + ys.length * a.length ≤ 16777216 ∧ PyData.strOk (Txt.join a ys) = true then some (.str (Txt.join a ys)) else none
  | .str a, .tuple us => (strsU us).bind fun ys => if (ys.map (·.length)).sum + ys.length * a.length ≤ 16777216 ∧ PyData.strOk (Txt.join a ys) = true then some (.str (Txt.join a ys)) else none
  | _, _ => none
def isStrU : U → Bool
  | .str _ => true
  | _ => false
/-- a.m(e) of a text -/
theorem sm1_ {R : U → Sl} {r : V → List V → Hp → VK → Prop} {f : U → U → Option U} {ma mb : StM S U} (pe : PE X e (tM1 r (SE X a) (SE X b))) (hf : ∀ u z d, f u z = some d → isStrU u = true) (pr : Pr X.K R (r2l fun x y => r x [y]) (a2 f)) (ha : EvD X w Γ a ma) (hb : EvD X w Γ b mb) :
    EvE X w Γ e (.bind ma fun u => .bind (if isStrU u then .pure () else .fail) fun _ => .bind mb fun z => .ofOpt (f u z)) R := fun M G0 H0 G H σ s at_ Q q =>
  SE.of pe (ha M G0 H0 G H σ s at_ _ (wp_mono (wp_bind.mp q) (fun x s1 q1 v1 G1 H1 at1 st1 r1 => by
    cases x with
    | str z =>
      have e1 : v1 = .str z := by cases r1; rfl
      subst e1
      have q1 : ((StM.bind mb fun y => (StM.ofOpt (f (.str z) y) : StM S U)) s1).wp _ _ := q1
      refine ⟨⟨z, rfl⟩, hb M G0 H0 G1 H1 σ s1 at1 _ (wp_mono (wp_bind.mp q1) (fun y s2 q2 v2 G2 H2 at2 st2 r2 => ?_) fun _ _ h => h)⟩
      have st := st1.trans st2
      cases e1 : f (.str z) y with
      | none => rw [e1] at q2; exact q2.elim
      | some d =>
        rw [e1] at q2
        exact pr [.str z, y] d e1 H G2 H2 [.str z, v2] Q at2.sub ⟨.inl (dp_ex st2.post.1 _ _ r1), .inl r2, trivial⟩ fun v5 G5 H5 g5 r5 => q2 v5 G5 H5 (at2.grow g5) (st.trans g5.step) (r5.since fun l h => st.fresh at2 h)
    | _ => exact q1.elim) fun _ _ h => h))
theorem pr_join {K : PySem.W.Frag} : Pr K (dU K) (r2l fun x y => (fun x xs H Q => ∃ a p, ∃ ys : List Str, x = .str a ∧ xs = [.ref p] ∧ (SqL K H p (ys.map V.str) ∨ SqT K H p (ys.map V.str)) ∧
    (ys.map (·.length)).sum + ys.length * a.length ≤ 16777216 ∧ Q (.str (Txt.join a ys)) H) x [y]) (a2 uJoin) := pr2 fun u w d e G H v x Q ex b b2 q => by
  unfold uJoin at e
  split at e
  · obtain ⟨ys, h1, h2⟩ := Option.bind_eq_some_iff.mp e
    split at h2
    · rename_i hz
      cases h2
      obtain ⟨a, vs, rfl, h3, h4⟩ := bow_ls ex b2
      obtain ⟨rfl, hok⟩ := bow_str b
      rw [strsU_dq h1 h4] at h3
      exact ⟨_, a, ys, rfl, rfl, .inl h3, hz.1, q _ G H (Grow.refl ex) (.str _ hz.2)⟩
    · cases h2
  · obtain ⟨ys, h1, h2⟩ := Option.bind_eq_some_iff.mp e
    split at h2
    · rename_i hz
      cases h2
      obtain ⟨a, vs, rfl, h3, h4⟩ := bow_tp ex b2
      obtain ⟨rfl, hok⟩ := bow_str b
      rw [strsU_dq h1 h4] at h3
      exact ⟨_, a, ys, rfl, rfl, .inr h3, hz.1, q _ G H (Grow.refl ex) (.str _ hz.2)⟩
    · cases h2
  · cases e
theorem join_str {u z d : U} (h : uJoin u z = some d) : isStrU u = true := by
  unfold uJoin at h
  split at h
  · rfl
  · rfl
  · cases h
theorem join_ {ma mb : StM S U} (ha : EvD X w Γ a ma) (hb : EvD X w Γ b mb) (hs : starEach [b] X.env = [(false, eval b X.env)] := by rfl) (hbase : attributeBase a "join" X.env (eval a X.env) = eval a X.env := by rfl) (hline : (apos.endLine == pos.line) = true := by rfl) :
    EvD X w Γ (.Call (.Attribute a "join" apos) [b] [] pos) (.bind ma fun u => .bind (if isStrU u then .pure () else .fail) fun _ => .bind mb fun z => .ofOpt (uJoin u z)) := sm1_ (pe_join pe_se pe_se hs hbase hline) (fun _ _ _ h => join_str h) pr_join ha hb
end
end L3
namespace L3
open PySem PySem.Spec PyProof.Rows L2
section
variable {K : PySem.W.Frag}
def putU {κ : Type} [DecidableEq κ] (kvs : List (κ × U)) (k : κ) (v : U) : List (κ × U) :=
  if (kvs.any fun kv => decide (kv.1 = k)) = true then kvs.map (fun kv => if kv.1 = k then (kv.1, v) else kv) else kvs ++ [(k, v)]
def valU {κ : Type} [DecidableEq κ] (kvs : List (κ × U)) (k : κ) : Option U := (kvs.find? fun kv => decide (kv.1 = k)).map (·.2)
def mergeU (kvs more : List (Key × U)) : List (Key × U) := more.foldl (fun acc kv => putU acc kv.1 kv.2) kvs
theorem kv_any {G : Hp} {k : Key} : ∀ {kvs : List (Key × V)} {us : List (Key × U)}, DqKvs K G kvs us → (kvs.any fun kv => decide (kv.1 = k)) = us.any fun kv => decide (kv.1 = k)
  | _, [], h => by cases h; rfl
  | _, _ :: us, h => by cases h with | cons h1 h2 => rw [List.any_cons, List.any_cons, kv_any h2]
theorem kv_map {G : Hp} {k : Key} {v : V} {d : U} (q : Dq K G v d) : ∀ {kvs : List (Key × V)} {us : List (Key × U)}, DqKvs K G kvs us → DqKvs K G (kvs.map fun kv => if kv.1 = k then (kv.1, v) else kv) (us.map fun kv => if kv.1 = k then (kv.1, d) else kv)
  | _, [], h => by cases h; exact .nil
  | _, (k', _) :: us, h => by
    cases h with
    | cons h1 h2 =>
      rw [List.map_cons, List.map_cons]
      by_cases hk : k' = k
      · simp only [hk, if_true]; exact .cons q (kv_map q h2)
      · simp only [hk, if_false]; exact .cons h1 (kv_map q h2)
theorem kv_append {G : Hp} : ∀ {kvs ws : List (Key × V)} {us xs : List (Key × U)}, DqKvs K G kvs us → DqKvs K G ws xs → DqKvs K G (kvs ++ ws) (us ++ xs)
  | _, _, [], _, h, k => by cases h; exact k
  | _, _, _ :: _, _, h, k => by cases h with | cons h1 h2 => exact .cons h1 (kv_append h2 k)
theorem kv_put {G : Hp} {k : Key} {v : V} {d : U} {kvs : List (Key × V)} {us : List (Key × U)} (q : Dq K G v d) (h : DqKvs K G kvs us) : DqKvs K G (putK kvs k v) (putU us k d) := by
  unfold putK putU
  rw [kv_any h]
  split
  · exact kv_map q h
  · exact kv_append h (.cons q .nil)
theorem kv_len {G : Hp} : ∀ {kvs : List (Key × V)} {us : List (Key × U)}, DqKvs K G kvs us → kvs.length = us.length
  | _, [], h => by cases h; rfl
  | _, _ :: _, h => by cases h with | cons _ h2 => simp [kv_len h2]
def keyU : U → Option Key
  | .int i => some (.inl i)
  | .str x => some (.inr x)
  | _ => none
theorem keyU_v {G : Hp} {v : V} {u : U} {k : Key} (e : keyU u = some k) (h : Dq K G v u) : v = kV k := by
  cases h <;> cases e <;> rfl
end
section
variable {S β γ δ : Type} {X : Cx} {w : Env1} {Γ : S → Gam} {a b c e : Expr} {pos apos p p2 : Pos} {x : Str}
def rListS : List V → Hp → VK → Prop := fun xs H Q => ∃ z, xs = [.str z] ∧ z.length ≤ sizeLine ∧ ∀ l, H l = none → Q (.ref l) (upd H l (.lst ((L3.signs z).map V.str)))
theorem call_listS {X : Cx} (hc : X.calm = true) : CallR X (.type "list") rListS := by
  intro pins s σ H xs us Q I r h
  obtain ⟨z, rfl, hz, q⟩ := h
  obtain ⟨u, rfl, t, rfl⟩ := vals1 r
  refine call_list_str (I.ok.hd hc) z t (fun h' tk acc' c' hk hS hacc => ?_) hz
  have hl : ((L3.signs z).map V.str).length = z.cps.size := by simp [L3.signs]
  refine ⟨.ref s.heap.objs.size, upd H s.heap.objs.size (.lst ((L3.signs z).map V.str)), I.laid hk (Nat.le_refl _) (show ObjOk X.prog X.w _ _ _ (.lst _) from ⟨by rw [hl]; exact hz, acc'.toList, c', ?_, by simpa using hS⟩), rfl, q _ (I.hok.fresh (Nat.le_refl _))⟩
  refine vals_of_at (by rw [hl]; simp [hacc.1]) fun j y w h1 h2 => ?_
  obtain ⟨c, tk', hc', rfl⟩ := hacc.2 j w (by simpa using h2)
  have e1 : ((L3.signs z).map V.str)[j]? = some (V.str ⟨#[c]⟩) := by
    unfold L3.signs
    rw [List.getElem?_map, List.getElem?_map, Array.getElem?_toList, hc']
    rfl
  rw [e1] at h1
  cases h1
  exact ⟨_, rfl⟩
def rListU (K : PySem.W.Frag) : List V → Hp → VK → Prop := fun xs H Q => (∃ p ys, xs = [.ref p] ∧ (SqL K H p ys ∨ SqT K H p ys) ∧ ∀ l, H l = none → Q (.ref l) (upd H l (.lst ys))) ∨ rListS xs H Q
theorem call_listU {X : Cx} (hc : X.calm = true) : CallR X (.type "list") (rListU X.K) := CallR.or call_list_of (call_listS hc)
theorem dq_signs {K : PySem.W.Frag} {G : Hp} {z : Str} (h : PyData.strOk z = true) : ∀ {l : List Str}, (∀ y ∈ l, y ∈ L3.signs z) → DqAll K G (l.map V.str) (l.map U.str)
  | [], _ => .nil
  | y :: l, hl => by
    refine .cons (.str _ ?_) (dq_signs h fun y hy => hl y (List.mem_cons_of_mem _ hy))
    obtain ⟨c, hc, rfl⟩ := List.mem_map.mp (hl y List.mem_cons_self)
    exact sign_ok h hc
theorem pr_listU {K : PySem.W.Frag} : Pr K (oU K) (rListU K) (a1 uList) := pr1 fun u d e G H v Q ex b q => by
  unfold uList at e
  split at e
  · cases e
    obtain ⟨a, vs, rfl, h3, h2⟩ := bow_ls ex b
    exact .inl ⟨a, vs, rfl, .inl h3, fun l hl => oNew (H0 := H) ex hl h2 q⟩
  · cases e
    obtain ⟨a, vs, rfl, h3, h2⟩ := bow_tp ex b
    exact .inl ⟨a, vs, rfl, .inr h3, fun l hl => oNew (H0 := H) ex hl h2 q⟩
  · split at e
    · rename_i hz
      cases e
      obtain ⟨rfl, hok⟩ := bow_str b
      exact .inr ⟨_, rfl, hz, fun l hl => oNew (H0 := H) ex hl (dq_signs hok fun y hy => hy) q⟩
    · cases e
  · cases e
end
end L3
namespace L3
open PySem PySem.Spec PyProof.Rows L2
def StM.put (u : U) : StM U Unit := fun _ => .ok () u
section
variable {S T β γ : Type} {X : Cx} {w : Env1} {M : Addr → Prop} {Γ : S → Gam} {Γ0 : Gam} {Γu : U → Gam} {e a b c : Expr} {pos p ps p2 : Pos} {x y : Str}
/-- a call of a method of what slot i holds, which is changed by it -/
def MutR (K : PySem.W.Frag) (r : V → List V → Hp → VK → Prop) (g : U → List U → Option (U × U)) : Prop := ∀ u us u' d, g u us = some (u', d) → ∀ (G H : Hp) (l : Addr) (o : HO) vs (Q : VK), Ex G H → H l = some o → topO K G o u → DqAll K G vs us →
  (∀ o' v, topO K G o' u' → Dq K G v d → Q v (upd H l o')) → r (V.ref l) vs H Q
def uAppend (u : U) (us : List U) : Option (U × U) := match u, us with
  | .list ds, [d] => if ds.length < sizeLine then some (.list (ds ++ [d]), .none) else none
  | _, _ => none
theorem mu_append {K : PySem.W.Frag} : MutR K rAppend uAppend := fun u us u' d e G H l o vs Q ex hl ht hd q => by
  unfold uAppend at e
  split at e
  · split at e
    · rename_i ds y hz
      cases e
      cases o <;> first | exact ht.elim | skip
      rename_i xs
      cases hd with
      | cons h1 h2 =>
        cases h2
        have hl2 := dpAll_len (show DqAll K G xs ds from ht)
        exact ⟨l, xs, _, rfl, rfl, hl, by omega, q (.lst _) .non (dpAll_append ht (.cons h1 .nil)) .non⟩
    · cases e
  · cases e
def uReverse (u : U) (us : List U) : Option (U × U) := match u, us with
  | .list ds, [] => some (.list ds.reverse, .none)
  | _, _ => none
def uClear (u : U) (us : List U) : Option (U × U) := match u, us with
  | .list ds, [] => some (.list [], .none)
  | _, _ => none
end
end L3
namespace L3
open PySem PySem.Spec PyProof.Rows L2
end L3
namespace L3
open PySem PySem.Spec PyProof.Rows L2
section
variable {S T α β γ : Type} {X : Cx} {w : Env1} {M : Addr → Prop} {Γ : S → Gam} {e a b c l l2 tg : Expr} {es : List Expr} {pos p ps p2 apos : Pos} {x y nm : Str} {i j : Nat} {ad : Option Addr}
theorem takes_no : Takes X fun _ _ _ _ => False := fun u s' ⟨_, _, _, _, _, _, _, _, _, _, _, _, _, _, _, _, z⟩ => z.elim
/-- isinstance(a, T), T a built-in type -/
theorem isi_ {T : Str} {Ts : String} {ma : StM S β} {rd : β → S → U} (ha : Opd X w Γ a ma rd) (hm : X.mg "isinstance" = none) (hT : X.mg T = none) (hv : bootBuiltins T = some (.type Ts)) (hb : bootBuiltins "isinstance" = some (.builtin "isinstance")) (hg : Gl X "isinstance" := by rfl) (hgT : Gl X T := by rfl) (hn : T ≠ "__name__" := by decide) (hdT : (T == ("__debug__" : Str)) = false := by decide)
    (h1 : starEach [a, .Name T p2] X.env = (false, eval a X.env) :: starEach [.Name T p2] X.env := by rfl) (hpl : (backTo pos (starEach [.Name T p2] X.env)).any (·.1) = false := by rfl) (h2 : starEach [.Name T p2] X.env = (false, eval (.Name T p2) X.env) :: starEach [] X.env := by rfl) :
    EvD X w Γ (.Call (.Name "isinstance" p) [a, .Name T p2] [] pos) (.bind ma fun x s => (StM.ofOpt (uIsi Ts (rd x s)) : StM S U) s) :=
  e1_ (r := fun v => rIsi X.K [v, .ty Ts]) (fun σ H Q h => SE.of (pe_callB (x := ("isinstance" : Str)) call_isi hg hm hb (pa_cons pe_se (pa_cons (pe_bltn (v := .ty Ts) hgT hT hv rfl hn hdT) pa_nil h2) h1) (by decide) (by decide) h1 hpl) h) (pr1 fun u d e G H v Q ex b q => pr_isi [u] d e H G H [v] Q ex ⟨b, trivial⟩ q) ha
end
theorem callee_X {w : World} {P : Program} {H : Hp} {s : Shared} {e : Value} {s' : Shared} (h : L2.CX P w [] H s (fun _ _ _ => False) e s') : False := by
  obtain ⟨_, _, _, _, _, _, _, _, _, _, _, _, z⟩ := h
  exact z
end L3
namespace L3
open PySem PySem.Spec PyProof.Rows L2
theorem bt_len : bootBuiltins "len" = some (.builtin "len") := by decide +kernel
theorem bt_isinstance : bootBuiltins "isinstance" = some (.builtin "isinstance") := by decide +kernel
section
variable {S T α β γ ρ : Type} {X : Cx} {w : Env1} {M : Addr → Prop} {io : S → Hp → Hp → Prop} {Γ : S → Gam} {Γn : T → S → Gam} {R : ρ → Sl} {e a b c l l2 tg : Expr} {es : List Expr} {A B rest : List Stmt} {pos p ps p2 apos : Pos} {x y nm : Str} {i j : Nat} {ad : Option Addr}
/-- what must not come to its end -/
def Fl.stop {S T ρ : Type} (o : Fl T ρ) : StM S (Fl T ρ) := match o with
  | .nx _ => .fail
  | o => .pure o
theorem hr65 {k : Nat} {A : Around} (r : RoomG k A) : A.units + 65 < cLine := by have := r.un; omega
theorem tch_ {op op' : CmpOp} {r r' : R2} {f f' : U → U → Option U} {ma : StM S U} {mb : StM S U} {mc : StM S U} (hop : OpR X (compareOp op) r) (hop' : OpR X (compareOp op') r') (pr : Pr X.K (dU X.K) (r2l r) (a2 f)) (pr' : Pr X.K (dU X.K) (r2l r') (a2 f')) (ha : EvD X w Γ a ma) (hb : EvD X w Γ b mb) (hc : EvD X w Γ c mc)
    (hm : lastMarks [op, op'] [b, c] = false := by with_unfolding_all rfl) : TeE X w Γ (.Compare a [op, op'] [b, c] pos) (.bind ma fun x => .bind mb fun y => .bind (.ofOpt (f x y)) fun d => .bind (asB d) fun k => if k = true then .bind mc fun z => .bind (.ofOpt (f' y z)) asB else .pure false) := fun M G0 H0 G H σ s at_ Q q =>
  ST.of (pt_chain hop hop' pe_se pe_se pe_se hm) (ha M G0 H0 G H σ s at_ _ (wp_mono (wp_bind.mp q) (fun x s1 q1 v1 G1 H1 at1 st1 r1 => hb M G0 H0 G1 H1 σ s1 at1 _ (wp_mono (wp_bind.mp q1) (fun y s2 q2 v2 G2 H2 at2 st2 r2 => by
    cases e1 : f x y with
    | none => rw [e1] at q2; exact q2.elim
    | some d =>
      rw [e1] at q2
      have q2 := wp_bind.mp q2
      refine pr [x, y] d e1 H1 G2 H2 [v1, v2] _ at2.sub ⟨.inl (dp_ex st2.post.1 _ _ r1), .inl r2, trivial⟩ fun v3 G3 H3 g3 r3 => ?_
      cases d with
      | bool k =>
        cases r3
        refine ⟨k, rfl, ?_⟩
        have q3 := wp_bind.mp q2
        cases k with
        | true =>
          rw [if_pos rfl]
          have q4 : ((StM.bind mc fun z => (StM.bind (StM.ofOpt (f' y z)) asB : StM S Bool)) s2).wp _ _ := q3
          refine hc M G0 H0 G3 H3 σ s2 (at2.grow g3) _ (wp_mono (wp_bind.mp q4) (fun z s4 q5 v4 G4 H4 a4 st4 r4 => ?_) fun _ _ h => h)
          have st := ((st1.trans st2).trans g3.step).trans st4
          cases e2 : f' y z with
          | none => rw [e2] at q5; exact q5.elim
          | some d2 =>
            rw [e2] at q5
            refine pr' [y, z] d2 e2 H3 G4 H4 [v2, v4] _ a4.sub ⟨.inl (dp_ex (g3.ex.trans st4.post.1) _ _ r2), .inl r4, trivial⟩ fun v5 G5 H5 g5 r5 => ?_
            cases d2 with
            | bool k2 => cases r5; exact ⟨k2, rfl, q5 G5 H5 (a4.grow g5) (st.trans g5.step)⟩
            | _ => exact q5.elim
        | false =>
          rw [if_neg Bool.false_ne_true]
          exact ⟨false, rfl, q3 G3 H3 (at2.grow g3) ((st1.trans st2).trans g3.step)⟩
      | _ => exact q2.elim) fun _ _ h => h)) fun _ _ h => h))
end
end L3
namespace L3
open PySem PySem.Spec PyProof.Rows L2
/-- a new thing: m runs on its content -/
def StM.mk {S β : Type} (m : StM U β) (u : U) : StM S U := fun s => match m u with
  | .ok _ u' => .ok u' s
  | .exc e _ => .exc e s
  | .stuck => .stuck
section
variable {S β γ δ α : Type} {X : Cx} {w : Env1} {M : Addr → Prop} {Γ : S → Gam} {CX : CXT} {k : Nat} {f C : Addr} {fd : FuncData} {ps : List Str} {sp : Sp} {E : L2.St → XK} {x m : Str} {p pos apos : Pos} {e o a : Expr} {es : List Expr} {t : TA}
theorem run_makeS {pins : List (Addr × Obj)} {σ : L2.St} {H : Hp} {s : Shared} {Q : VK} {us : List Value} {vs : List V} (M : Mk X.K C f) (F : FnG X.prog X.w X.K X.mg X.base CX k f fd ps sp) (hr : RoomG (k + 1) X.A) (hb : Binds X.K fd ps [])
    (hx : PassesAt CX X σ (E σ)) (I : Inv X pins σ H s) (r : Vals vs us)
    (h : ∀ x dx, H x = none → H dx = none → dx ≠ x → sp (.ref x :: vs) (upd (upd H dx (.own x)) x (.ins C dx [])) (fun v H2 => v = .non ∧ Q (.ref x) H2) (E σ)) :
    wpAny (model X.prog X.w) X.A (call (.ref C) us) (EP X pins σ Q) X.xe s := by
  have hq := h (s.heap.objs.size + 1) s.heap.objs.size (I.hok.fresh (Nat.le_succ _)) (I.hok.fresh (Nat.le_refl _)) (Nat.ne_of_lt (Nat.lt_succ_self _))
  have I2 := Inv.made (C := C) I
  have r2 : Vals (V.ref (s.heap.objs.size + 1) :: vs) (Value.ref (s.heap.objs.size + 1) :: us) := .cons rfl r
  have hl : (Value.ref (s.heap.objs.size + 1) :: us).length = ps.length := by
    have e := r2.length
    rw [F.len _ _ _ _ hq] at e
    exact e.symm
  have b := hb _ (Value.ref (s.heap.objs.size + 1) :: us) I2.kIn (by rw [List.append_nil]; exact hl)
  rw [List.append_nil] at b
  refine wpAny_call (make_map (f := f) I.kIn M.makes M.init (beq_iff_eq.mp M.fn) (codeAny_mono (F.run _ X.stack _ _ ⟨Value.ref (s.heap.objs.size + 1) :: us, []⟩ (Value.ref (s.heap.objs.size + 1) :: us) _ _ (E σ) (hr.make C us [])
    (I2.env0.make C us []) b r2 hq) fun r s' hq' => ?_))
  cases r with
  | error e => exact hx pins _ _ e s' I2 hq'
  | ok fl =>
    cases fl with
    | ret u =>
      obtain ⟨v, H', I3, rv, ev, q3⟩ := I2.after hq'
      subst ev
      exact ⟨rv, ⟨V.ref (s.heap.objs.size + 1), H', I3, rfl, q3⟩⟩
    | next => exact False.elim hq'
    | brk => exact False.elim hq'
    | cont => exact False.elim hq'
/-- C(e, ..) that may raise -/
def tMakeS (C : Addr) (sp : Sp) (E : L2.St → XK) (t : TA) : TE := fun σ H Q => t σ H fun vs H1 => ∀ x dx, H1 x = none → H1 dx = none → dx ≠ x → sp (.ref x :: vs) (upd (upd H1 dx (.own x)) x (.ins C dx [])) (fun v H2 => v = .non ∧ Q (.ref x) H2) (E σ)
theorem pe_makeS (M : Mk X.K C f) (F : FnG X.prog X.w X.K X.mg X.base CX k f fd ps sp) (hr : RoomG (k + 1) X.A) (hg : Gl X x) (hm : X.mg x = some (.ref C)) (hb : Binds X.K fd ps []) (hx : ∀ σ, PassesAt CX X σ (E σ))
    (ha : PA X (e :: es) t) (hdb : (x == ("__debug__" : Str)) = false) (he : starEach (e :: es) X.env = (false, eval e X.env) :: starEach es X.env) (hpl : (backTo pos (starEach es X.env)).any (·.1) = false) :
    PE X (.Call (.Name x p) (e :: es) [] pos) (tMakeS C sp E t) := by
  refine ⟨fun pins s σ H Q I h => ?_⟩
  refine wpAny_Call_Name_kw (ld_glob I hg hm ?_ hdb)
  refine PySem.W.callWith_K (h₀ := X.base) I.ok.mod.kin M.kp (thn (ha.run pos pins s σ H _ I h) fun us s1 hh => ?_) he hpl
  obtain ⟨vs, H1, I1, r, q⟩ := hh
  exact ⟨I1.kIn, run_makeS M F hr hb (hx σ) I1 r q⟩
theorem pe_makeS0 (M : Mk X.K C f) (F : FnG X.prog X.w X.K X.mg X.base CX k f fd ps sp) (hr : RoomG (k + 1) X.A) (hg : Gl X x) (hm : X.mg x = some (.ref C)) (hb : Binds X.K fd ps []) (hx : ∀ σ, PassesAt CX X σ (E σ))
    (hdb : (x == ("__debug__" : Str)) = false) : PE X (.Call (.Name x p) [] [] pos) (tMakeS C sp E tNil) := by
  refine ⟨fun pins s σ H Q I h => ?_⟩
  refine wpAny_Call_Name_kw (ld_glob I hg hm ?_ hdb)
  exact PySem.W.callWith_K0 I.kIn M.kp (run_makeS (us := []) (vs := []) M F hr hb (hx σ) I .nil h)
abbrev SpMk (C : Addr) (sp : Sp) (w : Env1) (t : TA) : TE := tMakeS C sp (fun σ c d H' => w.W c d σ H') t
theorem rule_mk (tk : Takes X w.W) (M : Mk X.K C f) (F : FnG X.prog X.w X.K X.mg X.base (L2.CX X.prog X.w) k f fd ps sp) (hr : RoomG (k + 1) X.A) (hm : X.mg x = some (.ref C)) (hb : Binds X.K fd ps []) (hg : Gl X x := by rfl) (hdb : (x == ("__debug__" : Str)) = false := by decide)
    (he : starEach (e :: es) X.env = (false, eval e X.env) :: starEach es X.env := by rfl) (hpl : (backTo pos (starEach es X.env)).any (·.1) = false := by rfl) :
    ∀ σ H (Q : VK), SpMk C sp w (SA X (e :: es)) σ H Q → SE X (.Call (.Name x p) (e :: es) [] pos) σ H Q := fun σ H Q h =>
  SE.of (pe_makeS (E := fun σ c d H' => w.W c d σ H') M F hr hg hm hb (fun σ => passAt tk σ) pa_sa hdb he hpl) h
theorem rule_mk0 (tk : Takes X w.W) (M : Mk X.K C f) (F : FnG X.prog X.w X.K X.mg X.base (L2.CX X.prog X.w) k f fd ps sp) (hr : RoomG (k + 1) X.A) (hm : X.mg x = some (.ref C)) (hb : Binds X.K fd ps []) (hg : Gl X x := by rfl) (hdb : (x == ("__debug__" : Str)) = false := by decide) :
    ∀ σ H (Q : VK), SpMk C sp w tNil σ H Q → SE X (.Call (.Name x p) [] [] pos) σ H Q := fun σ H Q h =>
  SE.of (pe_makeS0 (E := fun σ c d H' => w.W c d σ H') M F hr hg hm hb (fun σ => passAt tk σ) hdb) h
end
end L3
namespace L3
open PySem PySem.Spec PyProof.Rows L2
section
variable {K : PySem.W.Frag} {G : Hp}
def putUF (f : Str) (v : U) : List (Str × U) → List (Str × U)
  | [] => [(f, v)]
  | (g, u) :: r => if g = f then (g, v) :: r else (g, u) :: putUF f v r
theorem fs_look {f : Str} : ∀ {fvs : List (Str × V)} {fs : List (Str × U)}, DqFs K G fvs fs → ∀ {d : U}, fs.lookup f = some d → ∃ v, fvs.lookup f = some v ∧ Dq K G v d
  | _, [], h, d, e => by cases e
  | _, (g, u) :: r, h, d, e => by
    cases h with
    | cons h1 h2 =>
      rw [List.lookup_cons] at e ⊢
      cases hg : f == g with
      | true => rw [hg] at e; cases e; exact ⟨_, rfl, h1⟩
      | false => rw [hg] at e; exact fs_look h2 e
theorem fs_no {f : Str} : ∀ {fvs : List (Str × V)} {fs : List (Str × U)}, DqFs K G fvs fs → fs.lookup f = none → fvs.lookup f = none
  | _, [], h, e => by cases h; rfl
  | _, (g, u) :: r, h, e => by
    cases h with
    | cons h1 h2 =>
      rw [List.lookup_cons] at e ⊢
      cases hg : f == g with
      | true => rw [hg] at e; cases e
      | false => rw [hg] at e; exact fs_no h2 e
/-- the attribute f of a thing of class cn -/
def uFld (cn f : Str) : U → Option U
  | .ins n fs => if n = cn then fs.lookup f else none
  | _ => none
end
section
variable {S T β γ : Type} {X : Cx} {w : Env1} {M : Addr → Prop} {Γ : S → Gam} {Γu : U → Gam} {e a b c o : Expr} {es : List Expr} {pos p ps p2 : Pos} {x y f cn : Str}
def FldR (K : PySem.W.Frag) (f : Str) : V → Hp → VK → Prop := fun x H1 Q => ∃ a C dx fs v, x = V.ref a ∧ H1 a = some (.ins C dx fs) ∧ Cls K C ∧ NoAttr K C f ∧ fs.lookup f = some v ∧ Q v H1
theorem pr_fld {K : PySem.W.Frag} (hc : Cls K (clsAt K cn)) (hn : NoAttr K (clsAt K cn) f) : Pr K (dU K) (r1l (FldR K f)) (a1 (uFld cn f)) := pr1 fun u d e G H v Q ex b q => by
  unfold uFld at e
  split at e
  · rename_i n fs
    split at e
    · rename_i hcn
      subst hcn
      rcases b with h | ⟨l, ob, rfl, h2, h3⟩
      · cases h with
        | ins hs ha =>
          obtain ⟨v, e1, e2⟩ := fs_look ha e
          exact ⟨_, _, _, _, v, rfl, ex _ _ hs, hc, hn, e1, q v G H (Grow.refl ex) e2⟩
      · cases ob <;> first | exact h3.elim | skip
        obtain ⟨rfl, h3⟩ := h3
        obtain ⟨v, e1, e2⟩ := fs_look h3 e
        exact ⟨_, _, _, _, v, rfl, h2, hc, hn, e1, q v G H (Grow.refl ex) e2⟩
    · cases e
  · cases e
end
end L3
namespace L3
open PySem PySem.Spec PyProof.Rows L2
end L3
namespace L3
open PySem PySem.Spec PyProof.Rows L2
section
variable {S β : Type} {X : Cx} {w : Env1} {M : Addr → Prop} {Γ : S → Gam} {i gi : Nat} {xc n g : Str} {c : Value} {be se : Expr} {np gp bp ap pos' pos : Pos} {m : StM S β} {R : β → Sl} {tbl : List (Str × Bool)} {g0 : U}
theorem At.self {M : Addr → Prop} {G0 H0 G H : Hp} {Γ : Gam} {σ : L2.St} (a : At M G0 H0 Γ G H σ) : At (OwnA Γ σ) G H Γ G H σ := by
  refine ⟨a.len, a.sub, Post.refl, fun l h => OwnA.ne a h, fun i s e => ?_, a.dist⟩
  have z := a.slot i s e
  cases s with
  | un => trivial
  | im p => exact z
  | ow ad q =>
    obtain ⟨l, o, e1, e2, e3, e4, _, e6⟩ := z
    exact ⟨l, o, e1, e2, e3, e4, .inl ⟨i, ad, q, e, e1⟩, e6⟩
  | bo b =>
    obtain ⟨v, e1, e2⟩ := z
    refine ⟨v, e1, fun H' k => e2 H' fun x o hx hm => ?_⟩
    refine k x o (a.post.2 x o hx hm).1 fun ⟨j, ad, q, f1, f2⟩ => ?_
    obtain ⟨l, o2, g1, _, _, _, g5, _⟩ := a.slot j _ f1
    rw [f2] at g1
    cases g1
    rcases g5 with g5 | g5
    · exact hm g5
    · rw [hx] at g5; cases g5
end
end L3
namespace L3
open PySem PySem.Spec PyProof.Rows L2
end L3
namespace L3
open PySem PySem.Spec PyProof.Rows L2
def tupNe : PyData → Bool
  | .tuple (_ :: _) => true
  | _ => false
def plainKey : PyData → Bool
  | .tuple _ => false
  | .none => false
  | _ => true
def sortOk (ds : List U) : Bool := ds.all (fun d => noDct d && decide (d.py.depth ≤ 60)) && ds.all (fun d => ds.all fun e => PySem.W.alike d.py e.py) && (ds.all (fun d => tupNe d.py) || ds.all fun d => plainKey d.py)
def sortU (ds : List U) : List U := ds.mergeSort (PySem.W.dataLe false U.py)
def uSorted : U → Option U
  | .list ds => if sortOk ds = true then some (.list (sortU ds)) else none
  | .tuple ds => if sortOk ds = true then some (.list (sortU ds)) else none
  | _ => none
def rSortU (K : PySem.W.Frag) : List V → Hp → VK → Prop := fun vs H Q => ∃ (a : Addr) (xs : List V) (ds : List U), vs = [V.ref a] ∧ (SqL K H a xs ∨ SqT K H a xs) ∧ DqAll K H xs ds ∧ sortOk ds = true ∧
  ∃ Rr : V → U → Prop, PySem.W.EachIs Rr xs ds ∧ ∀ ys l, PySem.W.EachIs Rr ys (sortU ds) → H l = none → Q (.ref l) (upd H l (.lst ys))
section
variable {X : Cx} {K : PySem.W.Frag}
theorem each_vals {Rr : V → U → Prop} : ∀ {xs : List V} {ds : List U} {us : List Value}, PySem.W.EachIs Rr xs ds → Vals xs us → PySem.W.EachIs (fun v b => ∃ x, RelV x v ∧ Rr x b) us ds
  | _, _, _, .nil, r => by cases r; exact .nil
  | _, _, _, .cons h t, r => by cases r with | cons r1 r2 => exact .cons ⟨_, r1, h⟩ (each_vals t r2)
theorem vals_each {Rr : V → U → Prop} : ∀ {us : List Value} {ds : List U}, PySem.W.EachIs (fun v b => ∃ x, RelV x v ∧ Rr x b) us ds → ∃ ys, Vals ys us ∧ PySem.W.EachIs Rr ys ds
  | _, _, .nil => ⟨[], .nil, .nil⟩
  | _, _, .cons ⟨x, r, h⟩ t => by
    obtain ⟨ys, a, b⟩ := vals_each t
    exact ⟨x :: ys, .cons r a, .cons h b⟩
theorem each_reads {pins : List (Addr × Obj)} {σ : L2.St} {H : Hp} {s : Shared} (I : Inv X pins σ H s) : ∀ {xs : List V} {ds : List U} {us : List Value}, DqAll X.K H xs ds → (∀ d ∈ ds, noDct d = true) → Vals xs us → PySem.W.EachIs (fun v b => ∃ as, Reads s.heap v (U.py b) as) us ds
  | _, [], _, h, _, r => by cases h; cases r; exact .nil
  | _, d :: ds, _, h, c, r => by
    cases h with
    | cons h1 h2 =>
      cases r with
      | cons r1 r2 => exact .cons (Dp.reads I _ _ _ (dq_dp _ _ (c d List.mem_cons_self) h1).1 r1) (each_reads I h2 (fun z hz => c z (List.mem_cons_of_mem _ hz)) r2)
/-- the items of a tuple, collected: the heap as it is then -/
theorem collect_tup {P : Program} {wd : World} {A : Around} {E : Value → Shared → Prop} {s : Shared} {Q : List Value → Shared → Prop} {t : Addr} {o : Obj} {vs : Array Value} {n : Nat} (ho : s.heap.get? t = some o) (hc : o.cls = .type "tuple") (hd : o.data = .seq vs n) (hz : vs.size ≤ sizeLine)
    (hQ : ∀ h', (∀ b u, s.heap.get? b = some u → h'.get? b = some u) → s.heap.objs.size ≤ h'.objs.size → Q vs.toList { s with heap := h' }) : wpAny (model P wd) A (collect (.ref t)) Q E s := by
  unfold collect
  refine wpAny_bind (wpAny_runValue (codeAny_builtin PySem.F.entry_proto_collect ?_)); rw [Around.under_plainId PySem.F.plain_proto_collect _]
  show wpAny _ A.in1 (newList [] >>= fun l => again (.builtin "list.__iadd__" ⟨[l, .ref t], []⟩)) _ _ s
  refine wpAny_bind (wpAny_newObj_type ?_); refine wpAny_pure ⟨plainId_quiet PySem.F.plain_list_iadd _, codeAny_builtin PySem.F.entry_list_iadd ?_⟩; rw [Around.under_plainId PySem.F.plain_list_iadd _]
  show wpAny _ A.in1 (Builtin.List.listExtendWith (.ref s.heap.objs.size) (.ref t) (.ref s.heap.objs.size)) _ _ _
  have n1 : (s.heap.push { cls := .type "list", data := .seq ([] : List Value).toArray }).get? s.heap.objs.size = some { cls := .type "list", data := .seq #[] 0 } := Heap.get?_push_size _ rfl
  have n2 := Heap.get?_update_self (Obj.mapSeq (· ++ vs)) n1 rfl
  have last : wpAny (model P wd) A (match Value.ref s.heap.objs.size with
      | Value.ref a => do
        match (← load a).data with
          | Data.seq xs _ => pure xs.toList
          | _ => unsupported "internal:collect"
      | _ => unsupported "internal:collect") Q E { s with heap := (s.heap.push { cls := .type "list", data := .seq ([] : List Value).toArray }).update s.heap.objs.size (Obj.mapSeq (· ++ vs)) } := by
    show wpAny _ A (load s.heap.objs.size >>= _) _ _ _
    refine wpAny_bind (wpAny_load n2 (wpAny_pure ?_))
    show Q ((#[] : Array Value) ++ vs).toList _
    rw [show ((#[] : Array Value) ++ vs).toList = vs.toList by simp]
    refine hQ _ (fun b u hb => (Heap.get?_update_other _ _ (Nat.ne_of_gt (Heap.lt_size hb))).trans (Heap.get?_push_of_some _ hb)) ?_
    rw [Heap.size_update, size_push']
    exact Nat.le_succ _
  refine wpAny_mono (wpAny_extend_seq (hsz := hz) (A := A) (R := fun r s' => r = .ok (.ret (.ref s.heap.objs.size)) ∧ s' = { s with heap := (s.heap.push { cls := .type "list", data := .seq ([] : List Value).toArray }).update s.heap.objs.size (Obj.mapSeq (· ++ vs)) })
    (s := { s with heap := s.heap.push { cls := .type "list", data := .seq ([] : List Value).toArray } }) _ t _ 0 (.inr rfl) n1 (Heap.get?_push_of_some _ ho) hc hd ⟨rfl, rfl⟩) (fun fin s' h => ?_) (fun e s' h => absurd h.1 (by simp))
  cases fin with
  | done f => obtain ⟨e, rfl⟩ := h; cases e; exact last
  | again c' => exact ⟨h.1, codeAny_mono h.2 fun r s'' hr => by obtain ⟨rfl, rfl⟩ := hr; exact last⟩
/-- a tuple, sorted: a new list -/
theorem sorted_tup {P : Program} {wd : World} {A : Around} {E : Value → Shared → Prop} {s : Shared} {β : Type} {R : Value → β → Prop} {enc : β → PyData} {bs : List β} {t : Addr} {vs : List Value} {o : Obj} {n : Nat} {Q : Value → Shared → Prop}
    (ho : s.heap.get? t = some o) (hc : o.cls = .type "tuple") (hd : o.data = .seq vs.toArray n) (e : PySem.W.EachIs R vs bs) (er : PySem.W.EachIs (fun v b => ∃ as, Reads s.heap v (enc b) as) vs bs) (hal : PySem.W.AllAlike (bs.map enc)) (hk : PySem.W.Sortable (bs.map enc)) (hL : bs.length ≤ sizeLine)
    (hu : ∀ b, b ∈ bs → A.units + 2 + (enc b).depth < cLine)
    (h : ∀ (h' : Heap) (p : Addr) (out : List Value) (c : Nat), (∀ b u, s.heap.get? b = some u → h'.get? b = some u) → s.heap.objs.size ≤ p → h'.get? p = some (seqObj "list" out.toArray c) → out.length = bs.length → PySem.W.EachIs R out (bs.mergeSort (PySem.W.dataLe false enc)) → Q (.ref p) { s with heap := h' }) :
    wpAny (model P wd) A (call (.builtin "sorted") [.ref t]) Q E s := by
  have hlen := e.length
  refine Calls.call_function_entry PyProof.Rows.kind_sorted PyProof.Rows.plain_sorted PyProof.Rows.entry_sorted (PyProof.Rows.args_sorted1 _) ?_
  unfold Builtin.«sorted»
  refine wpAny_bind (m := checkCount "sorted" 1 1 _) (wpAny_pure ?_)
  refine wpAny_bind (collect_tup ho hc hd (by simp only [List.size_toArray]; omega) fun h' kp hs => ?_)
  refine wpAny_bind (wpAny_newList ?_ (by simp only [List.toList_toArray]; omega))
  have hoL : (h'.push (seqObj "list" vs.toArray 0)).get? h'.objs.size = some (seqObj "list" vs.toArray 0) := Heap.get?_push_size _ rfl
  have kp2 : ∀ b u, s.heap.get? b = some u → (PySem.W.sortingHeap (h'.push (seqObj "list" vs.toArray 0)) h'.objs.size vs).get? b = some u := fun b u hb => by
    have h2 := Heap.lt_size (kp b u hb)
    exact PySem.W.sortingHeap_old (Nat.ne_of_lt h2) (Heap.get?_push_of_some _ (kp b u hb))
  have er' : PySem.W.EachIs (fun v b => ∃ as, Reads (PySem.W.sortingHeap (h'.push (seqObj "list" vs.toArray 0)) h'.objs.size vs) v (enc b) as) vs bs := er.mono fun _ _ ⟨as, r⟩ => ⟨as, PyProof.Rows.Reads.keeps kp2 r⟩
  obtain ⟨c, hcc⟩ := PyProof.Rows.sortedHeap_at (vs := vs) (out := (PySem.W.sortVals (PySem.W.dataKind (PySem.W.sortingHeap (h'.push (seqObj "list" vs.toArray 0)) h'.objs.size vs) (bs.map enc)) false vs vs).toArray) hoL
  refine wpAny_bind (wpAny_holding (wpAny_call_entry PyProof.Rows.slot_list_sort ⟨_, hoL, rfl⟩ PyProof.Rows.entry_list_sort
    (PySem.W.list_sort_vals (s := { s with heap := h'.push (seqObj "list" vs.toArray 0) }) hoL (PySem.W.SortsAt.data (s := { s with heap := PySem.W.sortingHeap (h'.push (seqObj "list" vs.toArray 0)) h'.objs.size vs }) (PySem.W.each_map (R := fun v d => ∃ as, Reads (PySem.W.sortingHeap (h'.push (seqObj "list" vs.toArray 0)) h'.objs.size vs) v d as) enc er') hal hk (PySem.W.bound_map hu)) (by omega) ⟨_, rfl, ?_⟩)
    (PyProof.Rows.args_list_sort _)))
  refine wpAny_pure ⟨_, rfl, ?_⟩
  exact h _ _ _ c (fun b u hb => by
    have h2 := Heap.lt_size (kp b u hb)
    rw [PyProof.Rows.sortedHeap_old (Nat.ne_of_lt h2) (by rw [size_push']; exact Nat.lt_succ_of_lt h2)]
    exact Heap.get?_push_of_some _ (kp b u hb)) hs hcc (by rw [PySem.W.sortVals_length false rfl]; exact hlen) (PySem.W.sortVals_data false e er' hal)
theorem call_sortU (hu : X.A.units + 65 < cLine) : CallR X (.builtin "sorted") (rSortU X.K) := by
  intro pins s σ H vs us Q I r h
  obtain ⟨a, xs, ds, rfl, hs, hd, hk, Rr, hR, q⟩ := h
  unfold sortOk at hk
  simp only [Bool.and_eq_true, Bool.or_eq_true, List.all_eq_true, decide_eq_true_eq] at hk
  obtain ⟨⟨k1, k2⟩, k3⟩ := hk
  have hlen : xs.length = ds.length := dpAll_len hd
  have al : PySem.W.AllAlike (ds.map U.py) := fun d h1 d' h2 => by
    obtain ⟨x, hx, rfl⟩ := List.mem_map.mp h1
    obtain ⟨y, hy, rfl⟩ := List.mem_map.mp h2
    exact k2 x hx y hy
  have so : PySem.W.Sortable (ds.map U.py) := by
    rcases k3 with k3 | k3
    · refine .inl fun d h1 => ?_
      obtain ⟨x, hx, rfl⟩ := List.mem_map.mp h1
      have z := k3 x hx
      unfold tupNe at z
      split at z
      · rename_i y r e; exact ⟨y, r, e⟩
      · cases z
    · refine .inr fun d h1 => ?_
      obtain ⟨x, hx, rfl⟩ := List.mem_map.mp h1
      have z := k3 x hx
      refine ⟨fun e => ?_, fun ys e => ?_⟩
      · rw [e] at z; cases z
      · rw [e] at z; cases z
  rcases hs with hs | hs
  rotate_left
  · obtain ⟨its, rv, ⟨o, ho, hc, nn, ho2⟩, hz⟩ := I.tuple hs
    rw [Vals.ref1 r]
    refine sorted_tup (R := fun v b => ∃ x, RelV x v ∧ Rr x b) (enc := U.py) (bs := ds) ho hc ho2 (each_vals hR rv) (each_reads I hd (fun d hd => (k1 d hd).1) rv) al so (by omega) (fun b hb => by have := (k1 b hb).2; omega) fun h' p out c kp hp he ho eo => ?_
    obtain ⟨ys, v1, e1⟩ := vals_each eo
    have hly : ys.length = out.length := v1.length
    exact ⟨.ref _, upd H p (.lst ys), I.laid (t' := s.toks) kp hp ⟨by omega, out, c, v1, he⟩, rfl, q ys _ e1 (I.hok.fresh hp)⟩
  obtain ⟨its, rv, hl, hz⟩ := I.list hs
  rw [Vals.ref1 r]
  refine PySem.W.sorted_data (R := fun v b => ∃ x, RelV x v ∧ Rr x b) (enc := U.py) (bs := ds) hl.isList (each_vals hR rv) (each_reads I hd (fun d hd => (k1 d hd).1) rv) al so (by omega) (fun b hb => by have := (k1 b hb).2; omega) fun out ho eo => ?_
  · obtain ⟨ys, v1, e1⟩ := vals_each eo
    obtain ⟨ep, he'⟩ := PyProof.Rows.sortedAll_at s.heap its out.toArray
    have hly : ys.length = out.length := v1.length
    exact ⟨.ref _, upd H (s.heap.objs.size + 1) (.lst ys), I.laid (t' := s.toks) (fun _ _ => PyProof.Rows.sortedAll_old) (Nat.le_succ _) ⟨by omega, out, ep, v1, he'⟩, rfl, q ys _ e1 (I.hok.fresh (Nat.le_succ _))⟩
theorem each_dq {G : Hp} : ∀ {vs : List V} {ds : List U}, DqAll K G vs ds → PySem.W.EachIs (fun v d => Dq K G v d) vs ds
  | _, [], h => by cases h; exact .nil
  | _, _ :: _, h => by cases h with | cons h1 h2 => exact .cons h1 (each_dq h2)
theorem dq_each {G : Hp} : ∀ {vs : List V} {ds : List U}, PySem.W.EachIs (fun v d => Dq K G v d) vs ds → DqAll K G vs ds
  | _, _, .nil => .nil
  | _, _, .cons h t => .cons h (dq_each t)
theorem pr_sorted : Pr K (oU K) (rSortU K) (a1 uSorted) := pr1 fun u d e G H v Q ex b q => by
  unfold uSorted at e
  split at e
  · split at e
    · rename_i ds hk
      cases e
      obtain ⟨a, vs, rfl, h3, h2⟩ := bow_ls ex b
      exact ⟨a, vs, ds, rfl, .inl h3, dpAll_ex ex _ _ h2, hk, fun v d => Dq K G v d, each_dq h2, fun ys l hy hl => oNew (H0 := H) ex hl (dq_each hy) q⟩
    · cases e
  · split at e
    · rename_i ds hk
      cases e
      obtain ⟨a, vs, rfl, h3, h2⟩ := bow_tp ex b
      exact ⟨a, vs, ds, rfl, .inr h3, dpAll_ex ex _ _ h2, hk, fun v d => Dq K G v d, each_dq h2, fun ys l hy hl => oNew (H0 := H) ex hl (dq_each hy) q⟩
    · cases e
  · cases e
end
end L3
namespace L3
open PySem PySem.Spec PyProof.Rows L2
end L3
namespace V4
open PySem PySem.Spec PyProof.Rows L2 L3
inductive Mk where
  /-- nothing known | frozen -/
  | n | f
  /-- an own list | dict | tuple of two | instance of the class named c -/
  | l (m : Mk) | d (m : Mk) | t (a b : Mk) | i (c : Str)
  /-- an own tuple of like parts -/
  | w (m : Mk)
  /-- such a one, or None, a truth, a number, a text -/
  | q (m : Mk)
  /-- such a one, or a frozen thing that is no list -/
  | p (m : Mk)
  /-- an own dict by tuples, locked: its keys are frozen, and so is what stands by them -/
  | e
  deriving DecidableEq
abbrev FMap := Str → Str → Mk
abbrev Fp := Addr → Prop
abbrev Kid := Mk × V × U
inductive KL (m : Mk) : List V → List U → List Kid → Prop
  | nil : KL m [] [] []
  | cons {v : V} {u : U} {vs : List V} {us : List U} {ks : List Kid} : KL m vs us ks → KL m (v :: vs) (u :: us) ((m, v, u) :: ks)
inductive KD {κ : Type} (m : Mk) : List (κ × V) → List (κ × U) → List Kid → Prop
  | nil : KD m [] [] []
  | cons {k : κ} {v : V} {u : U} {vs : List (κ × V)} {us : List (κ × U)} {ks : List Kid} : KD m vs us ks → KD m ((k, v) :: vs) ((k, u) :: us) ((m, v, u) :: ks)
inductive KF (fm : Str → Mk) : List (Str × V) → List (Str × U) → List Kid → Prop
  | nil : KF fm [] [] []
  | cons {k : Str} {v : V} {u : U} {vs : List (Str × V)} {us : List (Str × U)} {ks : List Kid} : KF fm vs us ks → KF fm ((k, v) :: vs) ((k, u) :: us) ((fm k, v, u) :: ks)
/-- a key as data -/
def keyE : Key → U
  | .inl i => .int i
  | .inr x => .str x
/-- what stands in a dict by tuples, with the tuples that are its keys -/
inductive KE : List (List Key × V) → List (List Key × U) → List Addr → List Kid → Prop
  | nil : KE [] [] [] []
  | cons {k : List Key} {v : V} {u : U} {b : Addr} {vs : List (List Key × V)} {us : List (List Key × U)} {bs : List Addr} {ks : List Kid} : KE vs us bs ks → KE ((k, v) :: vs) ((k, u) :: us) (b :: bs) ((.f, .ref b, .tuple (k.map keyE)) :: (.f, v, u) :: ks)
/-- the keys that stand in an object -/
def RawKeys (o : Obj) (bs : List Addr) : Prop := ∃ es ep, o.data = .dict es ep ∧ es.toList.map (·.key) = bs.map Value.ref
inductive Kids (K : PySem.W.Frag) (FM : FMap) : Mk → HO → U → List Kid → Prop
  | l {m : Mk} {vs : List V} {us : List U} {ks : List Kid} : KL m vs us ks → Kids K FM (.l m) (.lst vs) (.list us) ks
  | d {m : Mk} {vs : List (Key × V)} {us : List (Key × U)} {ks : List Kid} : KD m vs us ks → Kids K FM (.d m) (.dK vs) (.dict us) ks
  | dt {m : Mk} {vs : List (List Key × V)} {us : List (List Key × U)} {ks : List Kid} : KD m vs us ks → Kids K FM (.d m) (.dT vs) (.dictT us) ks
  | t {a b : Mk} {v w : V} {x y : U} : Kids K FM (.t a b) (.tup [v, w]) (.tuple [x, y]) [(a, v, x), (b, w, y)]
  | w {m : Mk} {vs : List V} {us : List U} {ks : List Kid} : KL m vs us ks → Kids K FM (.w m) (.tup vs) (.tuple us) ks
  | i {c : Str} {dx : Addr} {vs : List (Str × V)} {us : List (Str × U)} {ks : List Kid} : KF (FM c) vs us ks → Kids K FM (.i c) (.ins (clsAt K c) dx vs) (.ins c us) ks
  | ek {o : Obj} {vs : List (List Key × V)} {us : List (List Key × U)} {bs : List Addr} {ks : List Kid} : KE vs us bs ks → RawKeys o bs → Kids K FM .e (.frz o (.dT vs)) (.dictT us) ks
def lstU0 : U → Bool
  | .list _ => true
  | _ => false
section
variable (K : PySem.W.Frag) (FM : FMap) (G H : Hp)
mutual
inductive Own : Mk → V → U → Fp → Prop
  | f {v : V} {u : U} {A : Fp} : Dq K G v u → (∀ a, ¬ A a) → Own .f v u A
  | o {m : Mk} {l : Addr} {ob : HO} {u : U} {ks : List Kid} {A B : Fp} : H l = some ob → Kids K FM m ob u ks → OwnAll ks B → ¬ B l → (∀ a, A a ↔ a = l ∨ B a) → Own m (.ref l) u A
  | q0 {m : Mk} {v : V} {u : U} {A : Fp} : Dq K G v u → flatU u = true → (∀ a, ¬ A a) → Own (.q m) v u A
  | q1 {m : Mk} {v : V} {u : U} {A : Fp} : Own m v u A → Own (.q m) v u A
  | p0 {m : Mk} {v : V} {u : U} {A : Fp} : Dq K G v u → lstU0 u = false → (∀ a, ¬ A a) → Own (.p m) v u A
  | p1 {m : Mk} {v : V} {u : U} {A : Fp} : Own m v u A → Own (.p m) v u A
inductive OwnAll : List Kid → Fp → Prop
  | nil {A : Fp} : (∀ a, ¬ A a) → OwnAll [] A
  | cons {m : Mk} {v : V} {u : U} {ks : List Kid} {A B C : Fp} : Own m v u A → OwnAll ks B → (∀ a, A a → ¬ B a) → (∀ a, C a ↔ A a ∨ B a) → OwnAll ((m, v, u) :: ks) C
end
end
section
variable {K : PySem.W.Frag} {FM : FMap} {G H G' H' : Hp}
theorem Own.fp {m : Mk} {v : V} {u : U} {A A' : Fp} (h : Own K FM G H m v u A) (e : ∀ a, A' a ↔ A a) : Own K FM G H m v u A' := by
  have : A' = A := funext fun a => propext (e a)
  subst this; exact h
theorem OwnAll.fp {ks : List Kid} {A A' : Fp} (h : OwnAll K FM G H ks A) (e : ∀ a, A' a ↔ A a) : OwnAll K FM G H ks A' := by
  cases h with
  | nil hn => exact .nil fun a z => hn a ((e a).mp z)
  | cons h1 h2 h3 h4 => exact .cons h1 h2 h3 fun a => (e a).trans (h4 a)
mutual
theorem Own.frame (ex : Ex G G') : ∀ {m : Mk} {v : V} {u : U} {A : Fp}, Own K FM G H m v u A → (∀ a o, A a → H a = some o → H' a = some o) → Own K FM G' H' m v u A
  | _, _, _, _, .f hd hn, _ => .f (dp_ex ex _ _ hd) hn
  | _, _, _, _, .o h1 h2 h3 h4 h5, k => .o (k _ _ ((h5 _).mpr (.inl rfl)) h1) h2 (OwnAll.frame ex h3 fun a o z => k a o ((h5 a).mpr (.inr z))) h4 h5
  | _, _, _, _, .q0 hd ha hn, _ => .q0 (dp_ex ex _ _ hd) ha hn
  | _, _, _, _, .q1 h, k => .q1 (Own.frame ex h k)
  | _, _, _, _, .p0 hd ha hn, _ => .p0 (dp_ex ex _ _ hd) ha hn
  | _, _, _, _, .p1 h, k => .p1 (Own.frame ex h k)
theorem OwnAll.frame (ex : Ex G G') : ∀ {ks : List Kid} {A : Fp}, OwnAll K FM G H ks A → (∀ a o, A a → H a = some o → H' a = some o) → OwnAll K FM G' H' ks A
  | _, _, .nil hn, _ => .nil hn
  | _, _, .cons h1 h2 h3 h4, k => .cons (Own.frame ex h1 fun a o z => k a o ((h4 a).mpr (.inl z))) (OwnAll.frame ex h2 fun a o z => k a o ((h4 a).mpr (.inr z))) h3 h4
end
mutual
theorem Own.live : ∀ {m : Mk} {v : V} {u : U} {A : Fp}, Own K FM G H m v u A → ∀ a, A a → ∃ o, H a = some o
  | _, _, _, _, .f hd hn, a, z => (hn a z).elim
  | _, _, _, _, .o h1 h2 h3 h4 h5, a, z => by
    rcases (h5 a).mp z with e | z
    · exact ⟨_, e ▸ h1⟩
    · exact OwnAll.live h3 a z
  | _, _, _, _, .q0 hd ha hn, a, z => (hn a z).elim
  | _, _, _, _, .q1 h, a, z => Own.live h a z
  | _, _, _, _, .p0 hd ha hn, a, z => (hn a z).elim
  | _, _, _, _, .p1 h, a, z => Own.live h a z
theorem OwnAll.live : ∀ {ks : List Kid} {A : Fp}, OwnAll K FM G H ks A → ∀ a, A a → ∃ o, H a = some o
  | _, _, .nil hn, a, z => (hn a z).elim
  | _, _, .cons h1 h2 h3 h4, a, z => by
    rcases (h4 a).mp z with z | z
    · exact Own.live h1 a z
    · exact OwnAll.live h2 a z
end
/-- children that are all frozen data in a heap -/
def DqKids (K : PySem.W.Frag) (G : Hp) (ks : List Kid) : Prop := ∀ k ∈ ks, Dq K G k.2.1 k.2.2
theorem KL.dq {m : Mk} : ∀ {vs : List V} {us : List U} {ks : List Kid}, KL m vs us ks → DqKids K G ks → DqAll K G vs us
  | _, _, _, .nil, _ => .nil
  | _, _, _, .cons h, d => .cons (d _ List.mem_cons_self) (KL.dq h fun k hk => d k (List.mem_cons_of_mem _ hk))
theorem KD.dqK {m : Mk} : ∀ {vs : List (Key × V)} {us : List (Key × U)} {ks : List Kid}, KD m vs us ks → DqKids K G ks → DqKvs K G vs us
  | _, _, _, .nil, _ => .nil
  | _, _, _, .cons h, d => .cons (d _ List.mem_cons_self) (KD.dqK h fun k hk => d k (List.mem_cons_of_mem _ hk))
theorem KD.dqT {m : Mk} : ∀ {vs : List (List Key × V)} {us : List (List Key × U)} {ks : List Kid}, KD m vs us ks → DqKids K G ks → DqKts K G vs us
  | _, _, _, .nil, _ => .nil
  | _, _, _, .cons h, d => .cons (d _ List.mem_cons_self) (KD.dqT h fun k hk => d k (List.mem_cons_of_mem _ hk))
theorem KE.dqT : ∀ {vs : List (List Key × V)} {us : List (List Key × U)} {bs : List Addr} {ks : List Kid}, KE vs us bs ks → DqKids K G ks → DqKts K G vs us
  | _, _, _, _, .nil, _ => .nil
  | _, _, _, _, .cons h, d => .cons (d _ (List.mem_cons_of_mem _ List.mem_cons_self)) (KE.dqT h fun k hk => d k (List.mem_cons_of_mem _ (List.mem_cons_of_mem _ hk)))
theorem KF.dq {fm : Str → Mk} : ∀ {vs : List (Str × V)} {us : List (Str × U)} {ks : List Kid}, KF fm vs us ks → DqKids K G ks → DqFs K G vs us
  | _, _, _, .nil, _ => .nil
  | _, _, _, .cons h, d => .cons (d _ List.mem_cons_self) (KF.dq h fun k hk => d k (List.mem_cons_of_mem _ hk))
theorem Kids.dq {m : Mk} {l : Addr} {ob : HO} {u : U} {ks : List Kid} (h : Kids K FM m ob u ks) (hl : G l = some ob) (d : DqKids K G ks) : Dq K G (.ref l) u := by
  cases h with
  | l k => exact .lst (.inl (.inl hl)) (k.dq d)
  | d k => exact .dct (.inl hl) (k.dqK d)
  | dt k => exact .dctT (.inl hl) (k.dqT d)
  | t => exact .tup hl (.cons (d _ List.mem_cons_self) (.cons (d _ (List.mem_cons_of_mem _ List.mem_cons_self)) .nil))
  | w k => exact .tup hl (k.dq d)
  | i k => exact .ins hl (k.dq d)
  | ek k => exact .dctT (.inr ⟨_, hl⟩) (k.dqT d)
mutual
theorem Own.view {T : Hp} (ex : Ex G T) : ∀ {m : Mk} {v : V} {u : U} {A : Fp}, Own K FM G H m v u A → (∀ a o, A a → H a = some o → T a = some o) → Dq K T v u
  | _, _, _, _, .f hd hn, _ => dp_ex ex _ _ hd
  | _, _, _, _, .o h1 h2 h3 h4 h5, k => h2.dq (k _ _ ((h5 _).mpr (.inl rfl)) h1) (OwnAll.view ex h3 fun a o z => k a o ((h5 a).mpr (.inr z)))
  | _, _, _, _, .q0 hd _ _, _ => dp_ex ex _ _ hd
  | _, _, _, _, .q1 h, k => Own.view ex h k
  | _, _, _, _, .p0 hd _ _, _ => dp_ex ex _ _ hd
  | _, _, _, _, .p1 h, k => Own.view ex h k
theorem OwnAll.view {T : Hp} (ex : Ex G T) : ∀ {ks : List Kid} {A : Fp}, OwnAll K FM G H ks A → (∀ a o, A a → H a = some o → T a = some o) → DqKids K T ks
  | _, _, .nil hn, _ => fun k hk => by cases hk
  | _, _, .cons h1 h2 h3 h4, k => fun z hz => by
    rcases List.mem_cons.mp hz with e | e
    · subst e; exact Own.view ex h1 fun a o z => k a o ((h4 a).mpr (.inl z))
    · exact OwnAll.view ex h2 (fun a o z => k a o ((h4 a).mpr (.inr z))) z e
end
open Classical in
/-- the frozen heap with what stands at A -/
noncomputable def frz (G H : Hp) (A : Fp) : Hp := fun a => if A a then H a else G a
theorem frz_in {A : Fp} {a : Addr} (h : A a) : frz G H A a = H a := by unfold frz; rw [if_pos h]
theorem frz_out {A : Fp} {a : Addr} (h : ¬ A a) : frz G H A a = G a := by unfold frz; rw [if_neg h]
theorem frz_ex {A : Fp} (h : ∀ a, A a → G a = none) : Ex G (frz G H A) := fun a o e => by
  rw [frz_out fun z => by rw [h a z] at e; cases e]
  exact e
theorem Own.freeze {m : Mk} {v : V} {u : U} {A : Fp} (h : Own K FM G H m v u A) (hA : ∀ a, A a → G a = none) : Dq K (frz G H A) v u :=
  h.view (frz_ex hA) fun a o z e => by rw [frz_in z]; exact e
/-- an own list, dict of frozen things -/
def shal : Mk → Bool
  | .f => true
  | .l .f => true
  | .d .f => true
  | _ => false
theorem OwnAll.shal : ∀ {ks : List Kid} {A : Fp}, OwnAll K FM G H ks A → (∀ k ∈ ks, k.1 = .f) → DqKids K G ks ∧ ∀ a, ¬ A a
  | _, _, .nil hn, _ => ⟨fun k hk => (by cases hk), hn⟩
  | _, _, .cons (m := m) h1 h2 h3 h4, k => by
    obtain ⟨d, e⟩ := OwnAll.shal h2 fun z hz => k z (List.mem_cons_of_mem _ hz)
    have hm : m = .f := k _ List.mem_cons_self
    subst hm
    cases h1 with
    | f hd hn =>
      refine ⟨fun z hz => ?_, fun a z => ?_⟩
      · rcases List.mem_cons.mp hz with q | q
        · subst q; exact hd
        · exact d z q
      · rcases (h4 a).mp z with z | z
        · exact hn a z
        · exact e a z
    | o _ hk => cases hk
theorem KL.marks {m : Mk} : ∀ {vs : List V} {us : List U} {ks : List Kid}, KL m vs us ks → ∀ k ∈ ks, k.1 = m
  | _, _, _, .cons h, k, hk => by
    rcases List.mem_cons.mp hk with e | e
    · subst e; rfl
    · exact KL.marks h k e
theorem KD.marks {κ : Type} {m : Mk} : ∀ {vs : List (κ × V)} {us : List (κ × U)} {ks : List Kid}, KD m vs us ks → ∀ k ∈ ks, k.1 = m
  | _, _, _, .cons h, k, hk => by
    rcases List.mem_cons.mp hk with e | e
    · subst e; rfl
    · exact KD.marks h k e
/-- what can be read with its frozen parts -/
theorem Own.bow {m : Mk} {v : V} {u : U} {A : Fp} (h : Own K FM G H m v u A) (hm : V4.shal m = true) : (bowB K u).b G H v := by
  cases h with
  | f hd hn => exact .inl hd
  | q0 => exact nomatch hm
  | q1 => exact nomatch hm
  | p0 => exact nomatch hm
  | p1 => exact nomatch hm
  | o h1 h2 h3 h4 h5 =>
    cases h2 with
    | @l m vs us ks k =>
      cases m with
      | f => exact .inr ⟨_, _, rfl, h1, k.dq (h3.shal k.marks).1⟩
      | _ => exact nomatch hm
    | @d m vs us ks k =>
      cases m with
      | f => exact .inr ⟨_, _, rfl, h1, k.dqK (h3.shal k.marks).1⟩
      | _ => exact nomatch hm
    | @dt m vs us ks k =>
      cases m with
      | f => exact .inr ⟨_, _, rfl, h1, k.dqT (h3.shal k.marks).1⟩
      | _ => exact nomatch hm
    | t => exact nomatch hm
    | w k => exact nomatch hm
    | i k => exact nomatch hm
    | ek k => exact nomatch hm
end
end V4
namespace V4
open PySem PySem.Spec PyProof.Rows L2 L3
abbrev S := List U
abbrev Mo (β : Type) := StM S β
abbrev Foot := Nat → Fp
/-- what is fixed through a def's body: what may be changed of the heap at the entry, the entry's heaps, the slots whose thing stays -/
structure Bs where
  M : Fp
  G0 : Hp
  H0 : Hp
  pin : List (Nat × V)
section
variable (K : PySem.W.Frag) (FM : FMap)
structure At (B : Bs) (Γ : List Mk) (A : Foot) (G H : Hp) (σ : L2.St) (s : S) : Prop where
  len : σ.length = Γ.length
  lenU : s.length = Γ.length
  sub : Ex G H
  post : Post B.M B.G0 B.H0 G H
  slot : ∀ (i : Nat) (m : Mk), Γ[i]? = some m → m ≠ .n → ∃ v u, σ[i]? = some (some v) ∧ s[i]? = some u ∧ Own K FM G H m v u (A i)
  own : ∀ i a, A i a → G a = none ∧ (∃ o, H a = some o) ∧ (B.M a ∨ B.H0 a = none)
  dis : ∀ i j a, A i a → A j a → i = j
  pin : ∀ p ∈ B.pin, σ[p.1]? = some (some p.2)
  glk : ∀ a o, G a = some o → isDct o = false
end
/-- what has changed since: of the slots in md alone -/
structure Stp (md : List Nat) (A A' : Foot) (G H G' H' : Hp) (s s' : S) : Prop where
  ex : Ex G G'
  keep : ∀ a o, H a = some o → (∀ i ∈ md, ¬ A i a) → H' a = some o ∧ G' a = G a
  foot : ∀ i ∈ md, ∀ a, A' i a → (∃ j ∈ md, A j a) ∨ H a = none
  same : ∀ i, i ∉ md → A' i = A i ∧ s'[i]? = s[i]?
section
variable {K : PySem.W.Frag} {FM : FMap} {B : Bs} {Γ Γ' : List Mk} {A A' A2 : Foot} {G H G' H' G2 H2 : Hp} {σ : L2.St} {s s' s2 : S} {md md2 : List Nat}
theorem Stp.refl : Stp [] A A G H G H s s := ⟨Ex.refl _, fun a o h _ => ⟨h, rfl⟩, fun i h => (nomatch h), fun i _ => ⟨rfl, rfl⟩⟩
theorem Stp.mono (x : Stp md A A' G H G' H' s s') (a : ∀ i ∈ md, i ∈ md2) : Stp md2 A A' G H G' H' s s' where
  ex := x.ex
  keep := fun b o h k => x.keep b o h fun i hi => k i (a i hi)
  foot := fun i hi b h => by
    by_cases z : i ∈ md
    · rcases x.foot i z b h with ⟨j, hj, q⟩ | q
      · exact .inl ⟨j, a j hj, q⟩
      · exact .inr q
    · rw [(x.same i z).1] at h; exact .inl ⟨i, hi, h⟩
  same := fun i hi => x.same i fun z => hi (a i z)
theorem Stp.trans (x : Stp md A A' G H G' H' s s') (y : Stp md2 A' A2 G' H' G2 H2 s' s2) : Stp (md ++ md2) A A2 G H G2 H2 s s2 where
  ex := x.ex.trans y.ex
  keep := fun b o h k => by
    obtain ⟨h1, g1⟩ := x.keep b o h fun i hi => k i (List.mem_append_left _ hi)
    obtain ⟨h2, g2⟩ := y.keep b o h1 fun i hi z => by
      by_cases q : i ∈ md
      · rcases x.foot i q b z with ⟨j, hj, w⟩ | w
        · exact k j (List.mem_append_left _ hj) w
        · rw [h] at w; cases w
      · rw [(x.same i q).1] at z; exact k i (List.mem_append_right _ hi) z
    exact ⟨h2, g2.trans g1⟩
  foot := fun i hi b z => by
    have key : ∀ j, j ∈ md ++ md2 → A' j b → (∃ j ∈ md ++ md2, A j b) ∨ H b = none := fun j hj w => by
      by_cases q : j ∈ md
      · rcases x.foot j q b w with ⟨k, hk, w⟩ | w
        · exact .inl ⟨k, List.mem_append_left _ hk, w⟩
        · exact .inr w
      · rw [(x.same j q).1] at w; exact .inl ⟨j, hj, w⟩
    by_cases q : i ∈ md2
    · rcases y.foot i q b z with ⟨j, hj, w⟩ | w
      · exact key j (List.mem_append_right _ hj) w
      · cases e : H b with
        | none => exact .inr rfl
        | some o =>
          by_cases k : ∃ j ∈ md, A j b
          · obtain ⟨j, hj, k⟩ := k; exact .inl ⟨j, List.mem_append_left _ hj, k⟩
          · have := (x.keep b o e fun i hi z => k ⟨i, hi, z⟩).1
            rw [w] at this; cases this
    · rw [(y.same i q).1] at z
      exact key i hi z
  same := fun i hi => by
    have h1 : i ∉ md := fun z => hi (List.mem_append_left _ z)
    have h2 : i ∉ md2 := fun z => hi (List.mem_append_right _ z)
    exact ⟨(y.same i h2).1.trans (x.same i h1).1, (y.same i h2).2.trans (x.same i h1).2⟩
/-- a thing in hand that no slot owns; F is its own part. new: since the heap H0 -/
structure Tmp (md : List Nat) (A : Foot) (H : Hp) (A' : Foot) (G' H' : Hp) (F : Fp) : Prop where
  g : ∀ a, F a → G' a = none
  no : ∀ a, F a → ∀ i, ¬ A' i a
  nw : ∀ a, F a → (∃ j ∈ md, A j a) ∨ H a = none
theorem Tmp.none {F : Fp} (h : ∀ a, ¬ F a) : Tmp md A H A' G' H' F := ⟨fun a z => (h a z).elim, fun a z => (h a z).elim, fun a z => (h a z).elim⟩
theorem At.live (a : At K FM B Γ A G H σ s) {i : Nat} {b : Addr} (h : A i b) : ∃ o, H b = some o := (a.own i b h).2.1
theorem At.fresh (a : At K FM B Γ A G H σ s) {b : Addr} (h : H b = none) : (∀ i, ¬ A i b) ∧ B.H0 b = none ∨ B.M b := by
  by_cases hm : B.M b
  · exact .inr hm
  · refine .inl ⟨fun i z => ?_, ?_⟩
    · obtain ⟨o, e⟩ := a.live z; rw [h] at e; cases e
    · cases e : B.H0 b with
      | none => rfl
      | some o =>
        have z := (a.post.2 b o e hm).1
        rw [h] at z; cases z
/-- only new objects, frozen or not -/
theorem At.grow (a : At K FM B Γ A G H σ s) (g : Grow G H G' H') : At K FM B Γ A G' H' σ s where
  len := a.len
  lenU := a.lenU
  sub := g.2
  post := a.post.trans g.1 fun _ _ _ z => z.elim
  slot := fun i m e hn => by
    obtain ⟨v, u, e1, e2, o⟩ := a.slot i m e hn
    exact ⟨v, u, e1, e2, o.frame g.ex fun b o z h => (g.1.2 b o h fun z => z).1⟩
  own := fun i b z => by
    obtain ⟨h1, ⟨o, h2⟩, h3⟩ := a.own i b z
    obtain ⟨k1, k2⟩ := g.1.2 b o h2 fun z => z
    exact ⟨k2.trans h1, ⟨o, k1⟩, h3⟩
  dis := a.dis
  pin := a.pin
  glk := fun x o e => by
    cases h : G x with
    | none => exact g.nd x o e h
    | some u =>
      have z := g.ex x u h
      rw [e] at z; cases z
      exact a.glk x _ h
theorem Grow.stp (g : Grow G H G' H') : Stp [] A A G H G' H' s s := ⟨g.ex, fun a o h _ => g.1.2 a o h fun z => z, fun i h => (nomatch h), fun i _ => ⟨rfl, rfl⟩⟩
theorem Tmp.later {F : Fp} {v : V} {u : U} {m : Mk} (t : Tmp md A H A' G' H' F) (o : Own K FM G' H' m v u F) (x : Stp md2 A' A2 G' H' G2 H2 s' s2) : Tmp md A H A2 G2 H2 F ∧ Own K FM G2 H2 m v u F := by
  have k : ∀ a, F a → ∃ ob, H' a = some ob ∧ H2 a = some ob ∧ G2 a = G' a := fun a z => by
    obtain ⟨ob, e⟩ := o.live a z
    obtain ⟨h1, h2⟩ := x.keep a ob e fun i _ => t.no a z i
    exact ⟨ob, e, h1, h2⟩
  refine ⟨⟨fun a z => ?_, fun a z i q => ?_, t.nw⟩, o.frame x.ex fun a ob z e => ?_⟩
  · obtain ⟨ob, _, _, e⟩ := k a z; exact e.trans (t.g a z)
  · obtain ⟨ob, e, _, _⟩ := k a z
    by_cases hi : i ∈ md2
    · rcases x.foot i hi a q with ⟨j, _, w⟩ | w
      · exact t.no a z j w
      · rw [e] at w; cases w
    · rw [(x.same i hi).1] at q; exact t.no a z i q
  · obtain ⟨ob', e1, e2, _⟩ := k a z
    rw [e] at e1; cases e1; exact e2
theorem Tmp.since {F : Fp} (x : Stp md A A' G H G' H' s s') (t : Tmp md2 A' H' A2 G2 H2 F) : Tmp (md ++ md2) A H A2 G2 H2 F := ⟨t.g, t.no, fun a z => by
  rcases t.nw a z with ⟨j, hj, w⟩ | w
  · by_cases q : j ∈ md
    · rcases x.foot j q a w with ⟨k, hk, w⟩ | w
      · exact .inl ⟨k, List.mem_append_left _ hk, w⟩
      · exact .inr w
    · rw [(x.same j q).1] at w; exact .inl ⟨j, List.mem_append_right _ hj, w⟩
  · cases e : H a with
    | none => exact .inr rfl
    | some o =>
      by_cases k : ∃ j ∈ md, A j a
      · obtain ⟨j, hj, k⟩ := k; exact .inl ⟨j, List.mem_append_left _ hj, k⟩
      · have := (x.keep a o e fun i hi z => k ⟨i, hi, z⟩).1
        rw [w] at this; cases this⟩
theorem Tmp.mono {F : Fp} (t : Tmp md A H A2 G2 H2 F) (a : ∀ i ∈ md, i ∈ md2) : Tmp md2 A H A2 G2 H2 F := ⟨t.g, t.no, fun b z => (t.nw b z).imp (fun ⟨j, hj, w⟩ => ⟨j, a j hj, w⟩) id⟩
open Classical in
noncomputable def updA (A : Foot) (i : Nat) (F : Fp) : Foot := fun j => if j = i then F else A j
theorem updA_same {i : Nat} {F : Fp} : updA A i F i = F := by unfold updA; rw [if_pos rfl]
theorem updA_ne {i j : Nat} {F : Fp} (h : j ≠ i) : updA A i F j = A j := by unfold updA; rw [if_neg h]
/-- a thing in hand is put into slot i -/
theorem At.put (a : At K FM B Γ A G H σ s) {i : Nat} {m : Mk} {v : V} {u : U} {F : Fp} (o : Own K FM G H m v u F) (hi : i < Γ.length) (hg : ∀ b, F b → G b = none) (hno : ∀ b, F b → ∀ j, j ≠ i → ¬ A j b) (hM : ∀ b, F b → B.M b ∨ B.H0 b = none) (hp : ∀ p ∈ B.pin, p.1 = i → v = p.2) :
    At K FM B (Γ.set i m) (updA A i F) G H (σ.set i (some v)) (s.set i u) where
  len := by simp [a.len]
  lenU := by simp [a.lenU]
  sub := a.sub
  post := a.post
  slot := fun j m' e hn => by
    by_cases hj : j = i
    · subst hj
      rw [List.getElem?_set_self hi] at e
      cases e
      exact ⟨v, u, List.getElem?_set_self (by rw [a.len]; exact hi), List.getElem?_set_self (by rw [a.lenU]; exact hi), by rw [updA_same]; exact o⟩
    · rw [List.getElem?_set_ne (Ne.symm hj)] at e
      obtain ⟨v', u', e1, e2, o'⟩ := a.slot j m' e hn
      exact ⟨v', u', by rw [List.getElem?_set_ne (Ne.symm hj)]; exact e1, by rw [List.getElem?_set_ne (Ne.symm hj)]; exact e2, by rw [updA_ne hj]; exact o'⟩
  own := fun j b z => by
    by_cases hj : j = i
    · subst hj
      rw [updA_same] at z
      exact ⟨hg b z, o.live b z, hM b z⟩
    · rw [updA_ne hj] at z; exact a.own j b z
  dis := fun j k b y z => by
    by_cases hj : j = i
    · by_cases hk : k = i
      · exact hj.trans hk.symm
      · subst hj
        rw [updA_same] at y
        rw [updA_ne hk] at z
        exact (hno b y k hk z).elim
    · by_cases hk : k = i
      · subst hk
        rw [updA_same] at z
        rw [updA_ne hj] at y
        exact (hno b z j hj y).elim
      · rw [updA_ne hj] at y
        rw [updA_ne hk] at z
        exact a.dis j k b y z
  pin := fun p hp' => by
    by_cases hj : p.1 = i
    · rw [← hj, List.getElem?_set_self (by rw [a.len, hj]; exact hi), hp p hp' hj]
    · rw [List.getElem?_set_ne (Ne.symm hj)]; exact a.pin p hp'
  glk := a.glk
/-- a weaker word: some slots are forgotten -/
def Wk : List Mk → List Mk → Prop
  | [], [] => True
  | a :: as, b :: bs => (b = a ∨ b = .n) ∧ Wk as bs
  | _, _ => False
theorem Wk.get : ∀ {Γ Γ' : List Mk}, Wk Γ Γ' → Γ'.length = Γ.length ∧ ∀ (i : Nat) m, Γ'[i]? = some m → m ≠ .n → Γ[i]? = some m
  | [], [], _ => ⟨rfl, fun i m e => by simp at e⟩
  | a :: as, b :: bs, ⟨h, t⟩ => by
    obtain ⟨l, g⟩ := Wk.get t
    refine ⟨by simp [l], fun i m e hn => ?_⟩
    cases i with
    | zero =>
      simp at e
      subst e
      rcases h with h | h
      · simp [h]
      · exact absurd h hn
    | succ i => simpa using g i m (by simpa using e) hn
  | [], _ :: _, h => h.elim
  | _ :: _, [], h => h.elim
theorem At.weak (a : At K FM B Γ A G H σ s) (h : Wk Γ Γ') : At K FM B Γ' A G H σ s := by
  obtain ⟨l, g⟩ := h.get
  exact ⟨by rw [l]; exact a.len, by rw [l]; exact a.lenU, a.sub, a.post, fun i m e hn => a.slot i m (g i m e hn) hn, a.own, a.dis, a.pin, a.glk⟩
/-- locked: a dict in A may be read alone from here on -/
def Lk (A : Fp) (H H' : Hp) : Prop := ∀ a, (¬ A a → H' a = H a) ∧ (H' a = H a ∨ ∃ od u, isDct u = true ∧ H a = some u ∧ H' a = some (.frz od u)) ∧ (A a → ∀ o, H' a = some o → isDct o = false)
open Classical in
noncomputable def lockH (h : Heap) (A : Fp) (H : Hp) : Hp := fun a => if A a then (match h.get? a, H a with
  | some od, some (.dK kvs) => some (.frz od (.dK kvs))
  | some od, some (.dT kvs) => some (.frz od (.dT kvs))
  | _, o => o) else H a
theorem lockH_lk {h : Heap} {A : Fp} {H : Hp} (a : Addr) : (¬ A a → lockH h A H a = H a) ∧ (lockH h A H a = H a ∨ ∃ od u, isDct u = true ∧ H a = some u ∧ lockH h A H a = some (.frz od u)) := by
  unfold lockH
  refine ⟨fun z => by rw [if_neg z], ?_⟩
  by_cases z : A a
  · rw [if_pos z]
    split
    · rename_i od kvs e1 e2; exact .inr ⟨od, _, rfl, e2, rfl⟩
    · rename_i od kvs e1 e2; exact .inr ⟨od, _, rfl, e2, rfl⟩
    · exact .inl rfl
  · rw [if_neg z]; exact .inl rfl
theorem lockH_eq {h : Heap} {A : Fp} {H : Hp} {a : Addr} {o : HO} (e : H a = some o) (hn : isDct o = false) : lockH h A H a = some o := by
  unfold lockH
  split
  · split
    · rename_i e2; rw [e] at e2; cases e2; cases hn
    · rename_i e2; rw [e] at e2; cases e2; cases hn
    · exact e
  · exact e
theorem lockH_none {h : Heap} {A : Fp} {H : Hp} {a : Addr} (e : H a = none) : lockH h A H a = none := by
  unfold lockH
  split
  · split
    · rename_i e2; rw [e] at e2; cases e2
    · rename_i e2; rw [e] at e2; cases e2
    · exact e
  · exact e
theorem Inv.lockAll {X : Cx} {pins : List (Addr × Obj)} {s : Shared} (A : Fp) (I : Inv X pins σ H s) : ∃ H', Inv X pins σ H' s ∧ Lk A H H' := by
  refine ⟨lockH s.heap A H, ?_, fun a => ⟨(lockH_lk a).1, (lockH_lk a).2, fun z o e => ?_⟩⟩
  case refine_2 =>
    rcases (lockH_lk (h := s.heap) (A := A) (H := H) a).2 with q | ⟨od, u', _, h1, h2⟩
    · have e' : H a = some o := q ▸ e
      cases o with
      | dK kvs =>
        obtain ⟨ob, hob⟩ : ∃ ob, s.heap.get? a = some ob := by
          obtain ⟨_, _, _, _, ob, _, _, e, _⟩ := I.hok a _ e'
          exact ⟨ob, e⟩
        unfold lockH at e
        rw [if_pos z, hob, e'] at e
        cases e
      | dT kvs =>
        obtain ⟨ob, hob⟩ : ∃ ob, s.heap.get? a = some ob := by
          obtain ⟨_, _, _, _, ob, _, _, e, _⟩ := I.hok a _ e'
          exact ⟨ob, e⟩
        unfold lockH at e
        rw [if_pos z, hob, e'] at e
        cases e
      | _ => rfl
    · rw [h2] at e; cases e; rfl
  have u : Un X.fs [] H (lockH s.heap A H) s.heap s.heap := ⟨fun _ _ q _ _ _ => q, fun b ob q _ _ _ => ⟨ob.slots, q⟩, fun _ _ _ n _ => lockH_none n, fun b ob q _ => ⟨ob, q⟩, fun _ _ q => lockH_eq q rfl, fun _ _ _ q => lockH_eq q rfl, fun _ ps q => ⟨#[], by rw [lockH_eq q rfl]; simp⟩⟩
  refine I.un (h' := s.heap) (t' := s.toks) u fun a o e => ?_
  have st : ∀ {o' : HO}, H a = some o' → ObjOk X.prog X.w (lockH s.heap A H) s.heap a o' := fun {o'} e' => (I.hok a o' e').stay (fun _ _ _ q => q) (fun _ q => lockH_eq q rfl) fun _ _ q => lockH_eq q rfl
  rcases (lockH_lk (h := s.heap) (A := A) (H := H) a).2 with z | ⟨od, u', _, h1, h2⟩
  · exact st (z ▸ e)
  · rw [h2] at e
    cases e
    have eo : s.heap.get? a = some od := by
      unfold lockH at h2
      split at h2
      · split at h2
        · rename_i e1 e2; cases h2; exact e1
        · rename_i e1 e2; cases h2; exact e1
        · rw [h1] at h2; cases h2
      · rw [h1] at h2; cases h2
    exact ⟨eo, st h1⟩
end
section
variable {K : PySem.W.Frag} {FM : FMap} {G H G' H' : Hp}
theorem Kids.dqL {m : Mk} {l : Addr} {ob : HO} {u : U} {ks : List Kid} (h : Kids K FM m ob u ks) (hl : G l = some ob ∨ ∃ od, isDct ob = true ∧ G l = some (.frz od ob)) (d : DqKids K G ks) : Dq K G (.ref l) u := by
  cases h with
  | l k => exact .lst (.inl (hl.imp id fun ⟨od, _, e⟩ => ⟨od, e⟩)) (k.dq d)
  | d k => exact .dct (hl.imp id fun ⟨od, _, e⟩ => ⟨od, e⟩) (k.dqK d)
  | dt k => exact .dctT (hl.imp id fun ⟨od, _, e⟩ => ⟨od, e⟩) (k.dqT d)
  | t =>
    rcases hl with hl | ⟨od, e, _⟩
    · exact .tup hl (.cons (d _ List.mem_cons_self) (.cons (d _ (List.mem_cons_of_mem _ List.mem_cons_self)) .nil))
    · cases e
  | w k =>
    rcases hl with hl | ⟨od, e, _⟩
    · exact .tup hl (k.dq d)
    · cases e
  | i k =>
    rcases hl with hl | ⟨od, e, _⟩
    · exact .ins hl (k.dq d)
    · cases e
  | ek k =>
    rcases hl with hl | ⟨od, e, _⟩
    · exact .dctT (.inr ⟨_, hl⟩) (k.dqT d)
    · cases e
mutual
theorem Own.viewL {T : Hp} (ex : Ex G T) : ∀ {m : Mk} {v : V} {u : U} {A : Fp}, Own K FM G H m v u A → (∀ a o, A a → H a = some o → T a = some o ∨ ∃ od, isDct o = true ∧ T a = some (.frz od o)) → Dq K T v u
  | _, _, _, _, .f hd hn, _ => dp_ex ex _ _ hd
  | _, _, _, _, .o h1 h2 h3 h4 h5, k => h2.dqL (k _ _ ((h5 _).mpr (.inl rfl)) h1) (OwnAll.viewL ex h3 fun a o z => k a o ((h5 a).mpr (.inr z)))
  | _, _, _, _, .q0 hd _ _, _ => dp_ex ex _ _ hd
  | _, _, _, _, .q1 h, k => Own.viewL ex h k
  | _, _, _, _, .p0 hd _ _, _ => dp_ex ex _ _ hd
  | _, _, _, _, .p1 h, k => Own.viewL ex h k
theorem OwnAll.viewL {T : Hp} (ex : Ex G T) : ∀ {ks : List Kid} {A : Fp}, OwnAll K FM G H ks A → (∀ a o, A a → H a = some o → T a = some o ∨ ∃ od, isDct o = true ∧ T a = some (.frz od o)) → DqKids K T ks
  | _, _, .nil hn, _ => fun k hk => by cases hk
  | _, _, .cons h1 h2 h3 h4, k => fun z hz => by
    rcases List.mem_cons.mp hz with e | e
    · subst e; exact Own.viewL ex h1 fun a o z => k a o ((h4 a).mpr (.inl z))
    · exact OwnAll.viewL ex h2 (fun a o z => k a o ((h4 a).mpr (.inr z))) z e
end
/-- frozen, its dicts locked -/
theorem Own.freezeL {m : Mk} {v : V} {u : U} {A : Fp} (h : Own K FM G H m v u A) (hA : ∀ a, A a → G a = none) (lk : Lk A H H') : Dq K (frz G H' A) v u :=
  h.viewL (frz_ex hA) fun a o z e => by
    rw [frz_in z]
    rcases (lk a).2.1 with q | ⟨od, u', hd, h1, h2⟩
    · rw [q]; exact .inl e
    · rw [e] at h1
      cases h1
      exact .inr ⟨od, hd, h2⟩
theorem SE.lk {X : Cx} {e : Expr} {σ : L2.St} {Q : VK} (h : SE X e σ H fun v H1 => ∀ pins s, Inv X pins σ H1 s → ∃ H', Inv X pins σ H' s ∧ Q v H') : SE X e σ H Q := fun pins s I =>
  thn (h pins s I) fun u s' ⟨v, H1, I1, r, q⟩ => let ⟨H', I', q'⟩ := q pins s' I1; ⟨v, H', I', r, q'⟩
theorem SB.lk {X : Cx} {st : List Stmt} {σ : L2.St} {D : Ends} (h : ∀ pins s, Inv X pins σ H s → ∃ H', Inv X pins σ H' s ∧ SB X st D σ H') : SB X st D σ H := fun pins s I =>
  let ⟨_, I', q⟩ := h pins s I
  q pins s I'
end
section
variable {K : PySem.W.Frag} {FM : FMap} {B : Bs} {Γ Γ' : List Mk} {A A' A2 : Foot} {G H G' H' G2 H2 : Hp} {σ : L2.St} {s s' s2 : S} {md md2 : List Nat}
/-- slot i is frozen -/
theorem At.freeze (a : At K FM B Γ A G H σ s) {i : Nat} {m : Mk} (hi : Γ[i]? = some m) (hm : m ≠ .n) (lk : Lk (A i) H H') :
    ∃ G' A', At K FM B (Γ.set i .f) A' G' H' σ s ∧ Stp [i] A A' G H G' H' s s := by
  obtain ⟨v, u, e1, e2, o⟩ := a.slot i m hi hm
  have hg : ∀ b, A i b → G b = none := fun b z => (a.own i b z).1
  have hl : i < Γ.length := (List.getElem?_eq_some_iff.mp hi).1
  have ex := frz_ex (H := H') hg
  have off : ∀ b, ¬ A i b → H' b = H b := fun b z => (lk b).1 z
  have sub : Ex (frz G H' (A i)) H' := fun b ob e => by
    by_cases z : A i b
    · rw [frz_in z] at e; exact e
    · rw [frz_out z] at e; rw [off b z]; exact a.sub b ob e
  refine ⟨frz G H' (A i), updA A i fun _ => False, ⟨by simp [a.len], by simp [a.lenU], sub, ⟨a.post.1.trans ex, fun b ob e hb => ?_⟩, fun j m' e hn => ?_, fun j b z => ?_, fun j k b y z => ?_, a.pin, fun b ob e => ?_⟩, ⟨ex, fun b ob e hb => ?_, fun j hj b z => ?_, fun j hj => ?_⟩⟩
  · obtain ⟨h1, h2⟩ := a.post.2 b ob e hb
    have nz : ¬ A i b := fun z => by
      rcases (a.own i b z).2.2 with q | q
      · exact hb q
      · rw [e] at q; cases q
    exact ⟨(off b nz).trans h1, (frz_out nz).trans h2⟩
  · by_cases hj : j = i
    · subst hj
      rw [List.getElem?_set_self hl] at e
      cases e
      exact ⟨v, u, e1, e2, by rw [updA_same]; exact .f (o.freezeL hg lk) fun _ z => z⟩
    · rw [List.getElem?_set_ne (Ne.symm hj)] at e
      obtain ⟨v', u', f1, f2, o'⟩ := a.slot j m' e hn
      exact ⟨v', u', f1, f2, by rw [updA_ne hj]; exact o'.frame ex fun b ob z h => (off b fun q => hj (a.dis j i b z q)).trans h⟩
  · by_cases hj : j = i
    · subst hj; rw [updA_same] at z; exact z.elim
    · rw [updA_ne hj] at z
      obtain ⟨h1, ⟨ob, h2⟩, h3⟩ := a.own j b z
      have nz : ¬ A i b := fun q => hj (a.dis j i b z q)
      exact ⟨by rw [frz_out nz]; exact h1, ⟨ob, (off b nz).trans h2⟩, h3⟩
  · by_cases hj : j = i
    · subst hj; rw [updA_same] at y; exact y.elim
    · by_cases hk : k = i
      · subst hk; rw [updA_same] at z; exact z.elim
      · rw [updA_ne hj] at y; rw [updA_ne hk] at z; exact a.dis j k b y z
  · by_cases z : A i b
    · rw [frz_in z] at e; exact (lk b).2.2 z ob e
    · rw [frz_out z] at e; exact a.glk b ob e
  · have nz := hb i List.mem_cons_self
    exact ⟨(off b nz).trans e, frz_out nz⟩
  · have := List.mem_singleton.mp hj; subst this; rw [updA_same] at z; exact z.elim
  · have hj : j ≠ i := fun z => hj (by rw [z]; exact List.mem_cons_self)
    exact ⟨updA_ne hj, rfl⟩
/-- a thing in hand is frozen -/
theorem At.frzT (a : At K FM B Γ A G H σ s) {m : Mk} {v : V} {u : U} {F : Fp} (o : Own K FM G H m v u F) (hg : ∀ b, F b → G b = none) (hno : ∀ b, F b → ∀ j, ¬ A j b) (hM : ∀ b, F b → B.M b ∨ B.H0 b = none) (lk : Lk F H H') :
    ∃ G', Ex G G' ∧ (∀ b, ¬ F b → G' b = G b ∧ H' b = H b) ∧ At K FM B Γ A G' H' σ s ∧ Dq K G' v u := by
  have ex := frz_ex (H := H') hg
  have off : ∀ b, ¬ F b → H' b = H b := fun b z => (lk b).1 z
  have sub : Ex (frz G H' F) H' := fun b ob e => by
    by_cases z : F b
    · rw [frz_in z] at e; exact e
    · rw [frz_out z] at e; rw [off b z]; exact a.sub b ob e
  refine ⟨frz G H' F, ex, fun b hb => ⟨frz_out hb, off b hb⟩, ⟨a.len, a.lenU, sub, ⟨a.post.1.trans ex, fun b ob e hb => ?_⟩, fun j m' e hn => ?_, fun j b z => ?_, a.dis, a.pin, fun b ob e => ?_⟩, o.freezeL hg lk⟩
  · obtain ⟨h1, h2⟩ := a.post.2 b ob e hb
    have nz : ¬ F b := fun z => by
      rcases hM b z with q | q
      · exact hb q
      · rw [e] at q; cases q
    exact ⟨(off b nz).trans h1, (frz_out nz).trans h2⟩
  · obtain ⟨v', u', f1, f2, o'⟩ := a.slot j m' e hn
    exact ⟨v', u', f1, f2, o'.frame ex fun b ob z h => (off b fun q => hno b q j z).trans h⟩
  · obtain ⟨h1, ⟨ob, h2⟩, h3⟩ := a.own j b z
    have nz : ¬ F b := fun q => hno b q j z
    exact ⟨by rw [frz_out nz]; exact h1, ⟨ob, (off b nz).trans h2⟩, h3⟩
  · by_cases z : F b
    · rw [frz_in z] at e; exact (lk b).2.2 z ob e
    · rw [frz_out z] at e; exact a.glk b ob e
end
end V4
namespace V4
open PySem PySem.Spec PyProof.Rows L2 L3
/-- what holds all through: the context, the fields' marks, the wish for what is raised, the pinned slots -/
structure Ct where
  X : Cx
  FM : FMap
  W : WX
  pn : List Nat
  bp : Bs → Prop
def Ct.ok (C : Ct) (B : Bs) : Prop := (∀ p ∈ B.pin, p.1 ∈ C.pn) ∧ C.bp B
/-- at the raising of an error -/
structure XStp (md : List Nat) (A : Foot) (G H G' H' : Hp) : Prop where
  ex : Ex G G'
  sub : Ex G' H'
  keep : ∀ a o, H a = some o → (∀ i ∈ md, ¬ A i a) → H' a = some o ∧ G' a = G a
  nd : ∀ a o, G' a = some o → isDct o = false
theorem XStp.mono {md md2 : List Nat} {A : Foot} {G H G' H' : Hp} (x : XStp md A G H G' H') (a : ∀ i ∈ md, i ∈ md2) : XStp md2 A G H G' H' := ⟨x.ex, x.sub, fun b o h k => x.keep b o h fun i hi => k i (a i hi), x.nd⟩
theorem XStp.after {md md2 : List Nat} {A A' : Foot} {G H G' H' G2 H2 : Hp} {s s' : S} (x : Stp md A A' G H G' H' s s') (y : XStp md2 A' G' H' G2 H2) : XStp (md ++ md2) A G H G2 H2 where
  ex := x.ex.trans y.ex
  sub := y.sub
  keep := fun b o h k => by
    obtain ⟨h1, g1⟩ := x.keep b o h fun i hi => k i (List.mem_append_left _ hi)
    obtain ⟨h2, g2⟩ := y.keep b o h1 fun i hi z => by
      by_cases q : i ∈ md
      · rcases x.foot i q b z with ⟨j, hj, w⟩ | w
        · exact k j (List.mem_append_left _ hj) w
        · rw [h] at w; cases w
      · rw [(x.same i q).1] at z; exact k i (List.mem_append_right _ hi) z
    exact ⟨h2, g2.trans g1⟩
  nd := y.nd
abbrev Xw (C : Ct) (md : List Nat) (A : Foot) (G H : Hp) (σ : L2.St) : Err → S → Prop := fun e _ => ∀ c d G' H', XStp md A G H G' H' → ErrOk C.X.K (clsAt C.X.K) e c d G' → C.W c d σ H'
def Agr (md : List Nat) (Γ Γ' : List Mk) : Prop := Γ'.length = Γ.length ∧ ∀ i, i ∉ md → Γ'[i]? = Γ[i]?
theorem Agr.refl {Γ : List Mk} : Agr [] Γ Γ := ⟨rfl, fun _ _ => rfl⟩
theorem Agr.trans {md md2 : List Nat} {Γ Γ1 Γ2 : List Mk} (a : Agr md Γ Γ1) (b : Agr md2 Γ1 Γ2) : Agr (md ++ md2) Γ Γ2 := ⟨b.1.trans a.1, fun i hi => (b.2 i fun z => hi (List.mem_append_right _ z)).trans (a.2 i fun z => hi (List.mem_append_left _ z))⟩
/-- what an expression comes to: a thing in hand with its mark; a part of what a slot holds; just what a slot holds -/
inductive Rk where
  | val (k : Mk) | view (i : Nat) (k : Mk) | slot (i : Nat) (k : Mk)
def Rk.mk : Rk → Mk
  | .val k | .view _ k | .slot _ k => k
/-- the slot is not among those -/
def Rk.off : Rk → List Nat → Bool
  | .val _, _ => true
  | .view i _, md | .slot i _, md => !md.contains i
section
variable (K : PySem.W.Frag) (FM : FMap)
def RkOk (r : Rk) (md : List Nat) (A : Foot) (H : Hp) (A' : Foot) (G' H' : Hp) (σ : L2.St) (s' : S) (v : V) (u : U) : Prop :=
  match r with
  | .val k => ∃ F, Own K FM G' H' k v u F ∧ Tmp md A H A' G' H' F
  | .view i k => ∃ F, Own K FM G' H' k v u F ∧ ∀ a, F a → A' i a
  | .slot i k => Own K FM G' H' k v u (A' i) ∧ σ[i]? = some (some v) ∧ s'[i]? = some u
end
section
variable {K : PySem.W.Frag} {FM : FMap} {B : Bs} {Γ Γ' : List Mk} {A A' A2 : Foot} {G H G' H' G2 H2 : Hp} {σ : L2.St} {s s' s2 : S} {md md2 : List Nat} {r : Rk} {v : V} {u : U}
theorem RkOk.own (h : RkOk K FM r md A H A' G' H' σ s' v u) : ∃ F, Own K FM G' H' r.mk v u F := by
  cases r with
  | val k => obtain ⟨F, o, _⟩ := h; exact ⟨F, o⟩
  | view i k => obtain ⟨F, o, _⟩ := h; exact ⟨F, o⟩
  | slot i k => exact ⟨_, h.1⟩
theorem RkOk.bow (h : RkOk K FM r md A H A' G' H' σ s' v u) (hm : shal r.mk = true) : (bowB K u).b G' H' v := by
  obtain ⟨F, o⟩ := h.own
  exact o.bow hm
theorem RkOk.dq (h : RkOk K FM r md A H A' G' H' σ s' v u) (ex : Ex G' H') : Dq K H' v u := by
  obtain ⟨F, o⟩ := h.own
  exact o.view ex fun _ _ _ e => e
theorem RkOk.later (h : RkOk K FM r md A H A' G' H' σ s' v u) (a : At K FM B Γ A' G' H' σ s') (x : Stp md2 A' A2 G' H' G2 H2 s' s2) (hr : r.off md2 = true) : RkOk K FM r md A H A2 G2 H2 σ s2 v u := by
  have key : ∀ i, i ∉ md2 → ∀ b o, A' i b → H' b = some o → H2 b = some o := fun i hi b o z e =>
    (x.keep b o e fun j hj q => hi (a.dis i j b z q ▸ hj)).1
  cases r with
  | val k => obtain ⟨F, o, t⟩ := h; obtain ⟨t', o'⟩ := t.later o x; exact ⟨F, o', t'⟩
  | view i k =>
    obtain ⟨F, o, t⟩ := h
    have hi : i ∉ md2 := by simpa [Rk.off] using hr
    exact ⟨F, o.frame x.ex fun b ob z e => key i hi b ob (t b z) e, fun b z => by rw [(x.same i hi).1]; exact t b z⟩
  | slot i k =>
    obtain ⟨o, e1, e2⟩ := h
    have hi : i ∉ md2 := by simpa [Rk.off] using hr
    refine ⟨?_, e1, by rw [(x.same i hi).2]; exact e2⟩
    rw [(x.same i hi).1]
    exact o.frame x.ex fun b ob z e => key i hi b ob z e
theorem RkOk.since (x : Stp md A A' G H G' H' s s') (h : RkOk K FM r md2 A' H' A2 G2 H2 σ s2 v u) : RkOk K FM r (md ++ md2) A H A2 G2 H2 σ s2 v u := by
  cases r with
  | val k => obtain ⟨F, o, t⟩ := h; exact ⟨F, o, t.since x⟩
  | view i k => exact h
  | slot i k => exact h
theorem RkOk.mono (h : RkOk K FM r md A H A2 G2 H2 σ s2 v u) (a : ∀ i ∈ md, i ∈ md2) : RkOk K FM r md2 A H A2 G2 H2 σ s2 v u := by
  cases r with
  | val k => obtain ⟨F, o, t⟩ := h; exact ⟨F, o, t.mono a⟩
  | view i k => exact h
  | slot i k => exact h
theorem RkOk.frozen (h : Dq K G' v u) : RkOk K FM (.val .f) md A H A' G' H' σ s' v u := ⟨fun _ => False, .f h fun _ z => z, Tmp.none fun _ z => z⟩
theorem RkOk.frz (h : RkOk K FM (.val .f) md A H A' G' H' σ s' v u) : Dq K G' v u := by
  obtain ⟨F, o, _⟩ := h
  cases o with
  | f hd _ => exact hd
  | o _ hk => cases hk
end
/-- an expression -/
def EJ (C : Ct) (Γ : List Mk) (e : Expr) (m : Mo U) (md : List Nat) (r : Rk) (Γ' : List Mk) : Prop :=
  Agr md Γ Γ' ∧ ∀ B A G H σ s, C.ok B → At C.X.K C.FM B Γ A G H σ s → ∀ Q : VK,
    (m s).wp (fun u s' => ∀ v A' G' H', At C.X.K C.FM B Γ' A' G' H' σ s' → Stp md A A' G H G' H' s s' → RkOk C.X.K C.FM r md A H A' G' H' σ s' v u → Q v H') (Xw C md A G H σ) → SE C.X e σ H Q
/-- a test -/
def TJ (C : Ct) (Γ : List Mk) (e : Expr) (m : Mo Bool) (md : List Nat) (Γ' : List Mk) : Prop :=
  Agr md Γ Γ' ∧ ∀ B A G H σ s, C.ok B → At C.X.K C.FM B Γ A G H σ s → ∀ Q : Bool → Hp → Prop,
    (m s).wp (fun b s' => ∀ A' G' H', At C.X.K C.FM B Γ' A' G' H' σ s' → Stp md A A' G H G' H' s s' → Q b H') (Xw C md A G H σ) → ST C.X e σ H Q
/-- .. whose whole is any -/
def WJ (C : Ct) (Γ : List Mk) (e : Expr) (m : Mo Bool) (md : List Nat) (Γ' : List Mk) : Prop :=
  Agr md Γ Γ' ∧ ∀ B A G H σ s, C.ok B → At C.X.K C.FM B Γ A G H σ s → ∀ Q : Bool → Hp → Prop,
    (m s).wp (fun b s' => ∀ A' G' H', At C.X.K C.FM B Γ' A' G' H' σ s' → Stp md A A' G H G' H' s s' → Q b H') (Xw C md A G H σ) → SW C.X e σ H Q
/-- a truth value -/
def BJ (C : Ct) (Γ : List Mk) (e : Expr) (m : Mo Bool) (md : List Nat) (Γ' : List Mk) : Prop :=
  Agr md Γ Γ' ∧ ∀ B A G H σ s, C.ok B → At C.X.K C.FM B Γ A G H σ s → ∀ Q : VK,
    (m s).wp (fun b s' => ∀ A' G' H', At C.X.K C.FM B Γ' A' G' H' σ s' → Stp md A A' G H G' H' s s' → Q (.bl b) H') (Xw C md A G H σ) → SE C.X e σ H Q
section
variable (K : PySem.W.Frag) (FM : FMap)
/-- things in hand, one behind the other; T: the parts of those that no slot owns -/
def PendAll (md : List Nat) (A : Foot) (H : Hp) (A' : Foot) (G' H' : Hp) (σ : L2.St) (s' : S) : List Rk → List V → List U → Fp → Prop
  | [], [], [], T => ∀ a, ¬ T a
  | .val k :: rs, v :: vs, u :: us, T => ∃ F T', Own K FM G' H' k v u F ∧ Tmp md A H A' G' H' F ∧ PendAll md A H A' G' H' σ s' rs vs us T' ∧ (∀ a, F a → ¬ T' a) ∧ ∀ a, T a ↔ F a ∨ T' a
  | .view i k :: rs, v :: vs, u :: us, T => RkOk K FM (.view i k) md A H A' G' H' σ s' v u ∧ PendAll md A H A' G' H' σ s' rs vs us T
  | .slot i k :: rs, v :: vs, u :: us, T => RkOk K FM (.slot i k) md A H A' G' H' σ s' v u ∧ PendAll md A H A' G' H' σ s' rs vs us T
  | _, _, _, _ => False
end
def vM (i : Nat) : Mo U := fun s => match s[i]? with | some u => .ok u s | none => .stuck
def op1M (f : U → Option U) (a : Mo U) : Mo U := .bind a fun x => .ofOpt (f x)
def op2M (f : U → U → Option U) (a b : Mo U) : Mo U := .bind a fun x => .bind b fun y => .ofOpt (f x y)
def asBM (a : Mo U) : Mo Bool := .bind a asB
def ofBM (a : Mo Bool) : Mo U := .bind a fun b => .pure (.bool b)
def notM (a : Mo Bool) : Mo Bool := .bind a fun b => .pure (!b)
def andM (a b : Mo Bool) : Mo Bool := .bind a fun k => if k = true then b else .pure false
def orM (a b : Mo Bool) : Mo Bool := .bind a fun k => if k = true then .pure true else b
def ifM {β : Type} (c : Mo Bool) (a b : Mo β) : Mo β := .bind c fun k => if k = true then a else b
def chM (f g : U → U → Option U) (a b c : Mo U) : Mo Bool := .bind a fun x => .bind b fun y => .bind (.ofOpt (f x y)) fun d => .bind (asB d) fun k => if k = true then .bind c fun z => .bind (.ofOpt (g y z)) asB else .pure false
section
variable {C : Ct} {Γ Γ1 Γ2 Γ3 : List Mk} {e a b c : Expr} {es : List Expr} {pos p ps : Pos} {x y : Str} {md md2 md3 : List Nat} {r ra rb : Rk} {m ma mb mc : Mo U} {i : Nat} {k : Mk}
theorem wp_ofOpt {β : Type} {o : Option β} {s : S} {P : β → S → Prop} {E : Err → S → Prop} (h : ((StM.ofOpt o : Mo β) s).wp P E) : ∃ b, o = some b ∧ P b s := by
  cases o with
  | none => exact h.elim
  | some b => exact ⟨b, rfl, h⟩
theorem nm_ (h : Γ[i]? = some k) (hk : k ≠ .n) (hN : C.X.N[i]? = some x) (hv : Vis C.X.env.scope x) (hd : (x == ("__debug__" : Str)) = false) (hcd : (x == ("__classdict__" : Str)) = false) : EJ C Γ (.Name x pos) (vM i) [] (.slot i k) Γ :=
  ⟨.refl, fun B A G H σ s hB a Q q => by
    obtain ⟨v, u, e1, e2, o⟩ := a.slot i k h hk
    unfold vM at q
    rw [e2] at q
    exact SE.of (pe_var hN hv hd hcd) ⟨v, e1, q v A G H a .refl ⟨o, e1, e2⟩⟩⟩
/-- the slot i, frozen -/
theorem v_ (i : Nat) (h : Γ[i]? = some .f := by rfl) (hN : C.X.N[i]? = some x := by rfl) (hv : Vis C.X.env.scope x := by first | exact Or.inl rfl | exact Or.inr (Or.inl rfl) | exact Or.inr (Or.inr rfl)) (hd : (x == ("__debug__" : Str)) = false := by decide) (hcd : (x == ("__classdict__" : Str)) = false := by decide) :
    EJ C Γ (.Name x pos) (vM i) [] (.val .f) Γ :=
  ⟨.refl, fun B A G H σ s hB a Q q => (nm_ h (by decide) hN hv hd hcd).2 B A G H σ s hB a Q (wp_mono q (fun u s' h v A' G' H' a' st r => h v A' G' H' a' st (.frozen (by
    obtain ⟨o, _, _⟩ := r
    cases o with
    | f hd _ => exact hd
    | o _ hk => cases hk))) fun _ _ h => h)⟩
/-- the slot i, a tree of our own -/
theorem w_ (i : Nat) (k : Mk) (h : Γ[i]? = some k := by rfl) (hk : k ≠ .n := by decide) (hN : C.X.N[i]? = some x := by rfl) (hv : Vis C.X.env.scope x := by first | exact Or.inl rfl | exact Or.inr (Or.inl rfl) | exact Or.inr (Or.inr rfl)) (hd : (x == ("__debug__" : Str)) = false := by decide) (hcd : (x == ("__classdict__" : Str)) = false := by decide) :
    EJ C Γ (.Name x pos) (vM i) [] (.slot i k) Γ := nm_ h hk hN hv hd hcd
theorem k_ {v : V} {d : U} (h : PE C.X e (tC v)) (hd : ∀ G, Dq C.X.K G v d) : EJ C Γ e (.pure d) [] (.val .f) Γ :=
  ⟨.refl, fun B A G H σ s hB a Q q => SE.of h (q v A G H a .refl (.frozen (hd G)))⟩
theorem int_ {i j} : EJ C Γ (.Constant (.int i) j pos) (.pure (.int i)) [] (.val .f) Γ := k_ pe_int fun _ => .int i
theorem bool_ {b j} : EJ C Γ (.Constant (.bool b) j pos) (.pure (.bool b)) [] (.val .f) Γ := k_ pe_bl fun _ => .bl b
theorem str_ {x j} (h : PyData.strOk x = true := by decide +kernel) : EJ C Γ (.Constant (.str x) j pos) (.pure (.str x)) [] (.val .f) Γ := k_ pe_str fun _ => .str x h
/-- a constant of the module -/
theorem glob_ {v : V} {d : U} (hm : ∃ u, C.X.mg x = some u ∧ RelV v u) (hq : ∀ G, Dq C.X.K G v d) (hg : Gl C.X x := by rfl) (hd : (x == ("__debug__" : Str)) = false := by decide) : EJ C Γ (.Name x pos) (.pure d) [] (.val .f) Γ := by
  obtain ⟨u, h1, h2⟩ := hm
  exact k_ (pe_glob hg h1 h2 hd) hq
theorem two_ {rr : R2} {f : U → U → Option U} (hop : PE C.X e (tOp rr (SE C.X a) (SE C.X b))) (pr : Pr C.X.K (dU C.X.K) (r2l rr) (a2 f)) (ha : EJ C Γ a ma md ra Γ1) (hb : EJ C Γ1 b mb md2 rb Γ2) (ho : ra.off md2 = true := by rfl) (h1 : shal ra.mk = true := by rfl) (h2 : shal rb.mk = true := by rfl) :
    EJ C Γ e (op2M f ma mb) (md ++ md2) (.val .f) Γ2 :=
  ⟨ha.1.trans hb.1, fun B A G H σ s hB at_ Q q => SE.of hop (ha.2 B A G H σ s hB at_ _ (wp_mono (wp_bind.mp q) (fun x s1 q1 v1 A1 G1 H1 at1 st1 r1 => hb.2 B A1 G1 H1 σ s1 hB at1 _ (wp_mono (wp_bind.mp q1) (fun y s2 q2 v2 A2 G2 H2 at2 st2 r2 => by
    obtain ⟨d, ed, q3⟩ := wp_ofOpt q2
    refine pr [x, y] d ed H2 G2 H2 [v1, v2] Q at2.sub ⟨(r1.later at1 st2 ho).bow h1, r2.bow h2, trivial⟩ fun v G' H' g r => ?_
    exact q3 v A2 G' H' (at2.grow g) ((st1.trans (st2.trans (Grow.stp g))).mono fun i hi => by simpa using hi) (.frozen r)) fun _ _ h c d G' H' x => h c d G' H' (XStp.after st1 x))) fun _ _ h c d G' H' x => h c d G' H' (x.mono fun i hi => List.mem_append_left _ hi)))⟩
/-- .. of any marks, the answer a plain one -/
def plainU : U → Bool
  | .none | .bool _ | .int _ | .str _ => true
  | _ => false
theorem plain_dq {K : PySem.W.Frag} {G G' : Hp} {v : V} {d : U} (h : Dq K G v d) (hp : plainU d = true) : Dq K G' v d := by
  cases h with
  | non => exact .non
  | bl b => exact .bl b
  | int i => exact .int i
  | str x h => exact .str x h
  | _ => exact nomatch hp
theorem twoA_ {rr : R2} {f : U → U → Option U} (hop : PE C.X e (tOp rr (SE C.X a) (SE C.X b))) (pr : Pr C.X.K (dU C.X.K) (r2l rr) (a2 f)) (hpl : ∀ x y d, f x y = some d → plainU d = true) (ha : EJ C Γ a ma md ra Γ1) (hb : EJ C Γ1 b mb md2 rb Γ2) (ho : ra.off md2 = true := by rfl) :
    EJ C Γ e (op2M f ma mb) (md ++ md2) (.val .f) Γ2 :=
  ⟨ha.1.trans hb.1, fun B A G H σ s hB at_ Q q => SE.of hop (ha.2 B A G H σ s hB at_ _ (wp_mono (wp_bind.mp q) (fun x s1 q1 v1 A1 G1 H1 at1 st1 r1 => hb.2 B A1 G1 H1 σ s1 hB at1 _ (wp_mono (wp_bind.mp q1) (fun y s2 q2 v2 A2 G2 H2 at2 st2 r2 => by
    obtain ⟨d, ed, q3⟩ := wp_ofOpt q2
    refine pr [x, y] d ed H2 H2 H2 [v1, v2] Q (Ex.refl _) ⟨.inl ((r1.later at1 st2 ho).dq at2.sub), .inl (r2.dq at2.sub), trivial⟩ fun v G' H' g r => ?_
    have g' : Grow G2 H2 G2 H' := ⟨⟨Ex.refl _, fun b o e hn => ⟨(g.1.2 b o e hn).1, rfl⟩⟩, at2.sub.trans g.exH, fun _ _ e n => by rw [n] at e; cases e⟩
    exact q3 v A2 G2 H' (at2.grow g') ((st1.trans (st2.trans (Grow.stp g'))).mono fun i hi => by simpa using hi) (.frozen (plain_dq r (hpl x y d ed)))) fun _ _ h c d G' H' x => h c d G' H' (XStp.after st1 x))) fun _ _ h c d G' H' x => h c d G' H' (x.mono fun i hi => List.mem_append_left _ hi)))⟩
theorem bin_ {op : Operator} {rr : R2} {f : U → U → Option U} (hop : OpR C.X (binaryOp op) rr) (pr : Pr C.X.K (dU C.X.K) (r2l rr) (a2 f)) (ha : EJ C Γ a ma md ra Γ1) (hb : EJ C Γ1 b mb md2 rb Γ2) (ho : ra.off md2 = true := by rfl) (h1 : shal ra.mk = true := by rfl) (h2 : shal rb.mk = true := by rfl) :
    EJ C Γ (.BinOp a op b pos) (op2M f ma mb) (md ++ md2) (.val .f) Γ2 := two_ (pe_op hop pe_se pe_se) pr ha hb ho h1 h2
theorem cmp_ {op : CmpOp} {rr : R2} {f : U → U → Option U} (hop : OpR C.X (compareOp op) rr) (pr : Pr C.X.K (dU C.X.K) (r2l rr) (a2 f)) (hpl : ∀ x y d, f x y = some d → plainU d = true) (ha : EJ C Γ a ma md ra Γ1) (hb : EJ C Γ1 b mb md2 rb Γ2) (ho : ra.off md2 = true := by rfl) (hm : behindInMarks op b = false := by first | exact nomark _ | rfl) :
    EJ C Γ (.Compare a [op] [b] pos) (op2M f ma mb) (md ++ md2) (.val .f) Γ2 := twoA_ (pe_cmpR hop pe_se pe_se hm) pr hpl ha hb ho
theorem ix_ {rr : R2} {f : U → U → Option U} (hop : PE C.X (.Subscript a b pos) (tOp rr (SE C.X a) (SE C.X b))) (pr : Pr C.X.K (dU C.X.K) (r2l rr) (a2 f)) (ha : EJ C Γ a ma md ra Γ1) (hb : EJ C Γ1 b mb md2 rb Γ2) (ho : ra.off md2 = true := by rfl) (h1 : shal ra.mk = true := by rfl) (h2 : shal rb.mk = true := by rfl) :
    EJ C Γ (.Subscript a b pos) (op2M f ma mb) (md ++ md2) (.val .f) Γ2 := two_ hop pr ha hb ho h1 h2
theorem one_ {rr : V → Hp → VK → Prop} {f : U → Option U} (rule : ∀ σ H (Q : VK), SE C.X a σ H (fun x H1 => rr x H1 Q) → SE C.X e σ H Q) (pr : Pr C.X.K (dU C.X.K) (r1l rr) (a1 f)) (ha : EJ C Γ a ma md ra Γ1) (h1 : shal ra.mk = true := by rfl) :
    EJ C Γ e (op1M f ma) md (.val .f) Γ1 :=
  ⟨ha.1, fun B A G H σ s hB at_ Q q => rule σ H Q (ha.2 B A G H σ s hB at_ _ (wp_mono (wp_bind.mp q) (fun x s1 q1 v1 A1 G1 H1 at1 st1 r1 => by
    obtain ⟨d, ed, q3⟩ := wp_ofOpt q1
    refine pr [x] d ed H1 G1 H1 [v1] Q at1.sub ⟨r1.bow h1, trivial⟩ fun v G' H' g r => ?_
    exact q3 v A1 G' H' (at1.grow g) ((st1.trans (Grow.stp g)).mono fun i hi => by simpa using hi) (.frozen r)) fun _ _ h => h))⟩
theorem oneA_ {rr : V → Hp → VK → Prop} {f : U → Option U} (rule : ∀ σ H (Q : VK), SE C.X a σ H (fun x H1 => rr x H1 Q) → SE C.X e σ H Q) (pr : Pr C.X.K (dU C.X.K) (r1l rr) (a1 f)) (hpl : ∀ x d, f x = some d → plainU d = true) (ha : EJ C Γ a ma md ra Γ1) :
    EJ C Γ e (op1M f ma) md (.val .f) Γ1 :=
  ⟨ha.1, fun B A G H σ s hB at_ Q q => rule σ H Q (ha.2 B A G H σ s hB at_ _ (wp_mono (wp_bind.mp q) (fun x s1 q1 v1 A1 G1 H1 at1 st1 r1 => by
    obtain ⟨d, ed, q3⟩ := wp_ofOpt q1
    refine pr [x] d ed H1 H1 H1 [v1] Q (Ex.refl _) ⟨.inl (r1.dq at1.sub), trivial⟩ fun v G' H' g r => ?_
    have g' : Grow G1 H1 G1 H' := ⟨⟨Ex.refl _, fun b o e hn => ⟨(g.1.2 b o e hn).1, rfl⟩⟩, at1.sub.trans g.exH, fun _ _ e n => by rw [n] at e; cases e⟩
    exact q3 v A1 G1 H' (at1.grow g') ((st1.trans (Grow.stp g')).mono fun i hi => by simpa using hi) (.frozen (plain_dq r (hpl x d ed)))) fun _ _ h => h))⟩
/-- .. that makes a new list or dict of our own -/
def topK : Mk → U → Bool
  | .l .f, .list _ => true
  | .d .f, .dict _ => true
  | .d .f, .dictT _ => true
  | _, _ => false
theorem kl_of {K : PySem.W.Frag} {G H : Hp} {FM : FMap} : ∀ {vs : List V} {us : List U}, DqAll K G vs us → ∃ ks, KL .f vs us ks ∧ OwnAll K FM G H ks fun _ => False
  | _, [], h => by cases h; exact ⟨[], .nil, .nil fun _ z => z⟩
  | _, _ :: _, h => by
    cases h with
    | cons h1 h2 =>
      obtain ⟨ks, a, b⟩ := kl_of h2
      exact ⟨_, .cons a, .cons (.f h1 fun _ z => z) b (fun _ z => z.elim) fun _ => ⟨fun z => z.elim, fun z => z.elim (fun z => z) fun z => z⟩⟩
theorem kd_of {K : PySem.W.Frag} {G H : Hp} {FM : FMap} : ∀ {vs : List (Key × V)} {us : List (Key × U)}, DqKvs K G vs us → ∃ ks, KD .f vs us ks ∧ OwnAll K FM G H ks fun _ => False
  | _, [], h => by cases h; exact ⟨[], .nil, .nil fun _ z => z⟩
  | _, _ :: _, h => by
    cases h with
    | cons h1 h2 =>
      obtain ⟨ks, a, b⟩ := kd_of h2
      exact ⟨_, .cons a, .cons (.f h1 fun _ z => z) b (fun _ z => z.elim) fun _ => ⟨fun z => z.elim, fun z => z.elim (fun z => z) fun z => z⟩⟩
theorem kt_of {K : PySem.W.Frag} {G H : Hp} {FM : FMap} : ∀ {vs : List (List Key × V)} {us : List (List Key × U)}, DqKts K G vs us → ∃ ks, KD .f vs us ks ∧ OwnAll K FM G H ks fun _ => False
  | _, [], h => by cases h; exact ⟨[], .nil, .nil fun _ z => z⟩
  | _, _ :: _, h => by
    cases h with
    | cons h1 h2 =>
      obtain ⟨ks, a, b⟩ := kt_of h2
      exact ⟨_, .cons a, .cons (.f h1 fun _ z => z) b (fun _ z => z.elim) fun _ => ⟨fun z => z.elim, fun z => z.elim (fun z => z) fun z => z⟩⟩
/-- an object of ours whose parts are frozen -/
theorem own_top {K : PySem.W.Frag} {G H : Hp} {FM : FMap} {l : Addr} {o : HO} {u : U} {k : Mk} (hl : H l = some o) (ht : topO K G o u) (hk : topK k u = true) : Own K FM G H k (.ref l) u fun a => a = l := by
  have fin : ∀ {ks : List Kid}, Kids K FM k o u ks → OwnAll K FM G H ks (fun _ => False) → Own K FM G H k (.ref l) u fun a => a = l := fun h1 h2 => .o hl h1 h2 (fun z => z) fun a => ⟨.inl, fun z => z.elim id fun z => z.elim⟩
  unfold topK at hk
  split at hk
  · cases o <;> first | exact ht.elim | skip
    obtain ⟨ks, a, b⟩ := kl_of (H := H) (FM := FM) (show DqAll K G _ _ from ht)
    exact fin (.l a) b
  · cases o <;> first | exact ht.elim | skip
    obtain ⟨ks, a, b⟩ := kd_of (H := H) (FM := FM) (show DqKvs K G _ _ from ht)
    exact fin (.d a) b
  · cases o <;> first | exact ht.elim | skip
    obtain ⟨ks, a, b⟩ := kt_of (H := H) (FM := FM) (show DqKts K G _ _ from ht)
    exact fin (.dt a) b
  · cases hk
theorem oneO_ {rr : V → Hp → VK → Prop} {f : U → Option U} {k : Mk} (rule : ∀ σ H (Q : VK), SE C.X a σ H (fun x H1 => rr x H1 Q) → SE C.X e σ H Q) (pr : Pr C.X.K (oU C.X.K) (r1l rr) (a1 f)) (hk : ∀ x d, f x = some d → topK k d = true) (ha : EJ C Γ a ma md ra Γ1) (h1 : shal ra.mk = true := by rfl) :
    EJ C Γ e (op1M f ma) md (.val k) Γ1 :=
  ⟨ha.1, fun B A G H σ s hB at_ Q q => rule σ H Q (ha.2 B A G H σ s hB at_ _ (wp_mono (wp_bind.mp q) (fun x s1 q1 v1 A1 G1 H1 at1 st1 r1 => by
    obtain ⟨d, ed, q3⟩ := wp_ofOpt q1
    refine pr [x] d ed H1 G1 H1 [v1] Q at1.sub ⟨r1.bow h1, trivial⟩ fun v G' H' g r => ?_
    obtain ⟨l, o, ev, hn, hg, hh, ht⟩ := r
    subst ev
    refine q3 (.ref l) A1 G' H' (at1.grow g) ((st1.trans (Grow.stp g)).mono fun i hi => by simpa using hi) ⟨fun a => a = l, own_top hh ht (hk x d ed), ⟨fun b z => z ▸ hg, fun b z i w => ?_, fun b z => ?_⟩⟩
    · subst z
      obtain ⟨o', e'⟩ := at1.live w
      rw [hn] at e'; cases e'
    · subst z
      cases e' : H b with
      | none => exact .inr rfl
      | some o' =>
        by_cases kk : ∃ j ∈ md, A j b
        · exact .inl kk
        · have := (st1.keep b o' e' fun i hi z => kk ⟨i, hi, z⟩).1
          rw [hn] at this; cases this) fun _ _ h => h))⟩
end
end V4
namespace V4
open PySem PySem.Spec PyProof.Rows L2 L3
section
variable {C : Ct} {Γ Γ1 Γ2 Γ3 : List Mk} {e a b c : Expr} {es rest : List Expr} {pos p ps p2 : Pos} {x y : Str} {md md2 md3 : List Nat} {r ra rb rc : Rk} {m ma mb mc : Mo U} {n na nb : Mo Bool} {i : Nat} {k : Mk}
theorem xw_l {md md2 : List Nat} {A : Foot} {G H : Hp} {σ : L2.St} : ∀ e s, Xw C (md ++ md2) A G H σ e s → Xw C md A G H σ e s := fun _ _ h c d G' H' x => h c d G' H' (x.mono fun i hi => List.mem_append_left _ hi)
theorem xw_r {md md2 : List Nat} {A A' : Foot} {G H G' H' : Hp} {s s' : S} {σ : L2.St} (x : Stp md A A' G H G' H' s s') : ∀ e s, Xw C (md ++ md2) A G H σ e s → Xw C md2 A' G' H' σ e s := fun _ _ h c d G2 H2 y => h c d G2 H2 (XStp.after x y)
theorem Stp.nil_l {A A' : Foot} {G H G' H' : Hp} {s s' : S} (x : Stp ([] ++ md) A A' G H G' H' s s') : Stp md A A' G H G' H' s s' := x
theorem Stp.gr {A A' : Foot} {G H G1 H1 G' H' : Hp} {s s' : S} (x : Stp md A A' G H G1 H1 s s') (g : Grow G1 H1 G' H') : Stp md A A' G H G' H' s s' := (x.trans (Grow.stp g)).mono fun i hi => by simpa using hi
theorem b_ (h : EJ C Γ e m md (.val .f) Γ1) : BJ C Γ e (asBM m) md Γ1 := ⟨h.1, fun B A G H σ s hB a Q q => h.2 B A G H σ s hB a Q (wp_mono (wp_bind.mp q) (fun u s1 q1 v A' G' H' a1 st r => by
  cases u with
  | bool k => have r := r.frz; cases r; exact q1 A' G' H' a1 st
  | _ => exact q1.elim) fun _ _ h => h)⟩
theorem ofb_ (h : BJ C Γ e n md Γ1) : EJ C Γ e (ofBM n) md (.val .f) Γ1 := ⟨h.1, fun B A G H σ s hB a Q q => h.2 B A G H σ s hB a Q (wp_mono (wp_bind.mp q) (fun u s1 q1 A' G' H' a1 st => q1 _ A' G' H' a1 st (.frozen (.bl _))) fun _ _ h => h)⟩
/-- a test by a value -/
theorem t_ (h : BJ C Γ e n md Γ1) (he : ∀ whole, isTrue e C.X.env whole = (do let v ← whole; standAt e.pos; holding [v] (truthy v)) := by intro _; rfl) : TJ C Γ e n md Γ1 := ⟨h.1, fun B A G H σ s hB a Q q =>
  ST.of (pt_val pe_se he) (h.2 B A G H σ s hB a _ (wp_mono q (fun u s1 q1 A' G' H' a1 st => ⟨u, rfl, q1 A' G' H' a1 st⟩) fun _ _ h => h))⟩
theorem tcmp_ {op : CmpOp} {rr : R2} {f : U → U → Option U} (hop : OpR C.X (compareOp op) rr) (pr : Pr C.X.K (dU C.X.K) (r2l rr) (a2 f)) (hpl : ∀ x y d, f x y = some d → plainU d = true) (ha : EJ C Γ a ma md ra Γ1) (hb : EJ C Γ1 b mb md2 rb Γ2) (ho : ra.off md2 = true := by rfl) (hm : behindInMarks op b = false := by first | exact nomark _ | rfl) :
    TJ C Γ (.Compare a [op] [b] pos) (asBM (op2M f ma mb)) (md ++ md2) Γ2 :=
  ⟨ha.1.trans hb.1, fun B A G H σ s hB at_ Q q => ST.of (pt_cmpR hop pe_se pe_se hm) (show SE C.X a σ H (fun x H1 => SE C.X b σ H1 fun y H2 => rr x y H2 fun z H3 => ∃ c, z = .bl c ∧ Q c H3) from
    ha.2 B A G H σ s hB at_ _ (wp_mono (wp_bind.mp (wp_bind.mp q)) (fun x s1 q1 v1 A1 G1 H1 at1 st1 r1 => hb.2 B A1 G1 H1 σ s1 hB at1 _ (wp_mono (wp_bind.mp q1) (fun y s2 q2 v2 A2 G2 H2 at2 st2 r2 => by
    obtain ⟨d, ed, q3⟩ := wp_ofOpt q2
    refine pr [x, y] d ed H2 H2 H2 [v1, v2] _ (Ex.refl _) ⟨.inl ((r1.later at1 st2 ho).dq at2.sub), .inl (r2.dq at2.sub), trivial⟩ fun v G' H' g r => ?_
    have g' : Grow G2 H2 G2 H' := ⟨⟨Ex.refl _, fun b o e hn => ⟨(g.1.2 b o e hn).1, rfl⟩⟩, at2.sub.trans g.exH, fun _ _ e n => by rw [n] at e; cases e⟩
    cases d with
    | bool k => cases r; exact ⟨k, rfl, q3 A2 G2 H' (at2.grow g') ((st1.trans st2).gr g')⟩
    | _ => exact q3.elim) (xw_r st1))) xw_l))⟩
theorem chain_core {rr rr' : R2} {f f' : U → U → Option U} {B : Bs} {A : Foot} {G H : Hp} {σ : L2.St} {s : S} {Q : Bool → Hp → Prop} {R : VK} (hR : ∀ b H, Q b H → R (.bl b) H)
    (pr : Pr C.X.K (dU C.X.K) (r2l rr) (a2 f)) (pr' : Pr C.X.K (dU C.X.K) (r2l rr') (a2 f')) (ha : EJ C Γ a ma [] ra Γ) (hb : EJ C Γ b mb [] rb Γ) (hc : EJ C Γ c mc [] rc Γ) (hB : C.ok B) (at_ : At C.X.K C.FM B Γ A G H σ s)
    (q : (chM f f' ma mb mc s).wp (fun b s' => ∀ A' G' H', At C.X.K C.FM B Γ A' G' H' σ s' → Stp [] A A' G H G' H' s s' → Q b H') (Xw C [] A G H σ)) :
    SE C.X a σ H fun x H1 => SE C.X b σ H1 fun y H2 => rr x y H2 fun z H3 => ∃ k, z = .bl k ∧ if k = true then SE C.X c σ H3 (fun w H4 => rr' y w H4 R) else R (.bl false) H3 :=
  ha.2 B A G H σ s hB at_ _ (wp_mono (wp_bind.mp q) (fun x s1 q1 v1 A1 G1 H1 at1 st1 r1 => hb.2 B A1 G1 H1 σ s1 hB at1 _ (wp_mono (wp_bind.mp q1) (fun y s2 q2 v2 A2 G2 H2 at2 st2 r2 => by
    obtain ⟨d, ed, q3⟩ := wp_ofOpt (wp_bind.mp q2)
    refine pr [x, y] d ed H2 H2 H2 [v1, v2] _ (Ex.refl _) ⟨.inl ((r1.later at1 st2 (by cases ra <;> rfl)).dq at2.sub), .inl (r2.dq at2.sub), trivial⟩ fun v G' H' g r => ?_
    have g' : Grow G2 H2 G2 H' := ⟨⟨Ex.refl _, fun b o e hn => ⟨(g.1.2 b o e hn).1, rfl⟩⟩, at2.sub.trans g.exH, fun _ _ e n => by rw [n] at e; cases e⟩
    cases d with
    | bool k =>
      cases r
      refine ⟨k, rfl, ?_⟩
      have q4 := wp_bind.mp q3
      have st := (st1.trans st2).gr g'
      cases k with
      | false => rw [if_neg Bool.false_ne_true]; exact hR _ _ (q4 A2 G2 H' (at2.grow g') st)
      | true =>
        rw [if_pos rfl]
        have q5 : ((StM.bind mc fun z => (StM.bind (StM.ofOpt (f' y z)) asB : Mo Bool)) s2).wp _ _ := q4
        refine hc.2 B A2 G2 H' σ s2 hB (at2.grow g') _ (wp_mono (wp_bind.mp q5) (fun z s4 q6 v4 A4 G4 H4 at4 st4 r4 => ?_) (xw_r st))
        obtain ⟨d2, ed2, q7⟩ := wp_ofOpt (wp_bind.mp q6)
        have r2' := (r2.later (A2 := A2) at2 (Grow.stp g') (by cases rb <;> rfl)).later (at2.grow g') st4 (by cases rb <;> rfl)
        refine pr' [y, z] d2 ed2 H4 H4 H4 [v2, v4] _ (Ex.refl _) ⟨.inl (r2'.dq at4.sub), .inl (r4.dq at4.sub), trivial⟩ fun v G5 H5 g5 r5 => ?_
        have g5' : Grow G4 H4 G4 H5 := ⟨⟨Ex.refl _, fun b o e hn => ⟨(g5.1.2 b o e hn).1, rfl⟩⟩, at4.sub.trans g5.exH, fun _ _ e n => by rw [n] at e; cases e⟩
        cases d2 with
        | bool k2 => cases r5; exact hR _ _ (q7 A4 G4 H5 (at4.grow g5') ((st.trans st4).gr g5'))
        | _ => exact q7.elim
    | _ => exact q3.elim) (xw_r st1))) fun _ _ h => h)
theorem tch_ {op op' : CmpOp} {rr rr' : R2} {f f' : U → U → Option U} (hop : OpR C.X (compareOp op) rr) (hop' : OpR C.X (compareOp op') rr') (pr : Pr C.X.K (dU C.X.K) (r2l rr) (a2 f)) (pr' : Pr C.X.K (dU C.X.K) (r2l rr') (a2 f')) (ha : EJ C Γ a ma [] ra Γ) (hb : EJ C Γ b mb [] rb Γ) (hc : EJ C Γ c mc [] rc Γ)
    (hm : lastMarks [op, op'] [b, c] = false := by with_unfolding_all rfl) : TJ C Γ (.Compare a [op, op'] [b, c] pos) (chM f f' ma mb mc) [] Γ := ⟨.refl, fun B A G H σ s hB at_ Q q =>
  ST.of (pt_chain hop hop' pe_se pe_se pe_se hm) (chain_core (R := fun x H' => ∃ k, x = .bl k ∧ Q k H') (fun b H h => ⟨b, rfl, h⟩) pr pr' ha hb hc hB at_ q)⟩
theorem tnot_ (h : TJ C Γ a n md Γ1) : TJ C Γ (.UnaryOp .Not a pos) (notM n) md Γ1 := ⟨h.1, fun B A G H σ s hB at_ Q q =>
  ST.of (pt_not pt_st) (h.2 B A G H σ s hB at_ _ (wp_mono (wp_bind.mp q) (fun u s1 q1 A' G' H' a1 st => q1 A' G' H' a1 st) fun _ _ h => h))⟩
theorem wor1_ (h : TJ C Γ a n md Γ1) : WJ C Γ (.BoolOp .Or [a] pos) n md Γ1 := ⟨h.1, fun B A G H σ s hB at_ Q q => SW.of (pw_or1 pt_st) (h.2 B A G H σ s hB at_ Q q)⟩
theorem wor_ (h : TJ C Γ a na md Γ1) (h2 : WJ C Γ1 (.BoolOp .Or (b :: rest) pos) nb md2 Γ1) : WJ C Γ (.BoolOp .Or (a :: b :: rest) pos) (orM na nb) (md ++ md2) Γ1 := ⟨h.1.trans h2.1, fun B A G H σ s hB at_ Q q =>
  SW.of (pw_or pt_st pw_sw) (h.2 B A G H σ s hB at_ _ (wp_mono (wp_bind.mp q) (fun k s1 q1 A1 G1 H1 at1 st1 => by
    cases k with
    | false =>
      rw [if_neg Bool.false_ne_true] at q1 ⊢
      exact h2.2 B A1 G1 H1 σ s1 hB at1 Q (wp_mono q1 (fun b s2 q2 A2 G2 H2 at2 st2 => q2 A2 G2 H2 at2 (st1.trans st2)) (xw_r st1))
    | true =>
      rw [if_pos rfl] at q1 ⊢
      exact q1 A1 G1 H1 at1 (st1.mono fun i hi => List.mem_append_left _ hi)) xw_l))⟩
theorem tw_ (h : WJ C Γ a n md Γ1) : TJ C Γ a n md Γ1 := ⟨h.1, fun B A G H σ s hB at_ Q q => ST.of pw_sw.pt (h.2 B A G H σ s hB at_ Q q)⟩
theorem bone_ {op} (h : BJ C Γ a n md Γ1) : BJ C Γ (.BoolOp op [a] pos) n md Γ1 := ⟨h.1, fun B A G H σ s hB at_ Q q => SE.of (pe_one pe_se) (h.2 B A G H σ s hB at_ Q q)⟩
theorem band_ (h : BJ C Γ a na md Γ1) (h2 : BJ C Γ1 (.BoolOp .And (b :: rest) pos) nb md2 Γ1) : BJ C Γ (.BoolOp .And (a :: b :: rest) pos) (andM na nb) (md ++ md2) Γ1 := ⟨h.1.trans h2.1, fun B A G H σ s hB at_ Q q =>
  SE.of (pe_and pe_se pe_se) (h.2 B A G H σ s hB at_ _ (wp_mono (wp_bind.mp q) (fun k s1 q1 A1 G1 H1 at1 st1 => by
    refine ⟨k, rfl, ?_⟩
    cases k with
    | true =>
      rw [if_pos rfl] at q1 ⊢
      exact h2.2 B A1 G1 H1 σ s1 hB at1 Q (wp_mono q1 (fun b s2 q2 A2 G2 H2 at2 st2 => q2 A2 G2 H2 at2 (st1.trans st2)) (xw_r st1))
    | false =>
      rw [if_neg Bool.false_ne_true] at q1 ⊢
      exact q1 A1 G1 H1 at1 (st1.mono fun i hi => List.mem_append_left _ hi)) xw_l))⟩
theorem bor_ (h : BJ C Γ a na md Γ1) (h2 : BJ C Γ1 (.BoolOp .Or (b :: rest) pos) nb md2 Γ1) : BJ C Γ (.BoolOp .Or (a :: b :: rest) pos) (orM na nb) (md ++ md2) Γ1 := ⟨h.1.trans h2.1, fun B A G H σ s hB at_ Q q =>
  SE.of (pe_or pe_se pe_se) (h.2 B A G H σ s hB at_ _ (wp_mono (wp_bind.mp q) (fun k s1 q1 A1 G1 H1 at1 st1 => by
    refine ⟨k, rfl, ?_⟩
    cases k with
    | false =>
      rw [if_neg Bool.false_ne_true] at q1 ⊢
      exact h2.2 B A1 G1 H1 σ s1 hB at1 Q (wp_mono q1 (fun b s2 q2 A2 G2 H2 at2 st2 => q2 A2 G2 H2 at2 (st1.trans st2)) (xw_r st1))
    | true =>
      rw [if_pos rfl] at q1 ⊢
      exact q1 A1 G1 H1 at1 (st1.mono fun i hi => List.mem_append_left _ hi)) xw_l))⟩
/-- a thing in hand is frozen -/
theorem fz_ (h : EJ C Γ e m md (.val k) Γ1) : EJ C Γ e m md (.val .f) Γ1 := ⟨h.1, fun B A G H σ s hB at_ Q q => SE.lk (h.2 B A G H σ s hB at_ _ (wp_mono q (fun u s1 q1 v A1 G1 H1 at1 st1 r1 pins sh I => by
  obtain ⟨F, o, t⟩ := r1
  have hM : ∀ b, F b → B.M b ∨ B.H0 b = none := fun b z => by
    rcases t.nw b z with ⟨j, _, w⟩ | w
    · exact (at_.own j b w).2.2
    · rcases at_.fresh w with w | w
      · exact .inr w.2
      · exact .inl w
  obtain ⟨H2, I2, lk⟩ := Inv.lockAll F I
  obtain ⟨G2, ex, off, at2, dq⟩ := at1.frzT o t.g (fun b z j => t.no b z j) hM lk
  refine ⟨H2, I2, q1 v A1 G2 H2 at2 ⟨st1.ex.trans ex, fun b ob e hn => ?_, st1.foot, st1.same⟩ (.frozen dq)⟩
  obtain ⟨h1, h2⟩ := st1.keep b ob e hn
  have nz : ¬ F b := fun z => by
    rcases t.nw b z with ⟨j, hj, w⟩ | w
    · exact hn j hj w
    · rw [e] at w; cases w
  exact ⟨(off b nz).2.trans h1, (off b nz).1.trans h2⟩) fun _ _ h => h))⟩
end
end V4
namespace V4
open PySem PySem.Spec PyProof.Rows L2 L3
def GJ (C : Ct) (Γ : List Mk) (t : TA) (m : Mo (List U)) (md : List Nat) (rs : List Rk) (Γ' : List Mk) : Prop :=
  Agr md Γ Γ' ∧ ∀ B A G H σ s, C.ok B → At C.X.K C.FM B Γ A G H σ s → ∀ Q : List V → Hp → Prop,
    (m s).wp (fun us s' => ∀ vs A' G' H' T, At C.X.K C.FM B Γ' A' G' H' σ s' → Stp md A A' G H G' H' s s' → PendAll C.X.K C.FM md A H A' G' H' σ s' rs vs us T → Q vs H') (Xw C md A G H σ) → t σ H Q
section
variable {K : PySem.W.Frag} {FM : FMap} {B : Bs} {Γ : List Mk} {A A' A2 : Foot} {G H G' H' G2 H2 : Hp} {σ : L2.St} {s s' s2 : S} {md md2 : List Nat}
theorem PendAll.tmp : ∀ {rs : List Rk} {vs : List V} {us : List U} {T : Fp}, PendAll K FM md A H A' G' H' σ s' rs vs us T → Tmp md A H A' G' H' T
  | [], [], [], T, h => Tmp.none h
  | .val k :: rs, v :: vs, u :: us, T, ⟨F, T', o, t, p, d, e⟩ => by
    have q := PendAll.tmp p
    refine ⟨fun a z => ?_, fun a z => ?_, fun a z => ?_⟩ <;> rcases (e a).mp z with z | z
    · exact t.g a z
    · exact q.g a z
    · exact t.no a z
    · exact q.no a z
    · exact t.nw a z
    · exact q.nw a z
  | .view i k :: rs, v :: vs, u :: us, T, ⟨_, p⟩ => PendAll.tmp (rs := rs) p
  | .slot i k :: rs, v :: vs, u :: us, T, ⟨_, p⟩ => PendAll.tmp (rs := rs) p
  | [], _ :: _, _, _, h => h.elim
  | [], [], _ :: _, _, h => h.elim
theorem PendAll.mono (a : ∀ i ∈ md, i ∈ md2) : ∀ {rs : List Rk} {vs : List V} {us : List U} {T : Fp}, PendAll K FM md A H A' G' H' σ s' rs vs us T → PendAll K FM md2 A H A' G' H' σ s' rs vs us T
  | [], [], [], T, h => h
  | .val k :: rs, v :: vs, u :: us, T, ⟨F, T', o, t, p, d, e⟩ => ⟨F, T', o, t.mono a, PendAll.mono a p, d, e⟩
  | .view i k :: rs, v :: vs, u :: us, T, ⟨q, p⟩ => ⟨q, PendAll.mono (rs := rs) a p⟩
  | .slot i k :: rs, v :: vs, u :: us, T, ⟨q, p⟩ => ⟨q, PendAll.mono (rs := rs) a p⟩
  | [], _ :: _, _, _, h => h.elim
  | [], [], _ :: _, _, h => h.elim
theorem PendAll.since (x : Stp md A A' G H G' H' s s') : ∀ {rs : List Rk} {vs : List V} {us : List U} {T : Fp}, PendAll K FM md2 A' H' A2 G2 H2 σ s2 rs vs us T → PendAll K FM (md ++ md2) A H A2 G2 H2 σ s2 rs vs us T
  | [], [], [], T, h => h
  | .val k :: rs, v :: vs, u :: us, T, ⟨F, T', o, t, p, d, e⟩ => ⟨F, T', o, t.since x, PendAll.since x p, d, e⟩
  | .view i k :: rs, v :: vs, u :: us, T, ⟨q, p⟩ => ⟨q, PendAll.since (rs := rs) x p⟩
  | .slot i k :: rs, v :: vs, u :: us, T, ⟨q, p⟩ => ⟨q, PendAll.since (rs := rs) x p⟩
  | [], _ :: _, _, _, h => h.elim
  | [], [], _ :: _, _, h => h.elim
theorem PendAll.later (a : At K FM B Γ A' G' H' σ s') (x : Stp md2 A' A2 G' H' G2 H2 s' s2) : ∀ {rs : List Rk} {vs : List V} {us : List U} {T : Fp}, (∀ r ∈ rs, r.off md2 = true) → PendAll K FM md A H A' G' H' σ s' rs vs us T → PendAll K FM md A H A2 G2 H2 σ s2 rs vs us T
  | [], [], [], T, _, h => h
  | .val k :: rs, v :: vs, u :: us, T, ho, ⟨F, T', o, t, p, d, e⟩ => by
    obtain ⟨t', o'⟩ := t.later o x
    exact ⟨F, T', o', t', PendAll.later a x (fun r hr => ho r (List.mem_cons_of_mem _ hr)) p, d, e⟩
  | .view i k :: rs, v :: vs, u :: us, T, ho, ⟨q, p⟩ => ⟨RkOk.later q a x (ho _ List.mem_cons_self), PendAll.later (rs := rs) a x (fun r hr => ho r (List.mem_cons_of_mem _ hr)) p⟩
  | .slot i k :: rs, v :: vs, u :: us, T, ho, ⟨q, p⟩ => ⟨RkOk.later q a x (ho _ List.mem_cons_self), PendAll.later (rs := rs) a x (fun r hr => ho r (List.mem_cons_of_mem _ hr)) p⟩
  | [], _ :: _, _, _, _, h => h.elim
  | [], [], _ :: _, _, _, h => h.elim
theorem PendAll.cons {r : Rk} {rs : List Rk} {v : V} {vs : List V} {u : U} {us : List U} {T : Fp} (a : At K FM B Γ A' G' H' σ s') (st : Stp md A A' G H G' H' s s') (h : RkOk K FM r md A H A' G' H' σ s' v u) (x : Stp md2 A' A2 G' H' G2 H2 s' s2) (p : PendAll K FM md2 A' H' A2 G2 H2 σ s2 rs vs us T) (hr : r.off md2 = true) :
    ∃ T', PendAll K FM (md ++ md2) A H A2 G2 H2 σ s2 (r :: rs) (v :: vs) (u :: us) T' := by
  have p' := p.since st
  cases r with
  | val k =>
    obtain ⟨F, o, t⟩ := h
    obtain ⟨t', o'⟩ := t.later o x
    refine ⟨fun a => F a ∨ T a, F, T, o', t'.mono fun i hi => List.mem_append_left _ hi, p', fun b z w => ?_, fun a => Iff.rfl⟩
    obtain ⟨ob, e⟩ := o.live b z
    rcases p.tmp.nw b w with ⟨j, _, q⟩ | q
    · exact t.no b z j q
    · rw [e] at q; cases q
  | view i k =>
    have := RkOk.later h a x hr
    exact ⟨T, this, p'⟩
  | slot i k =>
    have := RkOk.later h a x hr
    exact ⟨T, this, p'⟩
theorem PendAll.len : ∀ {rs : List Rk} {vs : List V} {us : List U} {T : Fp}, PendAll K FM md A H A' G' H' σ s' rs vs us T → vs.length = rs.length ∧ us.length = rs.length
  | [], [], [], T, h => ⟨rfl, rfl⟩
  | .val k :: rs, v :: vs, u :: us, T, ⟨F, T', o, t, p, d, e⟩ => by obtain ⟨a, b⟩ := PendAll.len p; exact ⟨by simp [a], by simp [b]⟩
  | .view i k :: rs, v :: vs, u :: us, T, ⟨q, p⟩ => by obtain ⟨a, b⟩ := PendAll.len (rs := rs) p; exact ⟨by simp [a], by simp [b]⟩
  | .slot i k :: rs, v :: vs, u :: us, T, ⟨q, p⟩ => by obtain ⟨a, b⟩ := PendAll.len (rs := rs) p; exact ⟨by simp [a], by simp [b]⟩
  | [], _ :: _, _, _, h => h.elim
  | [], [], _ :: _, _, h => h.elim
/-- all of one mark, in hand -/
theorem PendAll.kids {k : Mk} : ∀ {rs : List Rk} {vs : List V} {us : List U} {T : Fp}, (∀ r ∈ rs, r = .val k) → PendAll K FM md A H A' G' H' σ s' rs vs us T → ∃ ks, KL k vs us ks ∧ OwnAll K FM G' H' ks T
  | [], [], [], T, _, h => ⟨[], .nil, .nil h⟩
  | r :: rs, v :: vs, u :: us, T, ho, h => by
    have hr := ho r List.mem_cons_self
    subst hr
    obtain ⟨F, T', o, t, p, d, e⟩ := h
    obtain ⟨ks, k1, k2⟩ := PendAll.kids (fun r hr => ho r (List.mem_cons_of_mem _ hr)) p
    exact ⟨_, .cons k1, .cons o k2 d e⟩
  | [], _ :: _, _, _, _, h => h.elim
  | [], [], _ :: _, _, _, h => h.elim
  | .val _ :: _, [], _, _, _, h => h.elim
  | .view _ _ :: _, [], _, _, _, h => h.elim
  | .slot _ _ :: _, [], _, _, _, h => h.elim
  | .val _ :: _, _ :: _, [], _, _, h => h.elim
  | .view _ _ :: _, _ :: _, [], _, _, h => h.elim
  | .slot _ _ :: _, _ :: _, [], _, _, h => h.elim
theorem PendAll.dqs {rs : List Rk} {vs : List V} {us : List U} {T : Fp} (ho : ∀ r ∈ rs, r = .val .f) (h : PendAll K FM md A H A' G' H' σ s' rs vs us T) : DqAll K G' vs us := by
  obtain ⟨ks, k1, k2⟩ := h.kids ho
  exact k1.dq (k2.shal k1.marks).1
end
section
variable {C : Ct} {Γ Γ1 Γ2 Γ3 : List Mk} {e a b c : Expr} {es rest : List Expr} {pos p ps p2 : Pos} {x y : Str} {md md2 md3 : List Nat} {r ra rb rc : Rk} {rs : List Rk} {m ma mb mc : Mo U} {ms : Mo (List U)} {n na nb : Mo Bool} {i : Nat} {k : Mk} {t : TA}
def nilM : Mo (List U) := .pure []
def consM (a : Mo U) (b : Mo (List U)) : Mo (List U) := .bind a fun u => .bind b fun us => .pure (u :: us)
theorem gnil_ : GJ C Γ tNil nilM [] [] Γ := ⟨.refl, fun B A G H σ s hB at_ Q q => q [] A G H (fun _ => False) at_ .refl fun _ z => z⟩
theorem anil_ : GJ C Γ (SA C.X []) nilM [] [] Γ := ⟨.refl, fun B A G H σ s hB at_ Q q => SA.of pa_nil (q [] A G H (fun _ => False) at_ .refl fun _ z => z)⟩
/-- a receiver, then the rest -/
def tCons (X : Cx) (a : Expr) (t : TA) : TA := fun σ H Q => SE X a σ H fun x H1 => t σ H1 fun vs H2 => Q (x :: vs) H2
theorem gcons_ (h : EJ C Γ a ma md ra Γ1) (k : GJ C Γ1 t ms md2 rs Γ2) (ho : ra.off md2 = true := by rfl) : GJ C Γ (tCons C.X a t) (consM ma ms) (md ++ md2) (ra :: rs) Γ2 := ⟨h.1.trans k.1, fun B A G H σ s hB at_ Q q =>
  h.2 B A G H σ s hB at_ _ (wp_mono (wp_bind.mp q) (fun u s1 q1 v A1 G1 H1 at1 st1 r1 => k.2 B A1 G1 H1 σ s1 hB at1 _ (wp_mono (wp_bind.mp q1) (fun us s2 q2 vs A2 G2 H2 T at2 st2 p2 => by
    obtain ⟨T', p⟩ := PendAll.cons at1 st1 r1 st2 p2 ho
    exact q2 (v :: vs) A2 G2 H2 T' at2 (st1.trans st2) p) (xw_r st1))) xw_l)⟩
theorem acons_ (h : EJ C Γ a ma md ra Γ1) (k : GJ C Γ1 (SA C.X es) ms md2 rs Γ2) (ho : ra.off md2 = true := by rfl) (hs : starEach (a :: es) C.X.env = (false, eval a C.X.env) :: starEach es C.X.env := by rfl) : GJ C Γ (SA C.X (a :: es)) (consM ma ms) (md ++ md2) (ra :: rs) Γ2 := ⟨h.1.trans k.1, fun B A G H σ s hB at_ Q q =>
  SA.of (pa_cons pe_se pa_sa hs) ((gcons_ h k ho).2 B A G H σ s hB at_ Q q)⟩
theorem tmp_fresh {B : Bs} {A A1 : Foot} {G H G1 H1 G' : Hp} {σ : L2.St} {s s1 : S} {l : Addr} (at1 : At C.X.K C.FM B Γ1 A1 G1 H1 σ s1) (st1 : Stp md A A1 G H G1 H1 s s1) (hn : H1 l = none) (hg : G' l = none) {H' : Hp} : Tmp md A H A1 G' H' fun a => a = l := by
  refine ⟨fun b z => z ▸ hg, fun b z i w => ?_, fun b z => ?_⟩
  · subst z
    obtain ⟨o', e'⟩ := at1.live w
    rw [hn] at e'; cases e'
  · subst z
    cases e' : H b with
    | none => exact .inr rfl
    | some o' =>
      by_cases kk : ∃ j ∈ md, A j b
      · exact .inl kk
      · have := (st1.keep b o' e' fun i hi z => kk ⟨i, hi, z⟩).1
        rw [hn] at this; cases this
def tupM (ms : Mo (List U)) : Mo U := .bind ms fun us => .pure (.tuple us)
def lstM (ms : Mo (List U)) : Mo U := .bind ms fun us => .pure (.list us)
theorem tup_ {kk} (h : GJ C Γ (SA C.X es) ms md rs Γ1) (hr : rs.all (fun r => match r with | .val .f => true | _ => false) = true := by rfl) (hl : es.length ≤ 1000 := by decide) (hl2 : rs.length ≤ 1000 := by decide) : EJ C Γ (.Tuple es kk pos) (tupM ms) md (.val .f) Γ1 := ⟨h.1, fun B A G H σ s hB at_ Q q =>
  SE.of (pe_tup pa_sa) (h.2 B A G H σ s hB at_ _ (wp_mono (wp_bind.mp q) (fun us s1 q1 vs A1 G1 H1 T at1 st1 p1 => by
    have hz : sizeLine = 16777216 := sizeLine_eq
    have hv := p1.len
    have hd := p1.dqs fun r hr' => by
      have := List.all_eq_true.mp hr r hr'
      match r, this with
      | .val .f, _ => rfl
    refine ⟨by omega, fun l hl => ?_⟩
    have g := Grow.newF (o := .tup vs) at1.sub hl
    have hg : G1 l = none := Ex.back at1.sub hl
    exact q1 _ A1 _ _ (at1.grow g) (st1.gr g) (.frozen (.tup upd_same (dpAll_ex (Ex.new hg) _ _ hd)))) fun _ _ h => h))⟩
theorem own_new {K : PySem.W.Frag} {FM : FMap} {G H : Hp} {l : Addr} {o : HO} {u : U} {ks : List Kid} {T : Fp} (hk : Kids K FM k o u ks) (hT : OwnAll K FM G H ks T) (hn : H l = none) : Own K FM G (upd H l o) k (.ref l) u fun a => a = l ∨ T a :=
  .o upd_same hk (hT.frame (Ex.refl _) fun a ob z e => by rw [upd_ne (ne_of_none e hn)]; exact e) (fun z => by obtain ⟨ob, e⟩ := hT.live l z; rw [hn] at e; cases e) fun a => Iff.rfl
theorem Tmp.more {A A1 : Foot} {H G1 H1 H' : Hp} {l : Addr} {T : Fp} (a : Tmp md A H A1 G1 H1 T) (b : Tmp md A H A1 G1 H' fun a => a = l) : Tmp md A H A1 G1 H' fun a => a = l ∨ T a :=
  ⟨fun x z => z.elim (b.g x) (a.g x), fun x z => z.elim (b.no x) (a.no x), fun x z => z.elim (b.nw x) (a.nw x)⟩
theorem lst_ (k : Mk) (h : GJ C Γ (SA C.X es) ms md rs Γ1) (hr : rs.all (fun r => decide (r.mk = k) && (match r with | .val _ => true | _ => false)) = true := by rfl) (hl2 : rs.length ≤ 1000 := by decide) : EJ C Γ (.List es pos) (lstM ms) md (.val (.l k)) Γ1 := ⟨h.1, fun B A G H σ s hB at_ Q q =>
  SE.of (pe_lst pa_sa) (h.2 B A G H σ s hB at_ _ (wp_mono (wp_bind.mp q) (fun us s1 q1 vs A1 G1 H1 T at1 st1 p1 => by
    have hz : sizeLine = 16777216 := sizeLine_eq
    have hv := p1.len
    obtain ⟨ks, k1, k2⟩ := p1.kids (k := k) fun r hr' => by
      have := List.all_eq_true.mp hr r hr'
      simp only [Bool.and_eq_true, decide_eq_true_eq] at this
      obtain ⟨e, z⟩ := this
      cases r with
      | val k' => rw [show k' = k from e]
      | view _ _ => cases z
      | slot _ _ => cases z
    refine ⟨by omega, fun l hl => ?_⟩
    have g : Grow G1 H1 G1 (upd H1 l (.lst vs)) := Grow.new at1.sub hl
    have hg : G1 l = none := Ex.back at1.sub hl
    exact q1 _ A1 _ _ (at1.grow g) (st1.gr g) ⟨_, own_new (.l k1) k2 hl, p1.tmp.more (tmp_fresh at1 st1 hl hg)⟩) fun _ _ h => h))⟩
/-- {} -/
theorem dct0_ (k : Mk) : EJ C Γ (.Dict [] [] pos) (.pure (.dict [])) [] (.val (.d k)) Γ := ⟨.refl, fun B A G H σ s hB at_ Q q => by
  refine SE.of pe_dnewK fun l hl => ?_
  have g : Grow G H G (upd H l (.dK [])) := Grow.new at_.sub hl
  have hg : G l = none := Ex.back at_.sub hl
  exact q _ A _ _ (at_.grow g) (Stp.refl.gr g) ⟨_, own_new (T := fun _ => False) (.d .nil) (.nil fun _ z => z) hl, (Tmp.none (H' := H) fun _ z => z).more (tmp_fresh at_ .refl hl hg)⟩⟩
def PtJ (C : Ct) (Γ : List Mk) (o : Option Expr) (m : Mo (Option Int)) : Prop := ∃ t, PO C.X o t ∧ ∀ B A G H σ s, C.ok B → At C.X.K C.FM B Γ A G H σ s → ∀ Q : Option Int → Hp → Prop,
  (m s).wp (fun l s' => ∀ G' H', At C.X.K C.FM B Γ A G' H' σ s' → Stp [] A A G H G' H' s s' → Q l H') (Xw C [] A G H σ) → t σ H Q
def ptM (m : Mo U) : Mo (Option Int) := .bind m fun u => .bind (asI u) fun i => .pure (some i)
def slM (m : Mo U) (l h : Mo (Option Int)) : Mo U := .bind m fun x => .bind l fun l => .bind h fun h => .ofOpt (uCut x l h)
theorem ptn_ : PtJ C Γ none (.pure none) := ⟨_, po_none, fun B A G H σ s hB at_ Q q => q G H at_ .refl⟩
theorem stp_nil {A A' : Foot} {G H G' H' : Hp} {s s' : S} (x : Stp [] A A' G H G' H' s s') : A' = A := funext fun i => (x.same i (by simp)).1
theorem pts_ (h : EJ C Γ e m [] (.val .f) Γ) : PtJ C Γ (some e) (ptM m) := ⟨_, po_some pe_se, fun B A G H σ s hB at_ Q q => h.2 B A G H σ s hB at_ _ (wp_mono (wp_bind.mp q) (fun u s1 q1 v A1 G1 H1 a1 st1 r1 => by
  have := stp_nil st1
  subst this
  cases u with
  | int i => have r1 := r1.frz; cases r1; exact ⟨i, rfl, q1 G1 H1 a1 st1⟩
  | _ => exact q1.elim) fun _ _ h => h)⟩
theorem sl_ {lo hi : Option Expr} {ml mh : Mo (Option Int)} (ha : EJ C Γ a ma md ra Γ1) (hl : PtJ C Γ1 lo ml) (hh : PtJ C Γ1 hi mh) (h1 : shal ra.mk = true := by rfl) :
    EJ C Γ (.Subscript a (.Slice lo hi none p2) pos) (slM ma ml mh) md (.val .f) Γ1 := ⟨ha.1, fun B A G H σ s hB at_ Q q => by
  obtain ⟨tl, pl, hl⟩ := hl
  obtain ⟨th, ph, hh⟩ := hh
  refine SE.of (pe_slice sl_u pe_se pl ph) (ha.2 B A G H σ s hB at_ _ (wp_mono (wp_bind.mp q) (fun x s1 q1 v A1 G1 H1 a1 st1 r1 => ?_) fun _ _ h => h))
  have xr : ∀ {A' : Foot} {G' H' : Hp} {s' : S}, Stp md A A' G H G' H' s s' → ∀ e s, Xw C md A G H σ e s → Xw C [] A' G' H' σ e s := fun x e s h c d G2 H2 y => h c d G2 H2 ((XStp.after x y).mono fun i hi => by simpa using hi)
  refine hl B A1 G1 H1 σ s1 hB a1 _ (wp_mono (wp_bind.mp q1) (fun l s2 q2 G2 H2 a2 st2 => ?_) (xr st1))
  have st12 : Stp md A A1 G H G2 H2 s s2 := (st1.trans st2).mono fun i hi => by simpa using hi
  refine hh B A1 G2 H2 σ s2 hB a2 _ (wp_mono (wp_bind.mp q2) (fun h s3 q3 G3 H3 a3 st3 => ?_) (xr st12))
  obtain ⟨d, ed, q4⟩ := wp_ofOpt q3
  have r3 := ((r1.later a1 st2 (by cases ra <;> rfl)).later a2 st3 (by cases ra <;> rfl)).bow h1
  exact cut_run ed a3.sub r3 fun v2 G4 H4 g4 r4 => q4 v2 A1 G4 H4 (a3.grow g4) (((st12.trans st3).mono fun i hi => by simpa using hi).gr g4) (.frozen r4)⟩
end
end V4
namespace V4
open PySem PySem.Spec PyProof.Rows L2 L3
inductive PK where
  | ix (k : U) | fld (f : Str)
def replK {κ : Type} [DecidableEq κ] (k : κ) (v : U) : List (κ × U) → List (κ × U)
  | [] => []
  | (k', u) :: r => if k' = k then (k', v) :: r else (k', u) :: replK k v r
def replF (f : Str) (v : U) : List (Str × U) → List (Str × U)
  | [] => []
  | (g, u) :: r => if f == g then (g, v) :: r else (g, u) :: replF f v r
def getK : PK → U → Option U
  | .ix (.int i), .list us => atI us i
  | .ix (.int i), .tuple us => atI us i
  | .ix k, .dict kvs => (keyU k).bind (valU kvs)
  | .fld f, .ins _ fs => fs.lookup f
  | _, _ => none
def setK : PK → U → U → Option U
  | .ix (.int i), .list us, v => (ixN us.length i).map fun j => .list (us.set j v)
  | .ix (.int i), .tuple us, v => (ixN us.length i).map fun j => .tuple (us.set j v)
  | .ix k, .dict kvs, v => (keyU k).map fun k => .dict (replK k v kvs)
  | .fld f, .ins c fs, v => some (.ins c (replF f v fs))
  | _, _, _ => none
def mkK (FM : FMap) : Mk → PK → Option Mk
  | .l m, .ix (.int _) => some m
  | .d m, .ix _ => some m
  | .t a _, .ix (.int 0) => some a
  | .t _ b, .ix (.int 1) => some b
  | .i c, .fld f => some (FM c f)
  | _, _ => none
/-- paths: the last step first -/
def getP : List PK → U → Option U
  | [], u => some u
  | k :: p, u => (getP p u).bind (getK k)
def setP : List PK → U → U → Option U
  | [], _, v => some v
  | k :: p, u, v => (getP p u).bind fun w => (setK k w v).bind (setP p u)
def InOb : HO → PK → V → Prop
  | .lst vs, .ix (.int i), v => atI vs i = some v
  | .tup vs, .ix (.int i), v => atI vs i = some v
  | .dK kvs, .ix k, v => ∃ kk, keyU k = some kk ∧ valV kvs kk = some v
  | .ins _ _ fs, .fld f, v => fs.lookup f = some v
  | _, _, _ => False
section
variable {K : PySem.W.Frag} {FM : FMap} {G H G' H' : Hp}
theorem OwnAll.focus : ∀ {ks : List Kid} {B : Fp} {j : Nat} {m : Mk} {v : V} {u : U}, OwnAll K FM G H ks B → ks[j]? = some (m, v, u) → ∃ F, Own K FM G H m v u F ∧ (∀ a, F a → B a) ∧
    ∀ (G2 H2 : Hp) (u2 : U) (F2 : Fp), Ex G G2 → (∀ a o, B a → ¬ F a → H a = some o → H2 a = some o) → Own K FM G2 H2 m v u2 F2 → (∀ a, F2 a → F a ∨ ¬ B a) → OwnAll K FM G2 H2 (ks.set j (m, v, u2)) fun a => (B a ∧ ¬ F a) ∨ F2 a
  | _, _, j, _, _, _, .nil hn, e => by simp at e
  | _, _, 0, m, v, u, .cons (A := A) (B := B) h1 h2 h3 h4, e => by
    simp at e
    obtain ⟨rfl, rfl, rfl⟩ := e
    refine ⟨A, h1, fun a z => (h4 a).mpr (.inl z), fun G2 H2 u2 F2 ex k o f => ?_⟩
    refine .cons o (h2.frame ex fun a o z e => k a o ((h4 a).mpr (.inr z)) (fun q => h3 a q z) e) (fun a z w => ?_) fun a => ⟨fun z => ?_, fun z => ?_⟩
    · rcases f a z with q | q
      · exact h3 a q w
      · exact q ((h4 a).mpr (.inr w))
    · rcases z with ⟨z, q⟩ | z
      · rcases (h4 a).mp z with z | z
        · exact absurd z q
        · exact .inr z
      · exact .inl z
    · rcases z with z | z
      · exact .inr z
      · exact .inl ⟨(h4 a).mpr (.inr z), fun q => h3 a q z⟩
  | _, _, j + 1, m, v, u, .cons (A := A) (B := B) h1 h2 h3 h4, e => by
    obtain ⟨F, o, fs, w⟩ := OwnAll.focus (j := j) h2 (by simpa using e)
    refine ⟨F, o, fun a z => (h4 a).mpr (.inr (fs a z)), fun G2 H2 u2 F2 ex k o2 f => ?_⟩
    have nAF : ∀ a, A a → ¬ F a := fun a z q => h3 a z (fs a q)
    have w' := w G2 H2 u2 F2 ex (fun a o z q e => k a o ((h4 a).mpr (.inr z)) q e) o2 fun a z => (f a z).imp id fun q z => q ((h4 a).mpr (.inr z))
    refine .cons (h1.frame ex fun a o z e => k a o ((h4 a).mpr (.inl z)) (nAF a z) e) w' (fun a z q => ?_) fun a => ⟨fun z => ?_, fun z => ?_⟩
    · rcases q with ⟨q, _⟩ | q
      · exact h3 a z q
      · rcases f a q with q | q
        · exact nAF a z q
        · exact q ((h4 a).mpr (.inl z))
    · rcases z with ⟨z, q⟩ | z
      · rcases (h4 a).mp z with z | z
        · exact .inl z
        · exact .inr (.inl ⟨z, q⟩)
      · exact .inr (.inr z)
    · rcases z with z | z | z
      · exact .inl ⟨(h4 a).mpr (.inl z), nAF a z⟩
      · exact .inl ⟨(h4 a).mpr (.inr z.1), z.2⟩
      · exact .inr z
theorem KL.at {m : Mk} : ∀ {vs : List V} {us : List U} {ks : List Kid} {j : Nat} {u : U}, KL m vs us ks → us[j]? = some u → ∃ v, vs[j]? = some v ∧ ks[j]? = some (m, v, u) ∧ ∀ u2, KL m vs (us.set j u2) (ks.set j (m, v, u2))
  | _, _, _, _, _, .nil, e => by simp at e
  | _, _, _, 0, _, .cons h, e => by simp at e; subst e; exact ⟨_, rfl, rfl, fun u2 => .cons h⟩
  | _, _, _, j + 1, _, .cons h, e => by
    obtain ⟨v, a, b, c⟩ := KL.at (j := j) h (by simpa using e)
    exact ⟨v, by simpa using a, by simpa using b, fun u2 => .cons (c u2)⟩
theorem KL.len {m : Mk} : ∀ {vs : List V} {us : List U} {ks : List Kid}, KL m vs us ks → vs.length = us.length ∧ ks.length = us.length
  | _, _, _, .nil => ⟨rfl, rfl⟩
  | _, _, _, .cons h => by obtain ⟨a, b⟩ := KL.len h; simp [a, b]
theorem KD.at {κ : Type} [DecidableEq κ] {m : Mk} {k : κ} : ∀ {vs : List (κ × V)} {us : List (κ × U)} {ks : List Kid} {u : U}, KD m vs us ks → valU us k = some u → ∃ j v, valV vs k = some v ∧ ks[j]? = some (m, v, u) ∧ ∀ u2, KD m vs (replK k u2 us) (ks.set j (m, v, u2))
  | _, _, _, _, .nil, e => by simp [valU] at e
  | _, _, _, u, .cons (k := k0) (v := v0) (u := u0) h, e => by
    unfold valU at e
    rw [List.find?_cons] at e
    by_cases hk : k0 = k
    · subst hk
      simp at e
      subst e
      refine ⟨0, v0, ?_, rfl, fun u2 => ?_⟩
      · unfold valV; rw [List.find?_cons]; simp
      · rw [replK, if_pos rfl]; exact .cons h
    · simp [hk] at e
      obtain ⟨j, v, a, b, c⟩ := KD.at (k := k) (u := u) h (by unfold valU; simpa using e)
      refine ⟨j + 1, v, ?_, by simpa using b, fun u2 => ?_⟩
      · unfold valV at a ⊢; rw [List.find?_cons]; simpa [hk] using a
      · rw [replK, if_neg hk]; exact .cons (c u2)
theorem KF.at {fm : Str → Mk} {f : Str} : ∀ {vs : List (Str × V)} {us : List (Str × U)} {ks : List Kid} {u : U}, KF fm vs us ks → us.lookup f = some u → ∃ j v, vs.lookup f = some v ∧ ks[j]? = some (fm f, v, u) ∧ ∀ u2, KF fm vs (replF f u2 us) (ks.set j (fm f, v, u2))
  | _, _, _, _, .nil, e => by simp at e
  | _, _, _, u, .cons (k := k0) (v := v0) (u := u0) h, e => by
    rw [List.lookup_cons] at e
    cases hk : f == k0 with
    | true =>
      rw [hk] at e
      cases e
      have hf : f = k0 := by simpa using hk
      subst hf
      refine ⟨0, v0, ?_, rfl, fun u2 => ?_⟩
      · rw [List.lookup_cons, hk]
      · rw [replF, if_pos hk]; exact .cons h
    | false =>
      rw [hk] at e
      obtain ⟨j, v, a, b, c⟩ := KF.at (f := f) h e
      refine ⟨j + 1, v, ?_, by simpa using b, fun u2 => ?_⟩
      · rw [List.lookup_cons, hk]; exact a
      · rw [replF, if_neg (by rw [hk]; exact Bool.false_ne_true)]; exact .cons (c u2)
/-- a child, and what is put in its stead -/
structure Dec (K : PySem.W.Frag) (FM : FMap) (G H : Hp) (m : Mk) (v : V) (u : U) (A : Fp) (p : List PK) (m1 : Mk) (v1 : V) (u1 : U) (F : Fp) : Prop where
  own : Own K FM G H m1 v1 u1 F
  sub : ∀ a, F a → A a
  get : getP p u = some u1
  wand : ∀ (G2 H2 : Hp) (u2 : U) (F2 : Fp), Ex G G2 → (∀ a o, A a → ¬ F a → H a = some o → H2 a = some o) → Own K FM G2 H2 m1 v1 u2 F2 → (∀ a, F2 a → F a ∨ ¬ A a) → ∃ r, setP p u u2 = some r ∧ Own K FM G2 H2 m v r fun a => (A a ∧ ¬ F a) ∨ F2 a
theorem Dec.root {m : Mk} {v : V} {u : U} {A : Fp} (h : Own K FM G H m v u A) : Dec K FM G H m v u A [] m v u A :=
  ⟨h, fun _ z => z, rfl, fun G2 H2 u2 F2 ex k o f => ⟨u2, rfl, o.fp fun a => ⟨fun z => z.elim (fun z => absurd z.1 z.2) id, .inr⟩⟩⟩
theorem Own.fin {m m1 : Mk} {l : Addr} {ob : HO} {ks : List Kid} {B A : Fp} {k : PK} {u u1 : U} (h1 : H l = some ob) (h3 : OwnAll K FM G H ks B) (h4 : ¬ B l) (h5 : ∀ a, A a ↔ a = l ∨ B a) {j : Nat} {v1 : V} (hin : InOb ob k v1) (hj : ks[j]? = some (m1, v1, u1)) (hk : ∀ u2, ∃ r, setK k u u2 = some r ∧ Kids K FM m ob r (ks.set j (m1, v1, u2))) :
    ∃ l' ob' v1 F, V.ref l = .ref l' ∧ H l' = some ob' ∧ A l' ∧ ¬ F l' ∧ InOb ob' k v1 ∧ Own K FM G H m1 v1 u1 F ∧ (∀ a, F a → A a) ∧
      ∀ (G2 H2 : Hp) (u2 : U) (F2 : Fp), Ex G G2 → (∀ a o, A a → ¬ F a → H a = some o → H2 a = some o) → Own K FM G2 H2 m1 v1 u2 F2 → (∀ a, F2 a → F a ∨ ¬ A a) → ∃ r, setK k u u2 = some r ∧ Own K FM G2 H2 m (.ref l) r fun a => (A a ∧ ¬ F a) ∨ F2 a := by
  obtain ⟨F, o, fs, w⟩ := h3.focus hj
  have nFl : ¬ F l := fun z => h4 (fs l z)
  refine ⟨l, ob, v1, F, rfl, h1, (h5 l).mpr (.inl rfl), nFl, hin, o, fun a z => (h5 a).mpr (.inr (fs a z)), fun G2 H2 u2 F2 ex kk o2 f => ?_⟩
  obtain ⟨r, hr, hkid⟩ := hk u2
  have nF2l : ¬ F2 l := fun z => (f l z).elim nFl fun q => q ((h5 l).mpr (.inl rfl))
  refine ⟨r, hr, .o (kk l ob ((h5 l).mpr (.inl rfl)) nFl h1) hkid (w G2 H2 u2 F2 ex (fun a o z q e => kk a o ((h5 a).mpr (.inr z)) q e) o2 fun a z => (f a z).imp id fun q z => q ((h5 a).mpr (.inr z))) (fun z => z.elim (fun z => h4 z.1) nF2l) fun a => ⟨fun z => ?_, fun z => ?_⟩⟩
  · rcases z with ⟨z, q⟩ | z
    · rcases (h5 a).mp z with z | z
      · exact .inl z
      · exact .inr (.inl ⟨z, q⟩)
    · exact .inr (.inr z)
  · rcases z with z | z | z
    · subst z; exact .inl ⟨(h5 _).mpr (.inl rfl), nFl⟩
    · exact .inl ⟨(h5 a).mpr (.inr z.1), z.2⟩
    · exact .inr z
theorem Own.step {m m1 : Mk} {v : V} {u u1 : U} {A : Fp} {k : PK} (h : Own K FM G H m v u A) (e : getK k u = some u1) (hm : mkK FM m k = some m1) :
    ∃ l ob v1 F, v = .ref l ∧ H l = some ob ∧ A l ∧ ¬ F l ∧ InOb ob k v1 ∧ Own K FM G H m1 v1 u1 F ∧ (∀ a, F a → A a) ∧
      ∀ (G2 H2 : Hp) (u2 : U) (F2 : Fp), Ex G G2 → (∀ a o, A a → ¬ F a → H a = some o → H2 a = some o) → Own K FM G2 H2 m1 v1 u2 F2 → (∀ a, F2 a → F a ∨ ¬ A a) → ∃ r, setK k u u2 = some r ∧ Own K FM G2 H2 m v r fun a => (A a ∧ ¬ F a) ∨ F2 a := by
  cases h with
  | f hd hn => cases k with
    | ix k => cases k <;> exact nomatch hm
    | fld f => exact nomatch hm
  | q0 => cases k with
    | ix k => cases k <;> exact nomatch hm
    | fld f => exact nomatch hm
  | q1 => cases k with
    | ix k => cases k <;> exact nomatch hm
    | fld f => exact nomatch hm
  | p0 => cases k with
    | ix k => cases k <;> exact nomatch hm
    | fld f => exact nomatch hm
  | p1 => cases k with
    | ix k => cases k <;> exact nomatch hm
    | fld f => exact nomatch hm
  | @o _ l ob _ ks _ B h1 h2 h3 h4 h5 =>
    cases h2 with
    | @l m0 vs us ks kl =>
      match k, hm, e with
      | .ix (.int i), hm, e =>
        cases hm
        have e : atI us i = some u1 := e
        unfold atI at e
        obtain ⟨j, hj, e⟩ := Option.bind_eq_some_iff.mp e
        obtain ⟨v1, a, b, c⟩ := kl.at e
        exact Own.fin h1 h3 h4 h5 (j := j) (v1 := v1) (show atI vs i = some v1 by unfold atI; rw [kl.len.1, hj]; exact a) b fun u2 => ⟨.list (us.set j u2), by show (ixN us.length i).map _ = _; rw [hj]; rfl, .l (c u2)⟩
    | @d m0 vs us ks kd =>
      match k, hm, e with
      | .ix kk, hm, e =>
        cases hm
        have e : (keyU kk).bind (valU us) = some u1 := by
          cases kk <;> exact e
        obtain ⟨key, hkk, e⟩ := Option.bind_eq_some_iff.mp e
        obtain ⟨j, v1, a, b, c⟩ := kd.at e
        exact Own.fin h1 h3 h4 h5 (j := j) (v1 := v1) ⟨key, hkk, a⟩ b fun u2 => ⟨.dict (replK key u2 us), by
          have : (keyU kk).map (fun k => U.dict (replK k u2 us)) = some (.dict (replK key u2 us)) := by rw [hkk]; rfl
          cases kk <;> exact this, .d (c u2)⟩
    | @dt m0 vs us ks kd =>
      match k, hm, e with
      | .ix kk, hm, e => cases kk <;> cases e
    | @t a b v w x y =>
      match k, hm, e with
      | .ix (.int 0), hm, e =>
        cases hm
        have e : atI [x, y] 0 = some u1 := e
        have : u1 = x := by simp [atI, ixN] at e; exact e.symm
        subst this
        exact Own.fin h1 h3 h4 h5 (j := 0) (v1 := v) (show atI [v, w] 0 = some v by simp [atI, ixN]) rfl fun u2 => ⟨.tuple [u2, y], by simp [setK, ixN], .t⟩
      | .ix (.int 1), hm, e =>
        cases hm
        have e : atI [x, y] 1 = some u1 := e
        have : u1 = y := by simp [atI, ixN] at e; exact e.symm
        subst this
        exact Own.fin h1 h3 h4 h5 (j := 1) (v1 := w) (show atI [v, w] 1 = some w by simp [atI, ixN]) rfl fun u2 => ⟨.tuple [x, u2], by simp [setK, ixN], .t⟩
    | w kl => cases k with
      | ix k => cases k <;> exact nomatch hm
      | fld f => exact nomatch hm
    | ek ke => cases k with
      | ix k => cases k <;> exact nomatch hm
      | fld f => exact nomatch hm
    | @i c dx vs us ks kf =>
      match k, hm, e with
      | .fld ff, hm, e =>
        cases hm
        have e : us.lookup ff = some u1 := e
        obtain ⟨j, v1, a, b, c⟩ := kf.at e
        exact Own.fin h1 h3 h4 h5 (j := j) (v1 := v1) a b fun u2 => ⟨.ins _ (replF ff u2 us), rfl, .i (c u2)⟩
theorem Dec.step {m m1 m2 : Mk} {v v1 : V} {u u1 u2 : U} {A F : Fp} {p : List PK} {k : PK} (d : Dec K FM G H m v u A p m1 v1 u1 F) (e : getK k u1 = some u2) (hm : mkK FM m1 k = some m2) :
    ∃ l ob v2 F2, v1 = .ref l ∧ H l = some ob ∧ InOb ob k v2 ∧ Dec K FM G H m v u A (k :: p) m2 v2 u2 F2 := by
  obtain ⟨l, ob, v2, F2, ev, hl, hAl, hFl, hin, o, fs, w⟩ := d.own.step e hm
  refine ⟨l, ob, v2, F2, ev, hl, hin, o, fun a z => d.sub a (fs a z), by show (getP p u).bind _ = _; rw [d.get]; exact e, fun G2 H2 u3 F3 ex kk o3 f => ?_⟩
  obtain ⟨r, hr, o4⟩ := w G2 H2 u3 F3 ex (fun a o z q e => kk a o (d.sub a z) q e) o3 fun a z => (f a z).imp id fun q z => q (d.sub a z)
  have f4 : ∀ a, (F a ∧ ¬ F2 a) ∨ F3 a → F a ∨ ¬ A a := fun a z => z.elim (fun z => .inl z.1) fun z => (f a z).imp (fs a) id
  obtain ⟨r2, hr2, o5⟩ := d.wand G2 H2 r _ ex (fun a o z q e => kk a o z (fun y => q (fs a y)) e) o4 f4
  refine ⟨r2, by show (getP p u).bind _ = _; rw [d.get]; show (setK k u1 u3).bind _ = _; rw [hr]; exact hr2, o5.fp fun a => ⟨fun z => ?_, fun z => ?_⟩⟩
  · rcases z with ⟨z, q⟩ | z
    · by_cases y : F a
      · exact .inr (.inl ⟨y, q⟩)
      · exact .inl ⟨z, y⟩
    · exact .inr (.inr z)
  · rcases z with ⟨z, q⟩ | ⟨z, q⟩ | z
    · exact .inl ⟨z, fun y => q (fs a y)⟩
    · exact .inl ⟨d.sub a z, q⟩
    · exact .inr z
theorem Dec.frame {m m1 : Mk} {v v1 : V} {u u1 : U} {A F : Fp} {p : List PK} (d : Dec K FM G H m v u A p m1 v1 u1 F) (ex : Ex G G') (k : ∀ a o, A a → H a = some o → H' a = some o) : Dec K FM G' H' m v u A p m1 v1 u1 F where
  own := d.own.frame ex fun a o z e => k a o (d.sub a z) e
  sub := d.sub
  get := d.get
  wand := fun G2 H2 u2 F2 ex2 kk o f => d.wand G2 H2 u2 F2 (ex.trans ex2) (fun a o z q e => kk a o z q (k a o z e)) o f
end
def PJ (C : Ct) (Γ : List Mk) (e : Expr) (m : Mo (List PK)) (i : Nat) (k : Mk) : Prop :=
  ∀ B A G H σ s, C.ok B → At C.X.K C.FM B Γ A G H σ s → ∀ Q : VK,
    (m s).wp (fun p s' => ∀ v G' H' m0 v0 u0 u F, At C.X.K C.FM B Γ A G' H' σ s' → Stp [] A A G H G' H' s s' → Γ[i]? = some m0 → m0 ≠ .n → σ[i]? = some (some v0) → s'[i]? = some u0 → Dec C.X.K C.FM G' H' m0 v0 u0 (A i) p k v u F → Q v H') (Xw C [] A G H σ) → SE C.X e σ H Q
section
variable {C : Ct} {Γ Γ1 Γ2 : List Mk} {e a b c : Expr} {es : List Expr} {pos p ps p2 : Pos} {x y f : Str} {md md2 : List Nat} {r : Rk} {m mb : Mo U} {pm : Mo (List PK)} {i : Nat} {k k1 : Mk}
theorem pv_ (i : Nat) (k : Mk) (h : Γ[i]? = some k := by rfl) (hk : k ≠ .n := by decide) (hN : C.X.N[i]? = some x := by rfl) (hv : Vis C.X.env.scope x := by first | exact Or.inl rfl | exact Or.inr (Or.inl rfl) | exact Or.inr (Or.inr rfl)) (hd : (x == ("__debug__" : Str)) = false := by decide) (hcd : (x == ("__classdict__" : Str)) = false := by decide) :
    PJ C Γ (.Name x pos) (.pure []) i k := fun B A G H σ s hB a Q q => by
  obtain ⟨v, u, e1, e2, o⟩ := a.slot i k h hk
  exact SE.of (pe_var hN hv hd hcd) ⟨v, e1, q v G H k v u u (A i) a .refl h hk e1 e2 (.root o)⟩
def pixM (i : Nat) (pm : Mo (List PK)) (mb : Mo U) (all : Bool) : Mo (List PK) := .bind pm fun p => .bind mb fun b s => match s[i]? with
  | some u => match getP (.ix b :: p) u with
    | some _ => .ok (.ix b :: p) s
    | none => .stuck
  | none => .stuck
theorem pkey_ (hu : C.X.A.units + 1 < cLine) (hp : PJ C Γ a pm i k) (hb : EJ C Γ b mb [] (.val .f) Γ) (hs : NoSl b) (hk : (match k with | .d m => decide (m = k1) | _ => false) = true := by rfl) : PJ C Γ (.Subscript a b pos) (pixM i pm mb false) i k1 := fun B A G H σ s hB at_ Q q =>
  SE.of (pe_dget hu pe_se pe_se hs) (hp B A G H σ s hB at_ _ (wp_mono (wp_bind.mp q) (fun p s1 q1 v1 G1 H1 m0 v0 u0 u1 F1 a1 st1 g0 gn f0 f1 d1 => hb.2 B A G1 H1 σ s1 hB a1 _ (wp_mono (wp_bind.mp q1) (fun y s2 q2 v2 A2 G2 H2 a2 st2 r2 => by
    have := stp_nil st2
    subst this
    have e2 : s2[i]? = some u0 := by rw [(st2.same i (by simp)).2]; exact f1
    cases k with
    | d m =>
      have hk : m = k1 := by simpa using hk
      subst hk
      have d2 := d1.frame st2.ex fun b o z e => (st2.keep b o e fun _ h => by simp at h).1
      simp only [e2] at q2
      cases eg : getP (.ix y :: p) u0 with
      | none => rw [eg] at q2; exact q2.elim
      | some u2 =>
          rw [eg] at q2
          have eg' : getK (.ix y) u1 = some u2 := by
            have : (getP p u0).bind (getK (.ix y)) = some u2 := eg
            rw [d1.get] at this; exact this
          obtain ⟨l, ob, vv, F2, ev, hl, hin, d3⟩ := d2.step (m2 := m) eg' rfl
          subst ev
          have r2 := r2.frz
          have o := d2.own
          cases o with
          | o h1 h2 _ _ _ =>
            rw [hl] at h1
            cases h1
            cases h2 with
            | d kd =>
              obtain ⟨kk, hkk, hv⟩ := hin
              have := keyU_v hkk r2
              subst this
              refine ⟨l, vv, rfl, ?_, q2 vv G2 H2 m0 v0 u0 u2 F2 a2 ((st1.trans st2).mono fun i hi => by simpa using hi) g0 gn f0 e2 d3⟩
              rw [← hv]
              exact DGet.k hl
            | dt kd => cases y <;> cases eg'
    | _ => exact nomatch hk) (xw_r st1))) fun _ _ h => h))
def pfldM (cn f : Str) (i : Nat) (pm : Mo (List PK)) : Mo (List PK) := .bind pm fun p s => match s[i]? with
  | some u => match getP p u with
    | some (.ins c fs) => if c = cn ∧ (fs.lookup f).isSome then .ok (.fld f :: p) s else .stuck
    | _ => .stuck
  | none => .stuck
theorem pfld_ {cn : Str} (hc : Cls C.X.K (clsAt C.X.K cn)) (hn : NoAttr C.X.K (clsAt C.X.K cn) f) (hp : PJ C Γ a pm i (.i cn)) (hk : C.FM cn f = k1 := by rfl) (hb : attributeBase a f C.X.env (eval a C.X.env) = eval a C.X.env := by rfl) : PJ C Γ (.Attribute a f pos) (pfldM cn f i pm) i k1 := fun B A G H σ s hB at_ Q q =>
  SE.of (pe_fld pe_se hb) (hp B A G H σ s hB at_ _ (wp_mono (wp_bind.mp q) (fun p s1 q1 v1 G1 H1 m0 v0 u0 u1 F1 a1 st1 g0 gn f0 f1 d1 => by
    subst hk
    simp only [f1, d1.get] at q1
    cases u1 with
    | ins c fs =>
        simp only at q1
        split at q1
        · rename_i hcf
          obtain ⟨rfl, hl⟩ := hcf
          obtain ⟨u2, eg⟩ := Option.isSome_iff_exists.mp hl
          obtain ⟨l, ob, vv, F2, ev, hl, hin, d3⟩ := d1.step (k := .fld f) eg rfl
          subst ev
          have o := d1.own
          cases o with
          | o h1 h2 _ _ _ =>
            rw [hl] at h1
            cases h1
            cases h2 with
            | i kf => exact ⟨l, _, _, _, vv, rfl, hl, hc, hn, hin, q1 vv G1 H1 m0 v0 u0 u2 F2 a1 st1 g0 gn f0 f1 d3⟩
        · exact q1.elim
    | _ => exact q1.elim) fun _ _ h => h))
/-- what stands at a place, read -/
def rdM (i : Nat) (pm : Mo (List PK)) : Mo U := .bind pm fun p s => match s[i]? with
  | some u => match getP p u with
    | some w => .ok w s
    | none => .stuck
  | none => .stuck
theorem rd_ (hp : PJ C Γ e pm i k) : EJ C Γ e (rdM i pm) [] (.view i k) Γ := ⟨.refl, fun B A G H σ s hB at_ Q q => hp B A G H σ s hB at_ Q (wp_mono (wp_bind.mp q) (fun p s1 q1 v1 G1 H1 m0 v0 u0 u1 F1 a1 st1 g0 gn f0 f1 d1 => by
  have q1 : Out.wp (match s1[i]? with
    | some u => match getP p u with
      | some w => Out.ok w s1
      | none => .stuck
    | none => .stuck) _ _ := q1
  rw [f1] at q1
  simp only [d1.get] at q1
  exact q1 v1 A G1 H1 a1 st1 ⟨F1, d1.own, d1.sub⟩) fun _ _ h => h)⟩
/-- a frozen part -/
theorem frd_ (h : EJ C Γ e m md (.view i .f) Γ1) : EJ C Γ e m md (.val .f) Γ1 := ⟨h.1, fun B A G H σ s hB at_ Q q => h.2 B A G H σ s hB at_ Q (wp_mono q (fun u s1 q1 v1 A1 G1 H1 a1 st1 r1 => by
  obtain ⟨F, o, _⟩ := r1
  cases o with
  | f hd _ => exact q1 v1 A1 G1 H1 a1 st1 (.frozen hd)
  | o _ hk => cases hk) fun _ _ h => h)⟩
end
end V4
namespace V4
open PySem PySem.Spec PyProof.Rows L2 L3
/-- what a def hands back: its mark, and the parameters that are changed for the caller, with theirs -/
structure Rt where
  k : Mk
  L : List (Nat × Mk)
abbrev XsW (C : Ct) (md : List Nat) (A : Foot) (G H : Hp) (σ : L2.St) : Err → S → Prop := fun e _ => ∀ c d σ' G' H', XStp md A G H G' H' → (∀ i, i ∉ md → σ'[i]? = σ[i]?) → σ'.length = σ.length → ErrOk C.X.K (clsAt C.X.K) e c d G' → C.W c d σ' H'
def FlK (C : Ct) (R : Rt) (B : Bs) (md : List Nat) (A : Foot) (G H : Hp) (σ : L2.St) (s : S) (Γ' : List Mk) (D : Ends) : Option U → S → Prop
  | none, s' => ∀ A' G' H' σ', At C.X.K C.FM B Γ' A' G' H' σ' s' → Stp md A A' G H G' H' s s' → (∀ i, i ∉ md → σ'[i]? = σ[i]?) → D.nx σ' H'
  | some r, s' => ∀ v F Γ2 A' G' H' σ', At C.X.K C.FM B Γ2 A' G' H' σ' s' → (∀ p ∈ R.L, Γ2[p.1]? = some p.2) → Own C.X.K C.FM G' H' R.k v r F → (∀ a, F a → G' a = none ∧ (∀ i, ¬ A' i a) ∧ (B.M a ∨ B.H0 a = none)) → D.rt v H'
def SJ (C : Ct) (R : Rt) (Γ : List Mk) (st : Stmt) (m : Mo (Option U)) (md : List Nat) (Γ' : List Mk) : Prop :=
  Agr md Γ Γ' ∧ ∀ B A G H σ s, C.ok B → At C.X.K C.FM B Γ A G H σ s → ∀ D : Ends, (m s).wp (FlK C R B md A G H σ s Γ' D) (XsW C md A G H σ) → SS C.X st D σ H
def SsJ (C : Ct) (R : Rt) (Γ : List Mk) (st : List Stmt) (m : Mo (Option U)) (md : List Nat) (Γ' : List Mk) : Prop :=
  Agr md Γ Γ' ∧ ∀ B A G H σ s, C.ok B → At C.X.K C.FM B Γ A G H σ s → ∀ D : Ends, (m s).wp (FlK C R B md A G H σ s Γ' D) (XsW C md A G H σ) → SB C.X st D σ H
def seqM (a b : Mo (Option U)) : Mo (Option U) := .bind a fun o => match o with
  | none => b
  | some r => .pure (some r)
def agrB (md : List Nat) (Γ Γ' : List Mk) : Bool := decide (Γ'.length = Γ.length) && (List.range Γ.length).all fun i => md.contains i || decide (Γ'[i]? = Γ[i]?)
theorem agr_of {md : List Nat} {Γ Γ' : List Mk} (h : agrB md Γ Γ' = true) : Agr md Γ Γ' := by
  unfold agrB at h
  simp only [Bool.and_eq_true, decide_eq_true_eq, List.all_eq_true, List.mem_range, Bool.or_eq_true, List.contains_iff_mem] at h
  refine ⟨h.1, fun i hi => ?_⟩
  by_cases hl : i < Γ.length
  · exact (h.2 i hl).resolve_left hi
  · rw [List.getElem?_eq_none (by omega), List.getElem?_eq_none (by omega)]
def wkB : List Mk → List Mk → Bool
  | [], [] => true
  | a :: as, b :: bs => (decide (b = a) || decide (b = .n)) && wkB as bs
  | _, _ => false
theorem wk_of : ∀ {Γ Γ' : List Mk}, wkB Γ Γ' = true → Wk Γ Γ'
  | [], [], _ => trivial
  | a :: as, b :: bs, h => by
    simp only [wkB, Bool.and_eq_true, Bool.or_eq_true, decide_eq_true_eq] at h
    exact ⟨h.1, wk_of h.2⟩
  | [], _ :: _, h => nomatch h
  | _ :: _, [], h => nomatch h
theorem Agr.mono {md md2 : List Nat} {Γ Γ' : List Mk} (a : Agr md Γ Γ') (h : ∀ i ∈ md, i ∈ md2) : Agr md2 Γ Γ' := ⟨a.1, fun i hi => a.2 i fun z => hi (h i z)⟩
section
variable {C : Ct} {R : Rt} {B : Bs} {Γ Γ1 Γ2 Γ3 Γ' : List Mk} {A A' : Foot} {G H G' H' : Hp} {σ σ' : L2.St} {s s' : S} {e a b c : Expr} {es : List Expr} {pos p ps p2 : Pos} {x y f : Str} {md md2 md3 : List Nat} {r : Rk} {m : Mo U} {n : Mo Bool} {ma mb mc : Mo (Option U)} {i : Nat} {k k1 : Mk} {st : Stmt} {rest As Bs' : List Stmt} {D : Ends}
theorem FlK.after {o : Option U} (st : Stp md A A' G H G' H' s s') (hs : ∀ i, i ∉ md → σ'[i]? = σ[i]?) {s2 : S} (h : FlK C R B (md ++ md2) A G H σ s Γ' D o s2) : FlK C R B md2 A' G' H' σ' s' Γ' D o s2 := by
  cases o with
  | none => exact fun A2 G2 H2 σ2 a2 st2 h2 => h A2 G2 H2 σ2 a2 (st.trans st2) fun i hi => (h2 i fun z => hi (List.mem_append_right _ z)).trans (hs i fun z => hi (List.mem_append_left _ z))
  | some r => exact h
theorem FlK.mono {o : Option U} (hm : ∀ i ∈ md, i ∈ md2) (h : FlK C R B md2 A G H σ s Γ' D o s') : FlK C R B md A G H σ s Γ' D o s' := by
  cases o with
  | none => exact fun A2 G2 H2 σ2 a2 st2 h2 => h A2 G2 H2 σ2 a2 (st2.mono hm) fun i hi => h2 i fun z => hi (hm i z)
  | some r => exact h
theorem xs_r (x : Stp md A A' G H G' H' s s') (hs : ∀ i, i ∉ md → σ'[i]? = σ[i]?) (hl : σ'.length = σ.length) : ∀ e s, XsW C (md ++ md2) A G H σ e s → XsW C md2 A' G' H' σ' e s := fun _ _ h c d σ2 G2 H2 y hy hl2 => h c d σ2 G2 H2 (XStp.after x y) (fun i hi => (hy i fun z => hi (List.mem_append_right _ z)).trans (hs i fun z => hi (List.mem_append_left _ z))) (hl2.trans hl)
theorem xs_mono (hm : ∀ i ∈ md, i ∈ md2) : ∀ e s, XsW C md2 A G H σ e s → XsW C md A G H σ e s := fun _ _ h c d σ2 G2 H2 y hy hl => h c d σ2 G2 H2 (y.mono hm) (fun i hi => hy i fun z => hi (hm i z)) hl
/-- from a statement's wish to an expression's -/
theorem xs_x (hm : ∀ i ∈ md, i ∈ md2) : ∀ e s, XsW C md2 A G H σ e s → Xw C md A G H σ e s := fun _ _ h c d G2 H2 y => h c d σ G2 H2 (y.mono hm) (fun _ _ => rfl) rfl
theorem At.lenS (a : At C.X.K C.FM B Γ A G H σ s) (a' : At C.X.K C.FM B Γ' A' G' H' σ' s') (h : Γ'.length = Γ.length) : σ'.length = σ.length := by rw [a.len, a'.len, h]
theorem snil_ : SsJ C R Γ [] (.pure none) [] Γ := ⟨.refl, fun B A G H σ s hB at_ D q => SB.of pss_nil (q A G H σ at_ .refl fun _ _ => rfl)⟩
theorem scons_ (h1 : SJ C R Γ st ma md Γ1) (h2 : SsJ C R Γ1 rest mb md2 Γ2) : SsJ C R Γ (st :: rest) (seqM ma mb) (md ++ md2) Γ2 := ⟨h1.1.trans h2.1, fun B A G H σ s hB at_ D q =>
  SB.of (pss_cons ps_ss pss_sb) (h1.2 B A G H σ s hB at_ _ (wp_mono (wp_bind.mp q) (fun o s1 q1 => by
    cases o with
    | none => exact fun A1 G1 H1 σ1 a1 st1 hs1 => h2.2 B A1 G1 H1 σ1 s1 hB a1 D (wp_mono q1 (fun o s2 q2 => q2.after st1 hs1) (xs_r st1 hs1 (At.lenS at_ a1 h1.1.1)))
    | some r => exact q1) (xs_mono fun i hi => List.mem_append_left _ hi)))⟩
theorem sone_ (h1 : SJ C R Γ st ma md Γ1) : SsJ C R Γ [st] ma md Γ1 := ⟨h1.1, fun B A G H σ s hB at_ D q => SB.of (pss_one ps_ss) (h1.2 B A G H σ s hB at_ D q)⟩
/-- a weaker end -/
theorem swk_ (h : SsJ C R Γ rest ma md Γ1) (md2 : List Nat) (Γ2 : List Mk) (hw : wkB Γ1 Γ2 = true := by rfl) (ha : agrB md2 Γ Γ2 = true := by rfl) (hm : md.all md2.contains = true := by rfl) : SsJ C R Γ rest ma md2 Γ2 := ⟨agr_of ha, fun B A G H σ s hB at_ D q => by
  have hm : ∀ i ∈ md, i ∈ md2 := fun i hi => by simpa using List.all_eq_true.mp hm i hi
  refine h.2 B A G H σ s hB at_ D (wp_mono q (fun o s1 q1 => ?_) (xs_mono hm))
  cases o with
  | none => exact fun A1 G1 H1 σ1 a1 st1 hs1 => q1 A1 G1 H1 σ1 (a1.weak (wk_of hw)) (st1.mono hm) fun i hi => hs1 i fun z => hi (hm i z)
  | some r => exact q1⟩
theorem sif_ {c : Expr} (hc : TJ C Γ c n md Γ1) (ha : SsJ C R Γ1 As ma md2 Γ2) (hb : SsJ C R Γ1 Bs' mb md3 Γ2) : SJ C R Γ (.If c As Bs' pos) (ifM n ma mb) (md ++ (md2 ++ md3)) Γ2 := ⟨hc.1.trans (ha.1.mono fun i hi => List.mem_append_left _ hi), fun B A G H σ s hB at_ D q =>
  SS.of (ps_if pt_st pss_sb pss_sb) (hc.2 B A G H σ s hB at_ _ (wp_mono (wp_bind.mp q) (fun kk s1 q1 A1 G1 H1 at1 st1 => by
    cases kk with
    | true => exact ha.2 B A1 G1 H1 σ s1 hB at1 D (wp_mono q1 (fun o s2 q2 => (q2.after st1 fun _ _ => rfl).mono fun i hi => List.mem_append_left _ hi) fun e s h => xs_mono (fun i hi => List.mem_append_left _ hi) e s (xs_r st1 (fun _ _ => rfl) rfl e s h))
    | false => exact hb.2 B A1 G1 H1 σ s1 hB at1 D (wp_mono q1 (fun o s2 q2 => (q2.after st1 fun _ _ => rfl).mono fun i hi => List.mem_append_right _ hi) fun e s h => xs_mono (fun i hi => List.mem_append_right _ hi) e s (xs_r st1 (fun _ _ => rfl) rfl e s h))) (xs_x fun i hi => List.mem_append_left _ hi)))⟩
/-- a slot is frozen from here on -/
theorem sfrz_ (i : Nat) (h : SsJ C R (Γ.set i .f) rest ma md Γ1) (hi : (match Γ[i]? with | some .n => false | some _ => true | none => false) = true := by rfl) : SsJ C R Γ rest ma ([i] ++ md) Γ1 :=
  ⟨Agr.trans ⟨by simp, fun j hj => List.getElem?_set_ne fun z => hj (by simp [z])⟩ h.1, fun B A G H σ s hB at_ D q => by
  cases hk : Γ[i]? with
  | none => rw [hk] at hi; cases hi
  | some k =>
    rw [hk] at hi
    refine SB.lk fun pins sh I => ?_
    obtain ⟨H2, I2, lk⟩ := Inv.lockAll (A i) I
    obtain ⟨G2, A2, at2, st2⟩ := at_.freeze hk (fun z => by subst z; cases hi) lk
    exact ⟨H2, I2, h.2 B A2 G2 H2 σ s hB at2 D (wp_mono q (fun o s1 q1 => q1.after st2 fun _ _ => rfl) (xs_r st2 (fun _ _ => rfl) rfl))⟩⟩
theorem tmp_M {F : Fp} (at_ : At C.X.K C.FM B Γ A G H σ s) {A1 : Foot} {G1 H1 : Hp} (t : Tmp md A H A1 G1 H1 F) : ∀ b, F b → B.M b ∨ B.H0 b = none := fun b z => by
  rcases t.nw b z with ⟨j, _, w⟩ | w
  · exact (at_.own j b w).2.2
  · rcases at_.fresh w with w | w
    · exact .inr w.2
    · exact .inl w
def retM (m : Mo U) : Mo (Option U) := .bind m fun u => .pure (some u)
def lok (L : List (Nat × Mk)) (Γ : List Mk) : Bool := L.all fun p => decide (Γ[p.1]? = some p.2)
theorem sret_ (h : EJ C Γ e m md (.val R.k) Γ1) (hL : lok R.L Γ1 = true := by rfl) : SJ C R Γ (.Return (some e) pos) (retM m) md Γ1 := ⟨h.1, fun B A G H σ s hB at_ D q =>
  SS.of (ps_ret pe_se) (h.2 B A G H σ s hB at_ _ (wp_mono (wp_bind.mp q) (fun u s1 q1 v A1 G1 H1 a1 st1 r1 => by
    obtain ⟨F, o, t⟩ := r1
    exact q1 v F Γ1 A1 G1 H1 σ a1 (fun p hp => by simpa using List.all_eq_true.mp hL p hp) o fun b z => ⟨t.g b z, t.no b z, tmp_M at_ t b z⟩) (xs_x fun i hi => hi)))⟩
def asgM (i : Nat) (m : Mo U) : Mo (Option U) := .bind m fun u s => .ok none (s.set i u)
def exM (m : Mo U) : Mo (Option U) := .bind m fun _ => .pure none
theorem put_stp {F : Fp} {v : V} {u : U} {A1 : Foot} {G1 H1 : Hp} {s1 : S} (st1 : Stp md A A1 G H G1 H1 s s1) (t : Tmp md A H A1 G1 H1 F) : Stp (md ++ [i]) A (updA A1 i F) G H G1 H1 s (s1.set i u) where
  ex := st1.ex
  keep := fun b o h k => st1.keep b o h fun j hj => k j (List.mem_append_left _ hj)
  foot := fun j hj b z => by
    by_cases q : j = i
    · subst q
      rw [updA_same] at z
      exact (t.nw b z).imp (fun ⟨j, hj, w⟩ => ⟨j, List.mem_append_left _ hj, w⟩) id
    · rw [updA_ne q] at z
      have hj' : j ∈ md := (List.mem_append.mp hj).resolve_right fun w => q (List.mem_singleton.mp w)
      exact (st1.foot j hj' b z).imp (fun ⟨j, hj, w⟩ => ⟨j, List.mem_append_left _ hj, w⟩) id
  same := fun j hj => by
    have h1 : j ∉ md := fun z => hj (List.mem_append_left _ z)
    have h2 : j ≠ i := fun z => hj (List.mem_append_right _ (by simp [z]))
    exact ⟨(updA_ne h2).trans (st1.same j h1).1, (List.getElem?_set_ne (Ne.symm h2)).trans (st1.same j h1).2⟩
theorem sasg_ (i : Nat) (h : EJ C Γ e m md (.val k) Γ1) (hN : C.X.N.Nodup) (hp : C.pn.contains i = false := by rfl) (hl : decide (i < Γ1.length) = true := by rfl) (hi : C.X.N[i]? = some x := by rfl) (hlo : Loc C.X.env.scope x := by first | exact Or.inl rfl | exact Or.inr rfl)
    (hf : C.X.fn x = true ∨ C.X.env.scope.names.lookup x = some .local := by first | exact .inl rfl | exact .inr rfl) (hsw : swapsWith e (some (.Name x ps)) pos.line C.X.env = pure false := by rfl) : SJ C R Γ (.Assign [.Name x ps] e pos) (asgM i m) (md ++ [i]) (Γ1.set i k) :=
  ⟨h.1.trans ⟨by simp, fun j hj => List.getElem?_set_ne fun z => hj (by simp [z])⟩, fun B A G H σ s hB at_ D q =>
  SS.of (ps_asg pe_se (pg_name (i := i) hN hi hlo hf) hsw) (h.2 B A G H σ s hB at_ _ (wp_mono (wp_bind.mp q) (fun u s1 q1 v A1 G1 H1 a1 st1 r1 => by
    obtain ⟨F, o, t⟩ := r1
    refine q1 _ G1 H1 (σ.set i (some v)) (a1.put o (by simpa using hl) t.g (fun b z j _ => t.no b z j) (tmp_M at_ t) fun p hp' e => ?_) (put_stp (v := v) st1 t) fun j hj => List.getElem?_set_ne fun z => hj (by simp [z])
    have := hB.1 p hp'
    rw [e] at this
    simp at hp
    exact absurd this hp) (xs_x fun i hi => List.mem_append_left _ hi)))⟩
theorem sexpr_ (h : EJ C Γ e m md r Γ1) (hs : swapsWith e none pos.line C.X.env = pure false := by rfl) : SJ C R Γ (.Expr e pos) (exM m) md Γ1 := ⟨h.1, fun B A G H σ s hB at_ D q =>
  SS.of (ps_expr pe_se hs) (h.2 B A G H σ s hB at_ _ (wp_mono (wp_bind.mp q) (fun u s1 q1 v A1 G1 H1 a1 st1 r1 => q1 A1 G1 H1 σ a1 st1 fun _ _ => rfl) (xs_x fun i hi => hi)))⟩
end
end V4
namespace V4
open PySem PySem.Spec PyProof.Rows L2 L3
section
variable {C : Ct} {R : Rt} {B : Bs} {Γ Γ1 Γ2 Γ3 Γ' : List Mk} {A A1 A' : Foot} {G H G1 H1 G' H' : Hp} {σ σ' : L2.St} {s s1 s' : S} {e a b c tg : Expr} {es : List Expr} {pos p ps p2 : Pos} {x y f : Str} {md md2 md3 : List Nat} {r : Rk} {rs : List Rk} {m ma mb mc : Mo U} {ms : Mo (List U)} {pm : Mo (List PK)} {i j : Nat} {k k1 m0 : Mk} {F : Fp}
/-- the tree of slot i is changed -/
theorem At.mut {K : PySem.W.Frag} {FM : FMap} {v0 : V} {r : U} {A2 : Fp} (a : At K FM B Γ A G H σ s) (hi : Γ[i]? = some m0) (e0 : σ[i]? = some (some v0)) (o : Own K FM G H' m0 v0 r A2) (hk : ∀ b ob, H b = some ob → ¬ A i b → H' b = some ob)
    (hA : ∀ b, A2 b → A i b ∨ (G b = none ∧ (∀ j, ¬ A j b) ∧ (B.M b ∨ B.H0 b = none))) : At K FM B Γ (updA A i A2) G H' σ (s.set i r) where
  len := a.len
  lenU := by simp [a.lenU]
  sub := fun b ob e => hk b ob (a.sub b ob e) fun z => by rw [(a.own i b z).1] at e; cases e
  post := ⟨a.post.1, fun b ob e hb => by
    obtain ⟨h1, h2⟩ := a.post.2 b ob e hb
    refine ⟨hk b ob h1 fun z => ?_, h2⟩
    rcases (a.own i b z).2.2 with q | q
    · exact hb q
    · rw [e] at q; cases q⟩
  slot := fun j m' e hn => by
    by_cases hj : j = i
    · subst hj
      rw [hi] at e
      cases e
      have hl : j < s.length := by rw [a.lenU]; exact (List.getElem?_eq_some_iff.mp hi).1
      exact ⟨v0, r, e0, List.getElem?_set_self hl, by rw [updA_same]; exact o⟩
    · obtain ⟨v', u', e1, e2, o'⟩ := a.slot j m' e hn
      refine ⟨v', u', e1, by rw [List.getElem?_set_ne (Ne.symm hj)]; exact e2, ?_⟩
      rw [updA_ne hj]
      exact o'.frame (Ex.refl _) fun b ob z e => hk b ob e fun q => hj (a.dis j i b z q)
  own := fun j b z => by
    by_cases hj : j = i
    · subst hj
      rw [updA_same] at z
      refine ⟨?_, o.live b z, ?_⟩
      · exact (hA b z).elim (fun q => (a.own j b q).1) fun q => q.1
      · exact (hA b z).elim (fun q => (a.own j b q).2.2) fun q => q.2.2
    · rw [updA_ne hj] at z
      obtain ⟨h1, ⟨ob, h2⟩, h3⟩ := a.own j b z
      exact ⟨h1, ⟨ob, hk b ob h2 fun q => hj (a.dis j i b z q)⟩, h3⟩
  dis := fun j k b y z => by
    by_cases hj : j = i
    · by_cases hk : k = i
      · exact hj.trans hk.symm
      · subst hj
        rw [updA_same] at y
        rw [updA_ne hk] at z
        exact (hA b y).elim (fun q => a.dis j k b q z) fun q => (q.2.1 k z).elim
    · by_cases hk : k = i
      · subst hk
        rw [updA_same] at z
        rw [updA_ne hj] at y
        exact (hA b z).elim (fun q => a.dis j k b y q) fun q => (q.2.1 j y).elim
      · rw [updA_ne hj] at y
        rw [updA_ne hk] at z
        exact a.dis j k b y z
  pin := a.pin
  glk := a.glk
/-- what has changed where F is put somewhere -/
structure StpT (md : List Nat) (F : Fp) (A A' : Foot) (G H G' H' : Hp) (s s' : S) : Prop where
  ex : Ex G G'
  keep : ∀ a o, H a = some o → (∀ i ∈ md, ¬ A i a) → H' a = some o ∧ G' a = G a
  foot : ∀ i ∈ md, ∀ a, A' i a → (∃ j ∈ md, A j a) ∨ F a ∨ H a = none
  same : ∀ i, i ∉ md → A' i = A i ∧ s'[i]? = s[i]?
theorem StpT.after {md0 : List Nat} {A0 : Foot} {G0 H0 : Hp} {s0 : S} (x : Stp md0 A0 A G0 H0 G H s0 s) (t : Tmp md0 A0 H0 A G H F) (y : StpT md F A A' G H G' H' s s') : Stp (md0 ++ md) A0 A' G0 H0 G' H' s0 s' := by
  have nw : ∀ b, H b = none → (∃ j ∈ md0, A0 j b) ∨ H0 b = none := fun b w => by
    cases e : H0 b with
    | none => exact .inr rfl
    | some o =>
      by_cases k : ∃ j ∈ md0, A0 j b
      · exact .inl k
      · have := (x.keep b o e fun i hi z => k ⟨i, hi, z⟩).1
        rw [w] at this; cases this
  have up : ∀ b, (∃ j ∈ md0, A0 j b) ∨ H0 b = none → (∃ j ∈ md0 ++ md, A0 j b) ∨ H0 b = none := fun b z => z.imp (fun ⟨j, hj, w⟩ => ⟨j, List.mem_append_left _ hj, w⟩) id
  have key : ∀ j b, j ∈ md0 ++ md → A j b → (∃ j ∈ md0 ++ md, A0 j b) ∨ H0 b = none := fun j b hj w => by
    by_cases q : j ∈ md0
    · exact up b (x.foot j q b w)
    · rw [(x.same j q).1] at w; exact .inl ⟨j, hj, w⟩
  refine ⟨x.ex.trans y.ex, fun b o h k => ?_, fun i hi b z => ?_, fun i hi => ?_⟩
  · obtain ⟨h1, g1⟩ := x.keep b o h fun i hi => k i (List.mem_append_left _ hi)
    obtain ⟨h2, g2⟩ := y.keep b o h1 fun i hi z => by
      rcases key i b (List.mem_append_right _ hi) z with ⟨j, hj, w⟩ | w
      · exact k j hj w
      · rw [h] at w; cases w
    exact ⟨h2, g2.trans g1⟩
  · by_cases q : i ∈ md
    · rcases y.foot i q b z with ⟨j, hj, w⟩ | w | w
      · exact key j b (List.mem_append_right _ hj) w
      · exact up b (t.nw b w)
      · exact up b (nw b w)
    · rw [(y.same i q).1] at z
      exact key i b hi z
  · have h1 : i ∉ md0 := fun z => hi (List.mem_append_left _ z)
    have h2 : i ∉ md := fun z => hi (List.mem_append_right _ z)
    exact ⟨(y.same i h2).1.trans (x.same i h1).1, (y.same i h2).2.trans (x.same i h1).2⟩
theorem mut_stpT {A2 : Fp} {r : U} (hk : ∀ b ob, H b = some ob → ¬ A i b → H' b = some ob) (hA : ∀ b, A2 b → A i b ∨ F b ∨ H b = none) : StpT [i] F A (updA A i A2) G H G H' s (s.set i r) where
  ex := Ex.refl _
  keep := fun b ob e h => ⟨hk b ob e (h i (by simp)), rfl⟩
  foot := fun j hj b z => by
    have := List.mem_singleton.mp hj
    subst this
    rw [updA_same] at z
    exact (hA b z).imp (fun q => ⟨j, by simp, q⟩) id
  same := fun j hj => by
    have hj : j ≠ i := fun z => hj (by simp [z])
    exact ⟨updA_ne hj, List.getElem?_set_ne (Ne.symm hj)⟩
theorem StpT.stp (y : StpT md (fun _ => False) A A' G H G' H' s s') : Stp md A A' G H G' H' s s' := ⟨y.ex, y.keep, fun i hi a z => (y.foot i hi a z).imp id fun q => q.elim (fun z => z.elim) id, y.same⟩
def atM {β : Type} (i : Nat) (p : List PK) (g : U → Option (U × β)) : Mo β := fun s => match s[i]? with
  | some u0 => match getP p u0 with
    | some u => match g u with
      | some (u', d) => match setP p u0 u' with
        | some r => .ok d (s.set i r)
        | none => .stuck
      | none => .stuck
    | none => .stuck
  | none => .stuck
theorem atM_of {β : Type} {g : U → Option (U × β)} {pp : List PK} {P : β → S → Prop} {E : Err → S → Prop} {u0 u : U} (h : (atM i pp g s).wp P E) (e0 : s[i]? = some u0) (e1 : getP pp u0 = some u) : ∃ u' d, g u = some (u', d) ∧ ∀ r, setP pp u0 u' = some r → P d (s.set i r) := by
  unfold atM at h
  simp only [e0, e1] at h
  cases eg : g u with
  | none => rw [eg] at h; exact h.elim
  | some z =>
    obtain ⟨u', d⟩ := z
    rw [eg] at h
    simp only at h
    refine ⟨u', d, rfl, fun r er => ?_⟩
    rw [er] at h
    exact h
def mutM (i : Nat) (pm : Mo (List PK)) (ms : Mo (List U)) (g : U → List U → Option (U × U)) : Mo U := .bind pm fun p => .bind ms fun us => atM i p fun u => g u us
def shT : Mk → String
  | .l .f => "list"
  | .d .f => "dict"
  | _ => ""
theorem shal_top {K : PySem.W.Frag} {FM : FMap} {v : V} {u : U} (h : Own K FM G H k v u F) (hk : shT k ≠ "") : ∃ l o, v = .ref l ∧ H l = some o ∧ topO K G o u ∧ (∀ a, F a ↔ a = l) ∧ tyV K (shT k) (.ref l) H ∧ topK k u = true := by
  cases h with
  | f hd hn => exact absurd rfl hk
  | q0 => exact absurd rfl hk
  | q1 => exact absurd rfl hk
  | p0 => exact absurd rfl hk
  | p1 => exact absurd rfl hk
  | o h1 h2 h3 h4 h5 =>
    cases h2 with
    | @l m vs us ks kl =>
      cases m with
      | f =>
        obtain ⟨d, e⟩ := h3.shal kl.marks
        exact ⟨_, _, rfl, h1, kl.dq d, fun a => (h5 a).trans ⟨fun z => z.elim id fun z => (e a z).elim, .inl⟩, .inl ⟨rfl, _, .inl (.inl h1)⟩, rfl⟩
      | _ => exact absurd rfl hk
    | @d m vs us ks kl =>
      cases m with
      | f =>
        obtain ⟨d, e⟩ := h3.shal kl.marks
        exact ⟨_, _, rfl, h1, kl.dqK d, fun a => (h5 a).trans ⟨fun z => z.elim id fun z => (e a z).elim, .inl⟩, .inr (.inr (.inl ⟨rfl, .inl ⟨_, h1⟩⟩)), rfl⟩
      | _ => exact absurd rfl hk
    | @dt m vs us ks kl =>
      cases m with
      | f =>
        obtain ⟨d, e⟩ := h3.shal kl.marks
        exact ⟨_, _, rfl, h1, kl.dqT d, fun a => (h5 a).trans ⟨fun z => z.elim id fun z => (e a z).elim, .inl⟩, .inr (.inr (.inl ⟨rfl, .inr ⟨_, h1⟩⟩)), rfl⟩
      | _ => exact absurd rfl hk
    | t => exact absurd rfl hk
    | w _ => exact absurd rfl hk
    | i _ => exact absurd rfl hk
    | ek _ => exact absurd rfl hk
/-- o.m(e, ..), what stands at a place is changed; its parts are frozen -/
theorem mut_ {t : TA} {rr : V → List V → Hp → VK → Prop} {g : U → List U → Option (U × U)} (rule : ∀ σ H (Q : VK), SE C.X a σ H (fun xv H1 => tyV C.X.K (shT k) xv H1 ∧ t σ H1 fun vs H2 => rr xv vs H2 Q) → SE C.X e σ H Q) (mr : MutR C.X.K rr g)
    (hg : ∀ u us u' d, g u us = some (u', d) → topK k u = true → topK k u' = true) (hp : PJ C Γ a pm i k) (ha : GJ C Γ t ms md rs Γ1) (hk : (shT k == "") = false := by rfl) (hi : md.contains i = false := by rfl)
    (hr : rs.all (fun r => match r with | .val .f => true | _ => false) = true := by rfl) : EJ C Γ e (mutM i pm ms g) (md ++ [i]) (.val .f) Γ1 :=
  ⟨ha.1.mono fun i hi => List.mem_append_left _ hi, fun B A G H σ s hB at_ Q q => rule σ H Q (hp B A G H σ s hB at_ _ (wp_mono (wp_bind.mp q) (fun pp s1 q1 v1 G1 H1 m0 v0 u0 u1 F1 a1 st1 g0 gn f0 f1 d1 => by
    have hk : shT k ≠ "" := by simpa using hk
    obtain ⟨l, o, rfl, hl, ht, hF, hty, hu⟩ := shal_top d1.own hk
    refine ⟨hty, ha.2 B A G1 H1 σ s1 hB a1 _ (wp_mono (wp_bind.mp q1) (fun us s2 q2 vs A2 G2 H2 T a2 st2 p2 => ?_) fun e s h => xw_r st1 e s (xw_l e s h))⟩
    have him : i ∉ md := by simpa using hi
    have eA : A2 i = A i := (st2.same i him).1
    have eS : s2[i]? = some u0 := by rw [(st2.same i him).2]; exact f1
    have eΓ : Γ1[i]? = some m0 := by rw [ha.1.2 i him]; exact g0
    have kA : ∀ b ob, A i b → H1 b = some ob → H2 b = some ob := fun b ob z e => (st2.keep b ob e fun j hj w => him (a1.dis i j b z w ▸ hj)).1
    have d2 := d1.frame st2.ex kA
    obtain ⟨u', d, eg, q3⟩ := atM_of q2 eS d1.get
    have hl2 : H2 l = some o := kA l o (d1.sub l ((hF l).mpr rfl)) hl
    have hd := p2.dqs fun r hr' => by
      have := List.all_eq_true.mp hr r hr'
      match r, this with
      | .val .f, _ => rfl
    refine mr u1 us u' d eg G2 H2 l o vs Q a2.sub hl2 (topO_mono st2.ex ht) hd fun o' v ht' hv => ?_
    obtain ⟨rr2, hr2, o3⟩ := d2.wand G2 (upd H2 l o') u' (fun a => a = l) (Ex.refl _) (fun b ob z nz e => by
      rw [upd_ne fun w => nz ((hF b).mpr w)]; exact e) (own_top upd_same ht' (hg _ _ _ _ eg hu)) fun b z => .inl ((hF b).mpr z)
    have kH : ∀ b ob, H2 b = some ob → ¬ A2 i b → upd H2 l o' b = some ob := fun b ob e nz => by
      rw [upd_ne fun w => nz (by rw [eA, w]; exact d1.sub l ((hF l).mpr rfl))]; exact e
    have hA2 : ∀ b, ((A i b ∧ ¬ F1 b) ∨ b = l) → A2 i b := fun b z => by
      rw [eA]
      rcases z with z | z
      · exact z.1
      · rw [z]; exact d1.sub l ((hF l).mpr rfl)
    refine q3 rr2 hr2 v _ G2 _ (a2.mut eΓ f0 o3 kH fun b z => .inl (hA2 b z)) ?_ (.frozen hv)
    have st12 : Stp md A A2 G H G2 H2 s s2 := (st1.trans st2).nil_l
    exact StpT.after st12 (F := fun _ => False) (Tmp.none fun _ z => z) (mut_stpT kH fun b z => .inl (hA2 b z))) fun e s h c d G' H' x => h c d G' H' (x.mono fun i hi => by simp at hi)))⟩
end
end V4
namespace V4
open PySem PySem.Spec PyProof.Rows L2 L3
section
variable {C : Ct} {R : Rt} {B : Bs} {Γ Γ1 Γ2 Γ3 Γ' : List Mk} {A A1 A' : Foot} {G H G1 H1 G' H' : Hp} {σ σ' : L2.St} {s s1 s' : S} {e a b c tg : Expr} {es : List Expr} {pos p ps p2 : Pos} {x y f : Str} {md md2 md3 : List Nat} {r : Rk} {rs : List Rk} {m ma mb mc : Mo U} {ms : Mo (List U)} {pm : Mo (List PK)} {i j : Nat} {k k1 m0 : Mk} {F : Fp}
theorem KL.snoc {m : Mk} {v : V} {u : U} : ∀ {vs : List V} {us : List U} {ks : List Kid}, KL m vs us ks → KL m (vs ++ [v]) (us ++ [u]) (ks ++ [(m, v, u)])
  | _, _, _, .nil => .cons .nil
  | _, _, _, .cons h => .cons (KL.snoc h)
theorem KD.snoc {κ : Type} {m : Mk} {kk : κ} {v : V} {u : U} : ∀ {vs : List (κ × V)} {us : List (κ × U)} {ks : List Kid}, KD m vs us ks → KD m (vs ++ [(kk, v)]) (us ++ [(kk, u)]) (ks ++ [(m, v, u)])
  | _, _, _, .nil => .cons .nil
  | _, _, _, .cons h => .cons (KD.snoc h)
theorem KF.snoc {fm : Str → Mk} {kk : Str} {v : V} {u : U} : ∀ {vs : List (Str × V)} {us : List (Str × U)} {ks : List Kid}, KF fm vs us ks → KF fm (vs ++ [(kk, v)]) (us ++ [(kk, u)]) (ks ++ [(fm kk, v, u)])
  | _, _, _, .nil => .cons .nil
  | _, _, _, .cons h => .cons (KF.snoc h)
theorem OwnAll.snoc {K : PySem.W.Frag} {FM : FMap} {m : Mk} {v : V} {u : U} : ∀ {ks : List Kid} {B F : Fp}, OwnAll K FM G H ks B → Own K FM G H m v u F → (∀ a, F a → ¬ B a) → OwnAll K FM G H (ks ++ [(m, v, u)]) fun a => B a ∨ F a
  | _, _, F, .nil hn, o, d => .cons o (.nil (A := fun _ => False) fun _ z => z) (fun _ _ z => z) fun a => ⟨fun z => z.elim (fun z => (hn a z).elim) .inl, fun z => z.elim .inr fun z => z.elim⟩
  | _, _, F, .cons (A := A) (B := B) h1 h2 h3 h4, o, d => by
    have d2 : ∀ a, F a → ¬ B a := fun a z w => d a z ((h4 a).mpr (.inr w))
    refine .cons h1 (OwnAll.snoc h2 o d2) (fun a z w => ?_) fun a => ⟨fun z => ?_, fun z => ?_⟩
    · rcases w with w | w
      · exact h3 a z w
      · exact d a w ((h4 a).mpr (.inl z))
    · rcases z with z | z
      · exact ((h4 a).mp z).imp id .inl
      · exact .inr (.inr z)
    · rcases z with z | z | z
      · exact .inl ((h4 a).mpr (.inl z))
      · exact .inl ((h4 a).mpr (.inr z))
      · exact .inr z
/-- one child is exchanged for a new one -/
theorem OwnAll.swap {K : PySem.W.Frag} {FM : FMap} {m m2 : Mk} {v v2 : V} {u u2 : U} : ∀ {ks : List Kid} {B F : Fp} {j : Nat}, OwnAll K FM G H ks B → ks[j]? = some (m, v, u) → Own K FM G H m2 v2 u2 F → (∀ a, F a → ¬ B a) → ∃ B', OwnAll K FM G H (ks.set j (m2, v2, u2)) B' ∧ ∀ a, B' a → B a ∨ F a
  | _, _, F, j, .nil hn, e, o, d => by simp at e
  | _, _, F, 0, .cons (A := A) (B := B) h1 h2 h3 h4, e, o, d => ⟨fun a => F a ∨ B a, .cons o h2 (fun a z w => d a z ((h4 a).mpr (.inr w))) fun a => Iff.rfl, fun a z => z.elim .inr fun z => .inl ((h4 a).mpr (.inr z))⟩
  | _, _, F, j + 1, .cons (A := A) (B := B) h1 h2 h3 h4, e, o, d => by
    obtain ⟨B', a1, a2⟩ := OwnAll.swap (j := j) h2 (by simpa using e) o fun a z w => d a z ((h4 a).mpr (.inr w))
    refine ⟨fun a => A a ∨ B' a, .cons h1 a1 (fun a z w => ?_) fun a => Iff.rfl, fun a z => ?_⟩
    · rcases a2 a w with w | w
      · exact h3 a z w
      · exact d a w ((h4 a).mpr (.inl z))
    · rcases z with z | z
      · exact .inl ((h4 a).mpr (.inl z))
      · exact (a2 a z).imp (fun z => (h4 a).mpr (.inr z)) id
theorem KL.setv {m : Mk} {v : V} {u : U} : ∀ {vs : List V} {us : List U} {ks : List Kid} (j : Nat), KL m vs us ks → KL m (vs.set j v) (us.set j u) (ks.set j (m, v, u))
  | _, _, _, _, .nil => .nil
  | _, _, _, 0, .cons h => .cons h
  | _, _, _, j + 1, .cons h => .cons (KL.setv j h)
/-- the object of ours at a place is changed; T: what is put in -/
theorem place_mut {K : PySem.W.Frag} {FM : FMap} {v0 : V} {u0 u u' : U} {pp : List PK} {l : Addr} {F1 F2 T : Fp} {o' : HO} (a : At K FM B Γ A G H σ s) (hi : Γ[i]? = some m0) (e0 : σ[i]? = some (some v0)) (d : Dec K FM G H m0 v0 u0 (A i) pp k (.ref l) u F1) (hl : F1 l)
    (o2 : Own K FM G (upd H l o') k (.ref l) u' F2) (hF : ∀ b, F2 b → F1 b ∨ T b) (hT : ∀ b, T b → G b = none ∧ (∀ j, ¬ A j b) ∧ (B.M b ∨ B.H0 b = none)) :
    ∃ r A2, setP pp u0 u' = some r ∧ At K FM B Γ A2 G (upd H l o') σ (s.set i r) ∧ StpT [i] T A A2 G H G (upd H l o') s (s.set i r) := by
  obtain ⟨r, hr, o3⟩ := d.wand G (upd H l o') u' F2 (Ex.refl _) (fun b ob z nz e => by
    rw [upd_ne fun w => nz (by rw [w]; exact hl)]; exact e) o2 fun b z => (hF b z).imp id fun w q => (hT b w).2.1 i q
  have kH : ∀ b ob, H b = some ob → ¬ A i b → upd H l o' b = some ob := fun b ob e nz => by
    rw [upd_ne fun w => nz (by rw [w]; exact d.sub l hl)]; exact e
  refine ⟨r, _, hr, a.mut hi e0 o3 kH fun b z => ?_, mut_stpT kH fun b z => ?_⟩
  · rcases z with z | z
    · exact .inl z.1
    · exact (hF b z).imp (d.sub b) (hT b)
  · rcases z with z | z
    · exact .inl z.1
    · exact (hF b z).imp (d.sub b) .inl
/-- a thing in hand is put into a target -/
def TgJ (C : Ct) (Γ : List Mk) (tg : Expr) (k : Mk) (m : U → S → Option S) (md : List Nat) (Γ' : List Mk) : Prop :=
  Agr md Γ Γ' ∧ ∃ g, PG C.X tg g ∧ ∀ B A G H σ s v u F s', C.ok B → At C.X.K C.FM B Γ A G H σ s → Own C.X.K C.FM G H k v u F → (∀ b, F b → G b = none ∧ (∀ j, ¬ A j b) ∧ (B.M b ∨ B.H0 b = none)) → m u s = some s' → ∀ Q : L2.St → Hp → Prop,
    (∀ A' G' H' σ', At C.X.K C.FM B Γ' A' G' H' σ' s' → StpT md F A A' G H G' H' s s' → (∀ i, i ∉ md → σ'[i]? = σ[i]?) → Q σ' H') → g v σ H Q
def setM (i : Nat) (u : U) : S → Option S := fun s => some (s.set i u)
theorem tname_ (i : Nat) (k : Mk) (hN : C.X.N.Nodup) (hp : C.pn.contains i = false := by rfl) (hl : decide (i < Γ.length) = true := by rfl) (hi : C.X.N[i]? = some x := by rfl) (hlo : Loc C.X.env.scope x := by first | exact Or.inl rfl | exact Or.inr rfl)
    (hf : C.X.fn x = true ∨ C.X.env.scope.names.lookup x = some .local := by first | exact .inl rfl | exact .inr rfl) : TgJ C Γ (.Name x ps) k (setM i) [i] (Γ.set i k) :=
  ⟨⟨by simp, fun j hj => List.getElem?_set_ne fun z => hj (by simp [z])⟩, _, pg_name (i := i) hN hi hlo hf, fun B A G H σ s v u F s' hB a o hF em Q q => by
    cases em
    refine q _ G H (σ.set i (some v)) (a.put o (by simpa using hl) (fun b z => (hF b z).1) (fun b z j _ => (hF b z).2.1 j) (fun b z => (hF b z).2.2) fun p hp' e => ?_) ⟨Ex.refl _, fun b o e _ => ⟨e, rfl⟩, fun j hj b z => ?_, fun j hj => ?_⟩ fun j hj => List.getElem?_set_ne fun z => hj (by simp [z])
    · have := hB.1 p hp'
      rw [e] at this
      simp at hp
      exact absurd this hp
    · have := List.mem_singleton.mp hj
      subst this
      rw [updA_same] at z
      exact .inr (.inl z)
    · have hj : j ≠ i := fun z => hj (by simp [z])
      exact ⟨updA_ne hj, List.getElem?_set_ne (Ne.symm hj)⟩⟩
def tgM (m : Mo U) (mt : U → S → Option S) : Mo (Option U) := .bind m fun u s => match mt u s with
  | some s' => .ok none s'
  | none => .stuck
theorem sasgT_ {mt : U → S → Option S} (h : EJ C Γ e m md (.val k) Γ1) (ht : TgJ C Γ1 tg k mt md2 Γ2) (hs : swapsWithSole [tg] e pos.line C.X.env = pure false := by rfl) (hw : swappedStores [tg] e C.X.env = pure none := by rfl) (h1 : (assignEach [tg] C.X.env).map (·.2) = [assign tg C.X.env] := by rfl) :
    SJ C R Γ (.Assign [tg] e pos) (tgM m mt) (md ++ md2) Γ2 := by
  obtain ⟨hag, g, hg, ht⟩ := ht
  exact ⟨h.1.trans hag, fun B A G H σ s hB at_ D q => SS.of (ps_asg pe_se hg hs hw h1) (h.2 B A G H σ s hB at_ _ (wp_mono (wp_bind.mp q) (fun u s1 q1 v A1 G1 H1 a1 st1 r1 => by
    obtain ⟨F, o, t⟩ := r1
    cases em : mt u s1 with
    | none =>
      simp only [em] at q1
      exact q1.elim
    | some s2 =>
      simp only [em] at q1
      exact ht B A1 G1 H1 σ s1 v u F s2 hB a1 o (fun b z => ⟨t.g b z, t.no b z, tmp_M at_ t b z⟩) em _ fun A2 G2 H2 σ2 a2 st2 hs2 => q1 A2 G2 H2 σ2 a2 (StpT.after st1 t st2) fun i hi => hs2 i fun z => hi (List.mem_append_right _ z)) (xs_x fun i hi => List.mem_append_left _ hi)))⟩
def uSet (u k v : U) : Option U := match u, k with
  | .list us, .int i => (ixN us.length i).map fun j => .list (us.set j v)
  | .dict kvs, k => (keyU k).bind fun k => if kvs.length < 1000000 then some (.dict (putU kvs k v)) else none
  | _, _ => none
def okS {β : Type} : Out S β → Option (β × S)
  | .ok b s => some (b, s)
  | _ => none
def subM (i : Nat) (pm : Mo (List PK)) (mb : Mo U) (v : U) : S → Option S := fun s => (okS (pm s)).bind fun p => (okS (mb p.2)).bind fun k => (okS (atM i p.1 (fun u => (uSet u k.1 v).map fun u' => (u', ())) k.2)).map (·.2)
theorem okS_wp {β : Type} {o : Out S β} {b : β} {s' : S} {P : β → S → Prop} {E : Err → S → Prop} (h : okS o = some (b, s')) (q : P b s') : o.wp P E := by
  cases o with
  | ok b2 s2 => cases h; exact q
  | _ => cases h
theorem tsub_ (hp : PJ C Γ a pm i (.l k)) (hb : EJ C Γ b mb [] (.val .f) Γ)
    (ha : ∀ v, assign (.Subscript a b pos) C.X.env v = (do
      let ov ← holding [v] (eval a C.X.env)
      let iv ← holding [v, ov] (eval b C.X.env)
      standAt pos
      holding [v, ov, iv] (setItem ov iv v)
      release [v, ov, iv] []) := by intro _; rfl) : TgJ C Γ (.Subscript a b pos) k (subM i pm mb) [i] Γ :=
  ⟨⟨rfl, fun _ _ => rfl⟩, _, pg_sub (to := SE C.X a) (ti := SE C.X b) pe_se pe_se set_list ha, fun B A G H σ s v u F s' hB at_ o hF em Q q => by
    unfold subM at em
    obtain ⟨⟨pp, s1⟩, e1, em⟩ := Option.bind_eq_some_iff.mp em
    obtain ⟨⟨kk, s2⟩, e2, em⟩ := Option.bind_eq_some_iff.mp em
    obtain ⟨⟨_, s3⟩, e3, em⟩ := Option.map_eq_some_iff.mp em
    cases em
    show SE C.X a σ H fun o H1 => SE C.X b σ H1 fun i H2 => rSetL o i v H2 fun H3 => Q σ H3
    refine hp B A G H σ s hB at_ _ (okS_wp e1 fun v1 G1 H1 m0 v0 u0 u1 F1 a1 st1 g0 gn f0 f1 d1 => hb.2 B A G1 H1 σ s1 hB a1 _ (okS_wp e2 fun vk A2 G2 H2 a2 st2 r2 => ?_))
    have := stp_nil st2
    subst this
    have st12 := (st1.trans st2).nil_l
    have eS : s2[i]? = some u0 := by rw [(st2.same i (by simp)).2]; exact f1
    have kA : ∀ b ob, H b = some ob → H2 b = some ob := fun b ob e => (st12.keep b ob e fun j hj => by simp at hj).1
    have kG : ∀ b ob, H b = some ob → G2 b = G b := fun b ob e => (st12.keep b ob e fun j hj => by simp at hj).2
    have d2 := d1.frame st2.ex fun b ob z e => (st2.keep b ob e fun j hj => by simp at hj).1
    have oF : Own C.X.K C.FM G2 H2 k v u F := o.frame st12.ex fun b ob z e => kA b ob e
    have hF2 : ∀ b, F b → G2 b = none ∧ (∀ j, ¬ A2 j b) ∧ (B.M b ∨ B.H0 b = none) := fun b z => by
      obtain ⟨ob, e⟩ := o.live b z
      exact ⟨(kG b ob e).trans (hF b z).1, (hF b z).2.1, (hF b z).2.2⟩
    have e3' : ((atM i pp (fun u1 => (uSet u1 kk u).map fun u' => (u', ())) s2 : Out S Unit)).wp (fun _ s4 => s4 = s3) (fun _ _ => False) := okS_wp e3 rfl
    obtain ⟨u', d, eg, q3⟩ := atM_of e3' eS d1.get
    obtain ⟨u2', eg2, e5⟩ := Option.map_eq_some_iff.mp eg
    obtain rfl : u2' = u' := (Prod.mk.inj e5).1
    have o1 := d2.own
    cases o1 with
    | @o _ l ob _ ks _ B0 h1 h2 h3 h4 h5 =>
      cases h2 with
      | @l _ vs us ks kl =>
        have hlF : F1 l := (h5 l).mpr (.inl rfl)
        have hkk : ∃ z, kk = .int z := by
          cases kk <;> first | exact ⟨_, rfl⟩ | cases eg2
        obtain ⟨z, rfl⟩ := hkk
        have r2 := r2.frz
        cases r2
        have eg : (ixN us.length z).map (fun j => U.list (us.set j u)) = some u2' := eg2
        obtain ⟨j, hj, rfl⟩ := Option.map_eq_some_iff.mp eg
        obtain ⟨_, hjl, _⟩ := ixN_seq hj
        have hks : ∃ kid, ks[j]? = some kid := ⟨_, List.getElem?_eq_getElem (by rw [kl.len.2]; exact hjl)⟩
        obtain ⟨⟨km, kv, ku⟩, hks⟩ := hks
        have dF : ∀ b, F b → ¬ B0 b := fun b z w => (hF2 b z).2.1 i (d2.sub b ((h5 b).mpr (.inr w)))
        obtain ⟨B', oB, hB'⟩ := OwnAll.swap h3 hks oF dF
        have nl : ∀ b, B' b → b ≠ l := fun b z w => by
          subst w
          rcases hB' _ z with y | y
          · exact h4 y
          · exact (hF2 _ y).2.1 i (d2.sub _ hlF)
        have on : Own C.X.K C.FM G2 (upd H2 l (.lst (vs.set j v))) (.l k) (.ref l) (.list (us.set j u)) fun b => b = l ∨ B' b :=
          .o upd_same (.l (kl.setv j)) (oB.frame (Ex.refl _) fun b ob z e => by rw [upd_ne (nl b z)]; exact e) (fun z => nl l z rfl) fun _ => Iff.rfl
        obtain ⟨r3, A3, hr, at3, st3⟩ := place_mut (T := F) a2 g0 f0 d2 hlF on (fun b z => by
          rcases z with z | z
          · exact .inl ((h5 b).mpr (.inl z))
          · exact (hB' b z).imp (fun y => (h5 b).mpr (.inr y)) id) hF2
        have := q3 r3 hr
        subst this
        refine ⟨l, vs, z, j, rfl, rfl, h1, by rw [kl.len.1]; exact hj, q A3 G2 _ σ at3 ⟨st12.ex.trans st3.ex, fun b ob e hn => ?_, fun j' hj' b w => ?_, fun j' hj' => ⟨(st3.same j' hj').1, ?_⟩⟩ fun _ _ => rfl⟩
        · obtain ⟨y1, y2⟩ := st3.keep b ob (kA b ob e) hn
          exact ⟨y1, y2.trans (kG b ob e)⟩
        · rcases st3.foot j' hj' b w with y | y | y
          · exact .inl y
          · exact .inr (.inl y)
          · refine .inr (.inr ?_)
            cases e : H b with
            | none => rfl
            | some ob => rw [kA b ob e] at y; cases y
        · rw [(st3.same j' hj').2]; exact (st12.same j' (by simp)).2⟩
end
end V4
namespace V4
open PySem PySem.Spec PyProof.Rows L2 L3
section
variable {C : Ct} {R : Rt} {B : Bs} {Γ Γ1 Γ2 Γ3 Γ' : List Mk} {A A1 A' A2 : Foot} {G H G1 H1 G' H' G2 H2 : Hp} {σ σ' : L2.St} {s s1 s' s2 : S} {e a b c tg : Expr} {es tgs : List Expr} {pos p ps p2 px py pt pt2 : Pos} {x y f : Str} {md md2 md3 : List Nat} {r ra : Rk} {rs : List Rk} {m ma mb mc : Mo U} {ms : Mo (List U)} {pm : Mo (List PK)} {i j : Nat} {k k1 k2 m0 : Mk} {F : Fp}
theorem StpT.past (st : Stp [] A A G H G1 H1 s s1) (st3 : StpT md F A A' G1 H1 G' H' s1 s') : StpT md F A A' G H G' H' s s' := by
  have kA : ∀ b ob, H b = some ob → H1 b = some ob := fun b ob e => (st.keep b ob e fun j hj => by simp at hj).1
  have kG : ∀ b ob, H b = some ob → G1 b = G b := fun b ob e => (st.keep b ob e fun j hj => by simp at hj).2
  refine ⟨st.ex.trans st3.ex, fun b ob e hn => ?_, fun j' hj' b w => ?_, fun j' hj' => ⟨(st3.same j' hj').1, ?_⟩⟩
  · obtain ⟨y1, y2⟩ := st3.keep b ob (kA b ob e) hn
    exact ⟨y1, y2.trans (kG b ob e)⟩
  · rcases st3.foot j' hj' b w with y | y | y
    · exact .inl y
    · exact .inr (.inl y)
    · refine .inr (.inr ?_)
      cases e : H b with
      | none => rfl
      | some ob => rw [kA b ob e] at y; cases y
  · rw [(st3.same j' hj').2]; exact (st.same j' (by simp)).2
theorem tdput_ (hu : C.X.A.units + 1 < cLine) (hp : PJ C Γ a pm i (.d .f)) (hb : EJ C Γ b mb [] (.val .f) Γ)
    (ha : ∀ v, assign (.Subscript a b pos) C.X.env v = (do
      let ov ← holding [v] (eval a C.X.env)
      let iv ← holding [v, ov] (eval b C.X.env)
      standAt pos
      holding [v, ov, iv] (setItem ov iv v)
      release [v, ov, iv] []) := by intro _; rfl) : TgJ C Γ (.Subscript a b pos) .f (subM i pm mb) [i] Γ :=
  ⟨⟨rfl, fun _ _ => rfl⟩, _, pg_sub (to := SE C.X a) (ti := SE C.X b) pe_se pe_se (set_dict hu) ha, fun B A G H σ s v u F s' hB at_ o hF em Q q => by
    unfold subM at em
    obtain ⟨⟨pp, s1⟩, e1, em⟩ := Option.bind_eq_some_iff.mp em
    obtain ⟨⟨kk, s2⟩, e2, em⟩ := Option.bind_eq_some_iff.mp em
    obtain ⟨⟨_, s3⟩, e3, em⟩ := Option.map_eq_some_iff.mp em
    cases em
    show SE C.X a σ H fun o H1 => SE C.X b σ H1 fun i H2 => rSetD o i v H2 fun H3 => Q σ H3
    refine hp B A G H σ s hB at_ _ (okS_wp e1 fun v1 G1 H1 m0 v0 u0 u1 F1 a1 st1 g0 gn f0 f1 d1 => hb.2 B A G1 H1 σ s1 hB a1 _ (okS_wp e2 fun vk A2 G2 H2 a2 st2 r2 => ?_))
    have := stp_nil st2
    subst this
    have st12 := (st1.trans st2).nil_l
    have eS : s2[i]? = some u0 := by rw [(st2.same i (by simp)).2]; exact f1
    have d2 := d1.frame st2.ex fun b ob z e => (st2.keep b ob e fun j hj => by simp at hj).1
    have hv : Dq C.X.K G2 v u := by
      cases o with
      | f hd _ => exact dp_ex st12.ex _ _ hd
      | o _ hk => cases hk
    have e3' : ((atM i pp (fun u1 => (uSet u1 kk u).map fun u' => (u', ())) s2 : Out S Unit)).wp (fun _ s4 => s4 = s3) (fun _ _ => False) := okS_wp e3 rfl
    obtain ⟨u', d, eg, q3⟩ := atM_of e3' eS d1.get
    obtain ⟨u2', eg2, e5⟩ := Option.map_eq_some_iff.mp eg
    obtain rfl : u2' = u' := (Prod.mk.inj e5).1
    obtain ⟨l, ob, rfl, hl, ht, hFF, _, hu1⟩ := shal_top d2.own (by decide)
    have hlF : F1 l := (hFF l).mpr rfl
    cases u1 with
    | dict kvs =>
      cases ob <;> first | exact ht.elim | skip
      rename_i hkvs
      have eg3 : ((keyU kk).bind fun k => if kvs.length < 1000000 then some (U.dict (putU kvs k u)) else none) = some u2' := by
        cases kk <;> exact eg2
      obtain ⟨key, hkk, eg4⟩ := Option.bind_eq_some_iff.mp eg3
      by_cases hlen : kvs.length < 1000000
      · rw [if_pos hlen] at eg4
        obtain rfl := Option.some.inj eg4
        have := keyU_v hkk r2.frz
        subst this
        have ht : DqKvs C.X.K G2 hkvs kvs := ht
        have hz : sizeLine = 16777216 := sizeLine_eq
        have hlen2 := kv_len ht
        have on : Own C.X.K C.FM G2 (upd H2 l (.dK (putK hkvs key v))) (.d .f) (.ref l) (.dict (putU kvs key u)) fun a => a = l := own_top upd_same (show topO _ _ (.dK _) (.dict _) from kv_put hv ht) rfl
        obtain ⟨r3, A3, hr, at3, st3⟩ := place_mut (T := fun _ => False) a2 g0 f0 d2 hlF on (fun b z => .inl ((hFF b).mpr z)) fun b z => z.elim
        have := q3 r3 hr
        subst this
        have stF := StpT.past st12 st3
        exact ⟨l, _, rfl, DPut.k hl (by omega), q A3 G2 _ σ at3 ⟨stF.ex, stF.keep, fun i hi b z => (stF.foot i hi b z).imp id fun z => z.imp (fun z => z.elim) id, stF.same⟩ fun _ _ => rfl⟩
      · rw [if_neg hlen] at eg4; cases eg4
    | _ => cases kk <;> first | cases eg2 | cases hu1⟩
def isNoneO {β : Type} : Option β → Bool
  | none => true
  | some _ => false
def uSetN (u k v : U) : Option U := match u with
  | .dict kvs => (keyU k).bind fun k => if (decide (kvs.length < 1000000) && isNoneO (valU kvs k)) = true then some (.dict (kvs ++ [(k, v)])) else none
  | _ => none
def subNM (i : Nat) (pm : Mo (List PK)) (mb : Mo U) (v : U) : S → Option S := fun s => (okS (pm s)).bind fun p => (okS (mb p.2)).bind fun k => (okS (atM i p.1 (fun u => (uSetN u k.1 v).map fun u' => (u', ())) k.2)).map (·.2)
def TgsJ (C : Ct) (Γ : List Mk) (tgs : List Expr) (m : List U → S → Option S) (md : List Nat) (Γ' : List Mk) : Prop :=
  Agr md Γ Γ' ∧ (∀ us s s', m us s = some s' → us.length = tgs.length) ∧ ∃ g, PGs C.X tgs g ∧ ∀ B A G H σ s vs us s', C.ok B → At C.X.K C.FM B Γ A G H σ s → DqAll C.X.K G vs us → m us s = some s' → ∀ Q : L2.St → Hp → Prop,
    (∀ A' G' H' σ', At C.X.K C.FM B Γ' A' G' H' σ' s' → Stp md A A' G H G' H' s s' → (∀ i, i ∉ md → σ'[i]? = σ[i]?) → Q σ' H') → g vs σ H Q
def tgnM (us : List U) (s : S) : Option S := match us with
  | [] => some s
  | _ => none
def tgcM (m : U → S → Option S) (ms : List U → S → Option S) (us : List U) (s : S) : Option S := match us with
  | u :: us => (m u s).bind (ms us)
  | [] => none
theorem Stp.toT (x : Stp md A A' G H G' H' s s') : StpT md F A A' G H G' H' s s' := ⟨x.ex, x.keep, fun i hi a z => (x.foot i hi a z).imp id .inr, x.same⟩
theorem tgn_ : TgsJ C Γ [] tgnM [] Γ := ⟨.refl, fun us s s' h => (match us, h with | [], _ => rfl), _, pgs_nil, fun B A G H σ s vs us s' hB a hd em Q q => by
  cases us with
  | nil =>
    cases hd
    cases em
    exact ⟨rfl, q A G H σ a Stp.refl fun _ _ => rfl⟩
  | cons _ _ => cases em⟩
theorem tgc_ {mt : U → S → Option S} {mts : List U → S → Option S} (h : TgJ C Γ tg .f mt md Γ1) (k : TgsJ C Γ1 tgs mts md2 Γ2) (hs : (assignEach (tg :: tgs) C.X.env).map (·.2) = assign tg C.X.env :: (assignEach tgs C.X.env).map (·.2) := by rfl) : TgsJ C Γ (tg :: tgs) (tgcM mt mts) (md ++ md2) Γ2 := by
  obtain ⟨ag, g, hg, h⟩ := h
  obtain ⟨ag2, hl2, g2, hg2, k⟩ := k
  refine ⟨ag.trans ag2, fun us s s' em => ?_, _, pgs_cons hg hg2 hs, fun B A G H σ s vs us s' hB a hd em Q q => ?_⟩
  · cases us with
    | nil => cases em
    | cons u us =>
      obtain ⟨s1, e1, e2⟩ := Option.bind_eq_some_iff.mp (show (mt u s).bind (mts us) = some s' from em)
      simp [hl2 us s1 s' e2]
  · cases us with
    | nil => cases em
    | cons u us =>
      cases hd with
      | @cons v vs _ _ h1 h2 =>
        obtain ⟨s1, e1, e2⟩ := Option.bind_eq_some_iff.mp (show (mt u s).bind (mts us) = some s' from em)
        refine ⟨v, vs, rfl, h B A G H σ s v u (fun _ => False) s1 hB a (.f h1 fun _ z => z) (fun _ z => z.elim) e1 _ fun A1 G1 H1 σ1 a1 st1 hs1 => ?_⟩
        exact k B A1 G1 H1 σ1 s1 vs us s' hB a1 (dpAll_ex st1.ex _ _ h2) e2 Q fun A2 G2 H2 σ2 a2 st2 hs2 => q A2 G2 H2 σ2 a2 (st1.stp.trans st2) fun i hi => (hs2 i fun z => hi (List.mem_append_right _ z)).trans (hs1 i fun z => hi (List.mem_append_left _ z))
def ttM (ms : List U → S → Option S) (u : U) (s : S) : Option S := match u with
  | .tuple us => ms us s
  | _ => none
theorem ttup_ {mts : List U → S → Option S} {kk : Nat} (hc : C.X.calm = true) (h : TgsJ C Γ tgs mts md Γ1) (hn : (assignEach tgs C.X.env).length = tgs.length := by rfl) (hst : (assignEach tgs C.X.env).findIdx? (·.1) = none := by rfl) : TgJ C Γ (.Tuple tgs kk pos) .f (ttM mts) md Γ1 := by
  obtain ⟨ag, hl, g, hg, h⟩ := h
  refine ⟨ag, _, pg_tup hc hg hn hst, fun B A G H σ s v u F s' hB a o hF em Q q => ?_⟩
  cases o with
  | o _ hk => cases hk
  | f hd hn =>
    cases u with
    | tuple us =>
      cases hd with
      | tup hs ha => exact ⟨_, _, rfl, .inl (.inl (a.sub _ _ hs)), (dpAll_len ha).trans (hl us s s' em), h B A G H σ s _ us s' hB a ha em Q fun A' G' H' σ' a' st hs' => q A' G' H' σ' a' st.toT hs'⟩
    | _ => cases em
/-- x, y = a, b: stored from the right -/
def parM (i j : Nat) (ma mb : Mo U) : Mo (Option U) := .bind ma fun u => .bind mb fun v s => .ok none ((s.set i u).set j v)
theorem kf_len {fm : Str → Mk} : ∀ {vs : List (Str × V)} {us : List (Str × U)} {ks : List Kid}, KF fm vs us ks → vs.length = us.length
  | _, _, _, .nil => rfl
  | _, _, _, .cons h => by simp [kf_len h]
theorem OwnAll.fput {K : PySem.W.Frag} {FM : FMap} {fm : Str → Mk} {f : Str} {v : V} {u : U} : ∀ {vs : List (Str × V)} {us : List (Str × U)} {ks : List Kid} {B F : Fp}, KF fm vs us ks → OwnAll K FM G H ks B → Own K FM G H (fm f) v u F → (∀ a, F a → ¬ B a) →
    ∃ ks' B', KF fm (putF f v vs) (putUF f u us) ks' ∧ OwnAll K FM G H ks' B' ∧ ∀ a, B' a → B a ∨ F a
  | _, _, _, B, F, .nil, h, o, d => ⟨_, F, .cons .nil, .cons o (.nil (A := fun _ => False) fun _ z => z) (fun _ _ z => z) fun a => ⟨.inl, fun z => z.elim id fun z => z.elim⟩, fun a z => .inr z⟩
  | _, _, _, B, F, .cons (k := g) (v := v0) (u := u0) kf, .cons (A := A) (B := B0) h1 h2 h3 h4, o, d => by
    by_cases hg : g = f
    · subst hg
      refine ⟨_, fun a => F a ∨ B0 a, by rw [putF, putUF, if_pos rfl, if_pos rfl]; exact .cons kf, .cons o h2 (fun a z w => d a z ((h4 a).mpr (.inr w))) fun a => Iff.rfl, fun a z => z.elim .inr fun z => .inl ((h4 a).mpr (.inr z))⟩
    · obtain ⟨ks', B', a1, a2, a3⟩ := OwnAll.fput kf h2 o fun a z w => d a z ((h4 a).mpr (.inr w))
      refine ⟨_, fun a => A a ∨ B' a, by rw [putF, putUF, if_neg hg, if_neg hg]; exact .cons a1, .cons h1 a2 (fun a z w => ?_) fun a => Iff.rfl, fun a z => ?_⟩
      · rcases a3 a w with w | w
        · exact h3 a z w
        · exact d a w ((h4 a).mpr (.inl z))
      · rcases z with z | z
        · exact .inl ((h4 a).mpr (.inl z))
        · exact (a3 a z).imp (fun z => (h4 a).mpr (.inr z)) id
def fldM (cn f : Str) (i : Nat) (pm : Mo (List PK)) (m : Mo U) : Mo (Option U) := .bind m fun v => .bind pm fun p => .bind (atM i p fun u => match u with
  | .ins c fs => if c = cn ∧ fs.length < 1000 then some (.ins c (putUF f v fs), ()) else none
  | _ => none) fun _ => .pure none
theorem sfld_ {cn : Str} (hc : Cls C.X.K (clsAt C.X.K cn)) (hn : NoAttr C.X.K (clsAt C.X.K cn) f) (h : EJ C Γ e m md (.val k) Γ1) (hp : PJ C Γ1 a pm i (.i cn)) (hk : C.FM cn f = k := by rfl)
    (hs : swapsWith e (some (.Attribute a f p2)) pos.line C.X.env = pure false := by rfl) : SJ C R Γ (.Assign [.Attribute a f p2] e pos) (fldM cn f i pm m) (md ++ [i]) Γ1 :=
  ⟨h.1.mono fun i hi => List.mem_append_left _ hi, fun B A G H σ s hB at_ D q => by
  subst hk
  refine SS.of (ps_fld (ta := SE C.X a) pe_se pe_se hs) (h.2 B A G H σ s hB at_ _ (wp_mono (wp_bind.mp q) (fun v s1 q1 vv A1 G1 H1 a1 st1 r1 => hp B A1 G1 H1 σ s1 hB a1 _ (wp_mono (wp_bind.mp q1) (fun pp s2 q2 v1 G2 H2 m0 v0 u0 u1 F1 a2 st2 g0 gn f0 f1 d1 => ?_) fun e s h c d G' H' y => h c d σ G' H' ((XStp.after st1 y).mono fun i hi => by simp at hi; simp [hi]) (fun _ _ => rfl) rfl)) (xs_x fun i hi => List.mem_append_left _ hi)))
  obtain ⟨F, o, t⟩ := r1
  have tM := tmp_M at_ t
  obtain ⟨t, o⟩ := t.later o st2
  have q2 := wp_bind.mp q2
  obtain ⟨u', d, eg, q3⟩ := atM_of q2 f1 d1.get
  cases u1 with
  | ins c fs =>
    have eg : (if c = cn ∧ fs.length < 1000 then some (U.ins c (putUF f v fs), ()) else none) = some (u', d) := eg
    by_cases hcf : c = cn ∧ fs.length < 1000
    · rw [if_pos hcf] at eg
      obtain ⟨rfl, _⟩ := Prod.mk.inj (Option.some.inj eg)
      obtain ⟨rfl, hlen⟩ := hcf
      have o1 := d1.own
      cases o1 with
      | @o _ l ob _ ks _ B0 h1 h2 h3 h4 h5 =>
        cases h2 with
        | @i _ dx vs _ _ kf =>
          have hlF : F1 l := (h5 l).mpr (.inl rfl)
          have dF : ∀ b, F b → ¬ B0 b := fun b z w => t.no b z i (d1.sub b ((h5 b).mpr (.inr w)))
          obtain ⟨ks', B', kf', oB, hB'⟩ := OwnAll.fput kf h3 o dF
          have nl : ∀ b, B' b → b ≠ l := fun b z w => by
            subst w
            rcases hB' _ z with y | y
            · exact h4 y
            · exact t.no _ y i (d1.sub _ hlF)
          have on : Own C.X.K C.FM G2 (upd H2 l (.ins (clsAt C.X.K c) dx (putF f vv vs))) (.i c) (.ref l) (.ins c (putUF f v fs)) fun b => b = l ∨ B' b :=
            .o upd_same (.i kf') (oB.frame (Ex.refl _) fun b ob z e => by rw [upd_ne (nl b z)]; exact e) (fun z => nl l z rfl) fun _ => Iff.rfl
          obtain ⟨r3, A3, hr, at3, st3⟩ := place_mut (T := F) a2 g0 f0 d1 hlF on (fun b z => by
            rcases z with z | z
            · exact .inl ((h5 b).mpr (.inl z))
            · exact (hB' b z).imp (fun y => (h5 b).mpr (.inr y)) id) fun b z => ⟨t.g b z, t.no b z, tM b z⟩
          have hl2 := kf_len kf
          exact ⟨l, _, dx, vs, rfl, h1, hc, hn, by omega, q3 r3 hr A3 G2 _ σ at3 ((StpT.after (st1.trans st2) (t.mono fun i hi => List.mem_append_left _ hi) st3).mono fun i hi => by simpa using hi) fun _ _ => rfl⟩
    · rw [if_neg hcf] at eg; cases eg
  | _ => cases eg⟩
def augM (i : Nat) (g : U → U → Option U) (m : Mo U) : Mo (Option U) := .bind (vM i) fun x => .bind m fun y => .bind (.ofOpt (g x y)) fun z s => .ok none (s.set i z)
end
end V4
namespace V4
open PySem PySem.Spec PyProof.Rows L2 L3
/-- a def's parameters (their marks; lent: changed for the caller), what it hands back -/
structure Sig where
  ps : List (Mk × Bool)
  ret : Mk
def Sig.lents (sg : Sig) : List Nat := (List.range sg.ps.length).filter fun i => match sg.ps[i]? with | some (_, true) => true | _ => false
abbrev Fn := List U → Out (List U) U
section
variable (K : PySem.W.Frag) (FM : FMap)
structure EntOk (sg : Sig) (vs : List V) (us : List U) (A : Foot) (G H : Hp) : Prop where
  lv : vs.length = sg.ps.length
  lu : us.length = sg.ps.length
  sub : Ex G H
  own : ∀ (i : Nat) p v u, sg.ps[i]? = some p → vs[i]? = some v → us[i]? = some u → Own K FM G H p.1 v u (A i)
  g : ∀ i a, A i a → G a = none ∧ i < sg.ps.length
  dis : ∀ i j a, A i a → A j a → i = j
  glk : ∀ a o, G a = some o → isDct o = false
structure ExiOk (sg : Sig) (vs : List V) (A : Foot) (G H : Hp) (r : U) (fin : List U) (v : V) (A' : Foot) (F : Fp) (G' H' : Hp) : Prop where
  sub : Ex G' H'
  glk : ∀ a o, G' a = some o → isDct o = false
  post : Post (fun a => ∃ i, A i a) G H G' H'
  lent : ∀ (n i : Nat), sg.lents[n]? = some i → ∃ k v u, sg.ps[i]? = some (k, true) ∧ vs[i]? = some v ∧ fin[n]? = some u ∧ Own K FM G' H' k v u (A' i)
  g : ∀ i a, A' i a → G' a = none ∧ ((∃ j, A j a) ∨ H a = none)
  dis : ∀ i j a, A' i a → A' j a → i = j
  ret : Own K FM G' H' sg.ret v r F
  new : ∀ a, F a → G' a = none ∧ (∀ i, ¬ A' i a) ∧ ((∃ j, A j a) ∨ H a = none)
def SpOf (sg : Sig) (f : Fn) : Sp := fun vs H Q E => ∃ us G A, EntOk K FM sg vs us A G H ∧
  (f us).wp (fun r fin => ∀ v A' F G' H', ExiOk K FM sg vs A G H r fin v A' F G' H' → Q v H')
    (fun e _ => ∀ c d G' H', Ex G' H' → (∀ a o, G' a = some o → isDct o = false) → Post (fun a => ∃ i, A i a) G H G' H' → ErrOk K (clsAt K) e c d G' → E c d H')
end
/-- (the how manieth of the lent ones, the parameter, the caller's slot) -/
abbrev LL := List (Nat × Nat × Nat)
def LL.has (L : LL) (j : Nat) : Option (Nat × Nat) := (L.find? fun t => t.2.2 == j).map fun t => (t.1, t.2.1)
def wrL (fin : List U) : LL → S → S
  | [], s => s
  | (n, _, j) :: L, s => (wrL fin L s).set j (fin.getD n .none)
def callM (f : Fn) (L : LL) (ms : Mo (List U)) : Mo U := .bind ms fun us s => match f us with
  | .ok r fin => .ok r (wrL fin L s)
  | .exc e _ => .exc e s
  | .stuck => .stuck
def argB (rs : List Rk) (ps : List (Mk × Bool)) (L : LL) (i : Nat) : Bool := match rs[i]?, ps[i]? with
  | some (.val k), some (k', _) => decide (k = k')
  | some (.slot j k), some (k', true) => decide (k = k') && decide (k ≠ .n) && decide (k ≠ .f) && L.any fun t => t.2.1 == i && t.2.2 == j
  | _, _ => false
def callB (rs : List Rk) (sg : Sig) (L : LL) (Γ : List Mk) : Bool := decide (rs.length = sg.ps.length) && (List.range rs.length).all (argB rs sg.ps L) &&
  (L.all fun t => decide (sg.lents[t.1]? = some t.2.1) && (match rs[t.2.1]? with | some (.slot j k) => j == t.2.2 && decide (Γ[j]? = some k) | _ => false)) && decide ((L.map fun t => t.2.2).Nodup)
section
variable {K : PySem.W.Frag} {FM : FMap} {B : Bs} {Γ : List Mk} {A A' A2 : Foot} {G H G' H' G2 H2 : Hp} {σ : L2.St} {s s' s2 : S} {md md2 : List Nat}
/-- the parts of things in hand -/
theorem PendAll.parts : ∀ {rs : List Rk} {vs : List V} {us : List U} {T : Fp}, PendAll K FM md A H A' G' H' σ s' rs vs us T → ∃ fs : List Fp, fs.length = rs.length ∧
    (∀ (i : Nat) r v u f, rs[i]? = some r → vs[i]? = some v → us[i]? = some u → fs[i]? = some f → Own K FM G' H' r.mk v u f ∧ (match r with
      | .val _ => ∀ a, f a → T a
      | .slot j _ => f = A' j ∧ σ[j]? = some (some v) ∧ s'[j]? = some u
      | .view j _ => ∀ a, f a → A' j a)) ∧
    (∀ (i j : Nat) k k' f g a, rs[i]? = some (.val k) → rs[j]? = some (.val k') → fs[i]? = some f → fs[j]? = some g → f a → g a → i = j)
  | [], [], [], T, h => ⟨[], rfl, fun i r v u f e => by simp at e, fun i j k k' f g a e => by simp at e⟩
  | .val k :: rs, v :: vs, u :: us, T, ⟨F, T', o, t, p, d, e⟩ => by
    obtain ⟨fs, l, h1, h2⟩ := PendAll.parts p
    have hT : ∀ (i : Nat) k f a, rs[i]? = some (.val k) → fs[i]? = some f → f a → T' a := fun i k f a e1 e2 z => by
      have hl := p.len
      have hi : i < rs.length := (List.getElem?_eq_some_iff.mp e1).1
      exact (h1 i (.val k) vs[i] us[i] f e1 (List.getElem?_eq_getElem (by omega)) (List.getElem?_eq_getElem (by omega)) e2).2 a z
    refine ⟨F :: fs, by simp [l], fun i r v' u' f e1 e2 e3 e4 => ?_, fun i j k1 k2 f g a e1 e2 e3 e4 z w => ?_⟩
    · cases i with
      | zero =>
        simp at e1 e2 e3 e4
        subst e1 e2 e3 e4
        exact ⟨o, fun a z => (e a).mpr (.inl z)⟩
      | succ i =>
        obtain ⟨y1, y2⟩ := h1 i r v' u' f (by simpa using e1) (by simpa using e2) (by simpa using e3) (by simpa using e4)
        refine ⟨y1, ?_⟩
        cases r with
        | val _ => exact fun a z => (e a).mpr (.inr (y2 a z))
        | slot _ _ => exact y2
        | view _ _ => exact y2
    · cases i with
      | zero =>
        cases j with
        | zero => rfl
        | succ j =>
          simp at e3
          subst e3
          exact (d a z (hT j k2 g a (by simpa using e2) (by simpa using e4) w)).elim
      | succ i =>
        cases j with
        | zero =>
          simp at e4
          subst e4
          exact (d a w (hT i k1 f a (by simpa using e1) (by simpa using e3) z)).elim
        | succ j => rw [h2 i j k1 k2 f g a (by simpa using e1) (by simpa using e2) (by simpa using e3) (by simpa using e4) z w]
  | .view i0 k :: rs, v :: vs, u :: us, T, ⟨⟨F, o, q⟩, p⟩ => by
    obtain ⟨fs, l, h1, h2⟩ := PendAll.parts (rs := rs) p
    refine ⟨F :: fs, by simp [l], fun i r v' u' f e1 e2 e3 e4 => ?_, fun i j k1 k2 f g a e1 e2 e3 e4 z w => ?_⟩
    · cases i with
      | zero =>
        simp at e1 e2 e3 e4
        subst e1 e2 e3 e4
        exact ⟨o, q⟩
      | succ i => exact h1 i r v' u' f (by simpa using e1) (by simpa using e2) (by simpa using e3) (by simpa using e4)
    · cases i with
      | zero => simp at e1
      | succ i =>
        cases j with
        | zero => simp at e2
        | succ j => rw [h2 i j k1 k2 f g a (by simpa using e1) (by simpa using e2) (by simpa using e3) (by simpa using e4) z w]
  | .slot i0 k :: rs, v :: vs, u :: us, T, ⟨⟨o, q1, q2⟩, p⟩ => by
    obtain ⟨fs, l, h1, h2⟩ := PendAll.parts (rs := rs) p
    refine ⟨A' i0 :: fs, by simp [l], fun i r v' u' f e1 e2 e3 e4 => ?_, fun i j k1 k2 f g a e1 e2 e3 e4 z w => ?_⟩
    · cases i with
      | zero =>
        simp at e1 e2 e3 e4
        subst e1 e2 e3 e4
        exact ⟨o, rfl, q1, q2⟩
      | succ i => exact h1 i r v' u' f (by simpa using e1) (by simpa using e2) (by simpa using e3) (by simpa using e4)
    · cases i with
      | zero => simp at e1
      | succ i =>
        cases j with
        | zero => simp at e2
        | succ j => rw [h2 i j k1 k2 f g a (by simpa using e1) (by simpa using e2) (by simpa using e3) (by simpa using e4) z w]
  | [], _ :: _, _, _, h => h.elim
  | [], [], _ :: _, _, h => h.elim
theorem wrL_len (fin : List U) : ∀ (L : LL) (s : S), (wrL fin L s).length = s.length
  | [], _ => rfl
  | (_, _, _) :: L, s => by rw [wrL, List.length_set, wrL_len fin L]
theorem wrL_out (fin : List U) {j : Nat} : ∀ (L : LL) (s : S), (∀ t ∈ L, t.2.2 ≠ j) → (wrL fin L s)[j]? = s[j]?
  | [], _, _ => rfl
  | (n, i, j') :: L, s, h => by
    rw [wrL, List.getElem?_set_ne (h _ List.mem_cons_self)]
    exact wrL_out fin L s fun t ht => h t (List.mem_cons_of_mem _ ht)
theorem wrL_in (fin : List U) {n i j : Nat} : ∀ (L : LL) (s : S), (L.map fun t => t.2.2).Nodup → (n, i, j) ∈ L → j < s.length → (wrL fin L s)[j]? = some (fin.getD n .none)
  | (n', i', j') :: L, s, nd, h, hl => by
    rw [List.map_cons, List.nodup_cons] at nd
    rw [wrL]
    rcases List.mem_cons.mp h with e | e
    · cases e
      exact List.getElem?_set_self (by rw [wrL_len]; exact hl)
    · have hne : j' ≠ j := fun z => nd.1 (List.mem_map.mpr ⟨_, e, z.symm⟩)
      rw [List.getElem?_set_ne hne]
      exact wrL_in fin L s nd.2 e hl
end
section
variable {C : Ct} {Γ Γ1 : List Mk} {e : Expr} {md : List Nat} {rs : List Rk} {ms : Mo (List U)} {t : TA} {sg : Sig} {f : Fn} {L : LL}
theorem call_core (ha : GJ C Γ t ms md rs Γ1) (hb : callB rs sg L Γ1 = true) {B : Bs} {A : Foot} {G H : Hp} {σ : L2.St} {s : S} (hB : C.ok B) (at_ : At C.X.K C.FM B Γ A G H σ s) (Q : VK)
    (q : (callM f L ms s).wp (fun u s' => ∀ v A' G' H', At C.X.K C.FM B Γ1 A' G' H' σ s' → Stp (md ++ L.map fun t => t.2.2) A A' G H G' H' s s' → RkOk C.X.K C.FM (.val sg.ret) (md ++ L.map fun t => t.2.2) A H A' G' H' σ s' v u → Q v H') (Xw C (md ++ L.map fun t => t.2.2) A G H σ)) :
    t σ H fun vs H1 => SpOf C.X.K C.FM sg f vs H1 Q fun c d H' => C.W c d σ H' := by
  refine ha.2 B A G H σ s hB at_ _ (wp_mono (wp_bind.mp q) (fun us s1 q1 vs A1 G1 H1 T a1 st1 p1 => ?_) xw_l)
  unfold callB at hb
  simp only [Bool.and_eq_true, decide_eq_true_eq, List.all_eq_true, List.mem_range] at hb
  obtain ⟨⟨⟨hlen, harg⟩, hL⟩, hnd⟩ := hb
  obtain ⟨fs, lf, hp1, hp2⟩ := p1.parts
  obtain ⟨lv, lu⟩ := p1.len
  have tT := p1.tmp
  -- what a parameter's part is
  let Aa : Foot := fun i a => ∃ f, fs[i]? = some f ∧ f a
  have part : ∀ i, i < rs.length → ∃ r v u f p, rs[i]? = some r ∧ vs[i]? = some v ∧ us[i]? = some u ∧ fs[i]? = some f ∧ sg.ps[i]? = some p ∧ r.mk = p.1 ∧ Own C.X.K C.FM G1 H1 p.1 v u f ∧ ((∃ k, r = .val k ∧ ∀ a, f a → T a) ∨ ∃ j k, r = .slot j k ∧ p.2 = true ∧ k ≠ .n ∧ f = A1 j ∧ σ[j]? = some (some v) ∧ s1[j]? = some u ∧ ∃ n, (n, i, j) ∈ L) := fun i hi => by
    have hr : rs[i]? = some rs[i] := List.getElem?_eq_getElem hi
    have hv : vs[i]? = some vs[i] := List.getElem?_eq_getElem (by omega)
    have hu : us[i]? = some us[i] := List.getElem?_eq_getElem (by omega)
    have hf : fs[i]? = some fs[i] := List.getElem?_eq_getElem (by omega)
    have hps : sg.ps[i]? = some sg.ps[i] := List.getElem?_eq_getElem (by omega)
    obtain ⟨o, z⟩ := hp1 i _ _ _ _ hr hv hu hf
    have hab := harg i hi
    unfold argB at hab
    rw [hr, hps] at hab
    refine ⟨_, _, _, _, _, hr, hv, hu, hf, hps, ?_⟩
    cases er : rs[i] with
    | val k =>
      rw [er] at hab o z
      cases ep : sg.ps[i] with
      | mk k' b =>
        rw [ep] at hab
        have hk : k = k' := by simpa using hab
        subst hk
        exact ⟨rfl, o, .inl ⟨k, rfl, z⟩⟩
    | view j k =>
      rw [er] at hab
      cases ep : sg.ps[i] with
      | mk k' b => rw [ep] at hab; cases hab
    | slot j k =>
      rw [er] at hab o z
      cases ep : sg.ps[i] with
      | mk k' b =>
        rw [ep] at hab
        cases b with
        | false => cases hab
        | true =>
          simp only [Bool.and_eq_true, decide_eq_true_eq, List.any_eq_true, beq_iff_eq] at hab
          obtain ⟨⟨⟨rfl, hn⟩, _⟩, ⟨n, i', j'⟩, hm, h1, h2⟩ := hab
          simp only at h1 h2
          subst h1 h2
          exact ⟨rfl, o, .inr ⟨_, k, rfl, rfl, hn, z.1, z.2.1, z.2.2, n, hm⟩⟩
  have lSlot : ∀ n i j, (n, i, j) ∈ L → sg.lents[n]? = some i ∧ i < rs.length ∧ ∃ k, rs[i]? = some (.slot j k) ∧ Γ1[j]? = some k := fun n i j hm => by
    obtain ⟨h1, h2⟩ := hL _ hm
    simp only at h1 h2
    cases er : rs[i]? with
    | none => rw [er] at h2; cases h2
    | some r =>
      rw [er] at h2
      cases r with
      | slot j' k =>
        simp only [Bool.and_eq_true, beq_iff_eq, decide_eq_true_eq] at h2
        obtain ⟨rfl, h3⟩ := h2
        exact ⟨h1, (List.getElem?_eq_some_iff.mp er).1, k, rfl, h3⟩
      | val _ => cases h2
      | view _ _ => cases h2
  have uniqL : ∀ n i j n' i', (n, i, j) ∈ L → (n', i', j) ∈ L → n = n' ∧ i = i' := fun n i j n' i' h h' => by
    clear q q1 harg hL part lSlot
    induction L with
    | nil => cases h
    | cons t L ih =>
      rw [List.map_cons, List.nodup_cons] at hnd
      rcases List.mem_cons.mp h with e | e
      · rcases List.mem_cons.mp h' with e' | e'
        · rw [← e] at e'; cases e'; exact ⟨rfl, rfl⟩
        · exact (hnd.1 (List.mem_map.mpr ⟨_, e', by rw [← e]⟩)).elim
      · rcases List.mem_cons.mp h' with e' | e'
        · exact (hnd.1 (List.mem_map.mpr ⟨_, e, by rw [← e']⟩)).elim
        · exact ih hnd.2 e e'
  have aaT : ∀ i a, Aa i a → T a ∨ ∃ n j, (n, i, j) ∈ L ∧ A1 j a := fun i a ⟨f, ef, z⟩ => by
    have hi : i < rs.length := by rw [← lf]; exact (List.getElem?_eq_some_iff.mp ef).1
    obtain ⟨r, v, u, f', p, _, _, _, ef', _, _, _, h⟩ := part i hi
    rw [ef] at ef'
    cases ef'
    rcases h with ⟨k, _, h⟩ | ⟨j, k, _, _, _, rfl, _, _, n, hm⟩
    · exact .inl (h a z)
    · exact .inr ⟨n, j, hm, z⟩
  have aaL : ∀ n i j a, (n, i, j) ∈ L → (Aa i a ↔ A1 j a) := fun n i j a hm => by
    obtain ⟨_, hi, k, hr, _⟩ := lSlot n i j hm
    obtain ⟨r, v, u, f', p, hr', _, _, ef', _, _, _, h⟩ := part i hi
    rw [hr] at hr'
    cases hr'
    rcases h with ⟨k', e, _⟩ | ⟨j', k', e, _, _, rfl, _⟩
    · cases e
    · cases e
      exact ⟨fun ⟨f, ef, z⟩ => by rw [ef'] at ef; cases ef; exact z, fun z => ⟨_, ef', z⟩⟩
  have aaLive : ∀ i a, Aa i a → G1 a = none ∧ (∃ o, H1 a = some o) ∧ (B.M a ∨ B.H0 a = none) := fun i a z => by
    rcases aaT i a z with w | ⟨n, j, _, w⟩
    · obtain ⟨f, ef, y⟩ := z
      have hi : i < rs.length := by rw [← lf]; exact (List.getElem?_eq_some_iff.mp ef).1
      obtain ⟨r, v, u, f', p, _, _, _, ef', _, _, o, _⟩ := part i hi
      rw [ef] at ef'
      cases ef'
      exact ⟨tT.g a w, o.live a y, tmp_M at_ tT a w⟩
    · exact a1.own j a w
  have aaDis : ∀ i j a, Aa i a → Aa j a → i = j := fun i j a z w => by
    obtain ⟨f, ef, zf⟩ := z
    obtain ⟨g, eg, wg⟩ := w
    have hi : i < rs.length := by rw [← lf]; exact (List.getElem?_eq_some_iff.mp ef).1
    have hj : j < rs.length := by rw [← lf]; exact (List.getElem?_eq_some_iff.mp eg).1
    obtain ⟨r, _, _, f', _, hr, _, _, ef', _, _, _, h⟩ := part i hi
    obtain ⟨r2, _, _, g', _, hr2, _, _, eg', _, _, _, h2⟩ := part j hj
    rw [ef] at ef'
    rw [eg] at eg'
    cases ef'
    cases eg'
    rcases h with ⟨k, rfl, h⟩ | ⟨j1, k, rfl, _, _, rfl, _, _, n1, m1⟩
    · rcases h2 with ⟨k2, rfl, h2⟩ | ⟨j2, k2, rfl, _, _, rfl, _⟩
      · exact hp2 i j k k2 f g a hr hr2 ef eg zf wg
      · exact (tT.no a (h a zf) j2 wg).elim
    · rcases h2 with ⟨k2, rfl, h2⟩ | ⟨j2, k2, rfl, _, _, rfl, _, _, n2, m2⟩
      · exact (tT.no a (h2 a wg) j1 zf).elim
      · have := a1.dis j1 j2 a zf wg
        subst this
        exact (uniqL _ _ _ _ _ m1 m2).2
  have ent : EntOk C.X.K C.FM sg vs us Aa G1 H1 := ⟨by omega, by omega, a1.sub, fun i p v u e1 e2 e3 => by
    have hi : i < rs.length := by rw [hlen]; exact (List.getElem?_eq_some_iff.mp e1).1
    obtain ⟨r, v', u', f', p', _, hv, hu, ef', hp, _, o, _⟩ := part i hi
    rw [e1] at hp; rw [e2] at hv; rw [e3] at hu
    cases hp; cases hv; cases hu
    exact o.fp fun a => ⟨fun ⟨f, ef, z⟩ => by rw [ef'] at ef; cases ef; exact z, fun z => ⟨_, ef', z⟩⟩, fun i a z => ⟨(aaLive i a z).1, by
      obtain ⟨f, ef, _⟩ := z
      rw [← hlen, ← lf]; exact (List.getElem?_eq_some_iff.mp ef).1⟩, aaDis, a1.glk⟩
  -- what is new since the start
  have nwH : ∀ b, H1 b = none → (∃ j ∈ md ++ L.map fun t => t.2.2, A j b) ∨ H b = none := fun b w => by
    cases e : H b with
    | none => exact .inr rfl
    | some o =>
      by_cases k : ∃ j ∈ md, A j b
      · obtain ⟨j, hj, k⟩ := k; exact .inl ⟨j, List.mem_append_left _ hj, k⟩
      · have := (st1.keep b o e fun i hi z => k ⟨i, hi, z⟩).1
        rw [w] at this; cases this
  have nwA : ∀ j b, j ∈ (md ++ L.map fun t => t.2.2) → A1 j b → (∃ j ∈ md ++ L.map fun t => t.2.2, A j b) ∨ H b = none := fun j b hj w => by
    by_cases hm : j ∈ md
    · exact (st1.foot j hm b w).imp (fun ⟨j, hj, z⟩ => ⟨j, List.mem_append_left _ hj, z⟩) id
    · rw [(st1.same j hm).1] at w; exact .inl ⟨j, hj, w⟩
  have nwAa : ∀ i b, Aa i b → (∃ j ∈ md ++ L.map fun t => t.2.2, A j b) ∨ H b = none := fun i b z => by
    rcases aaT i b z with w | ⟨n, j, hm, w⟩
    · exact (tT.nw b w).imp (fun ⟨j, hj, z⟩ => ⟨j, List.mem_append_left _ hj, z⟩) id
    · exact nwA j b (List.mem_append_right _ (List.mem_map.mpr ⟨_, hm, rfl⟩)) w
  refine ⟨us, G1, Aa, ent, ?_⟩
  have q1 : Out.wp (match f us with
    | .ok r fin => Out.ok r (wrL fin L s1)
    | .exc e _ => Out.exc e s1
    | .stuck => .stuck) _ _ := q1
  cases hfu : f us with
  | stuck => rw [hfu] at q1; exact q1.elim
  | exc er fin =>
    rw [hfu] at q1
    intro c d G' H' ex nd po eo
    refine q1 c d G' H' ⟨st1.ex.trans po.1, ex, fun b o e h => ?_, nd⟩ eo
    obtain ⟨h1, g1⟩ := st1.keep b o e fun i hi => h i (List.mem_append_left _ hi)
    obtain ⟨h2, g2⟩ := po.2 b o h1 fun ⟨i, z⟩ => by
      rcases nwAa i b z with ⟨j, hj, w⟩ | w
      · exact h j hj w
      · rw [e] at w; cases w
    exact ⟨h2, g2.trans g1⟩
  | ok r fin =>
    rw [hfu] at q1
    intro v A' F G' H' ex
    -- the slots' parts behind the call
    let A2 : Foot := fun j a => (∃ n i, (n, i, j) ∈ L ∧ A' i a) ∨ ((∀ n i, (n, i, j) ∉ L) ∧ A1 j a)
    have notL : ∀ j, (∀ n i, (n, i, j) ∉ L) → A2 j = A1 j := fun j hj => by
      funext a
      exact propext ⟨fun z => z.elim (fun ⟨n, i, hm, _⟩ => (hj n i hm).elim) fun z => z.2, fun z => .inr ⟨hj, z⟩⟩
    have inL : ∀ n i j, (n, i, j) ∈ L → A2 j = A' i := fun n i j hm => by
      funext a
      refine propext ⟨fun z => z.elim (fun ⟨n', i', hm', z⟩ => ?_) fun z => (z.1 n i hm).elim, fun z => .inl ⟨n, i, hm, z⟩⟩
      rw [(uniqL _ _ _ _ _ hm hm').2]; exact z
    have keepOut : ∀ b o, H1 b = some o → (∀ i, ¬ Aa i b) → H' b = some o ∧ G' b = G1 b := fun b o e h => ex.post.2 b o e fun ⟨i, z⟩ => h i z
    have offAa : ∀ j b, (∀ n i, (n, i, j) ∉ L) → A1 j b → ∀ i, ¬ Aa i b := fun j b hj z i w => by
      rcases aaT i b w with w | ⟨n, j', hm, w⟩
      · exact tT.no b w j z
      · have := a1.dis j j' b z w
        subst this
        exact hj n i hm
    have a2 : At C.X.K C.FM B Γ1 A2 G' H' σ (wrL fin L s1) := by
      refine ⟨a1.len, by rw [wrL_len]; exact a1.lenU, ex.sub, a1.post.trans ex.post fun b o e ⟨i, z⟩ => ?_, fun j m hm hn => ?_, fun j b z => ?_, fun j j' b z w => ?_, a1.pin, ex.glk⟩
      · rcases (aaLive i b z).2.2 with y | y
        · exact y
        · rw [e] at y; cases y
      · by_cases hj : ∃ n i, (n, i, j) ∈ L
        · obtain ⟨n, i, hmL⟩ := hj
          obtain ⟨hle, hi, k, hr, hk⟩ := lSlot n i j hmL
          rw [hm] at hk
          cases hk
          obtain ⟨r', v', u', f', p', hr', hv', _, _, hp', ek, _, h⟩ := part i hi
          rw [hr] at hr'
          cases hr'
          rcases h with ⟨k', e, _⟩ | ⟨j', k', e, _, _, _, eσ, _⟩
          · cases e
          cases e
          obtain ⟨k2, v2, u2, hps, hv2, hf, o⟩ := ex.lent n i hle
          rw [hp'] at hps
          rw [hv'] at hv2
          cases hv2
          obtain rfl := Option.some.inj hps
          have ek : m = k2 := ek
          subst ek
          refine ⟨v', u2, eσ, ?_, by rw [inL n i j hmL]; exact o⟩
          rw [wrL_in fin L s1 hnd hmL (by rw [a1.lenU]; exact (List.getElem?_eq_some_iff.mp hm).1), List.getD_eq_getElem?_getD, hf]
          rfl
        · have hj' : ∀ n i, (n, i, j) ∉ L := fun n i h => hj ⟨n, i, h⟩
          obtain ⟨v', u', e1, e2, o⟩ := a1.slot j m hm hn
          refine ⟨v', u', e1, ?_, ?_⟩
          · rw [wrL_out fin L s1 fun t ht e => hj' t.1 t.2.1 (by rw [← e]; exact ht)]; exact e2
          · rw [notL j hj']
            exact o.frame ex.post.1 fun b ob z e => (keepOut b ob e (offAa j b hj' z)).1
      · by_cases hj : ∃ n i, (n, i, j) ∈ L
        · obtain ⟨n, i, hmL⟩ := hj
          rw [inL n i j hmL] at z
          obtain ⟨hg, hnw⟩ := ex.g i b z
          obtain ⟨hle, _⟩ := lSlot n i j hmL
          obtain ⟨k2, v2, u2, _, _, _, o⟩ := ex.lent n i hle
          refine ⟨hg, o.live b z, ?_⟩
          rcases hnw with ⟨i', w⟩ | w
          · exact (aaLive i' b w).2.2
          · rcases a1.fresh w with y | y
            · exact .inr y.2
            · exact .inl y
        · have hj' : ∀ n i, (n, i, j) ∉ L := fun n i h => hj ⟨n, i, h⟩
          rw [notL j hj'] at z
          obtain ⟨h1, ⟨o, h2⟩, h3⟩ := a1.own j b z
          obtain ⟨k1, k2⟩ := keepOut b o h2 (offAa j b hj' z)
          exact ⟨k2.trans h1, ⟨o, k1⟩, h3⟩
      · have cross : ∀ n i j j', (n, i, j) ∈ L → (∀ n i, (n, i, j') ∉ L) → A' i b → ¬ A1 j' b := fun n i j j' hm hj' z w => by
          rcases (ex.g i b z).2 with ⟨i', y⟩ | y
          · exact offAa j' b hj' w i' y
          · obtain ⟨o, e⟩ := a1.live w
            rw [y] at e; cases e
        by_cases hj : ∃ n i, (n, i, j) ∈ L
        · obtain ⟨n, i, hmL⟩ := hj
          rw [inL n i j hmL] at z
          by_cases hk : ∃ n i, (n, i, j') ∈ L
          · obtain ⟨n', i', hmL'⟩ := hk
            rw [inL n' i' j' hmL'] at w
            have := ex.dis i i' b z w
            subst this
            obtain ⟨_, _, _, hr, _⟩ := lSlot n i j hmL
            obtain ⟨_, _, _, hr', _⟩ := lSlot n' i j' hmL'
            rw [hr] at hr'
            cases hr'; rfl
          · have hk' : ∀ n i, (n, i, j') ∉ L := fun n i h => hk ⟨n, i, h⟩
            rw [notL j' hk'] at w
            exact (cross n i j j' hmL hk' z w).elim
        · have hj' : ∀ n i, (n, i, j) ∉ L := fun n i h => hj ⟨n, i, h⟩
          rw [notL j hj'] at z
          by_cases hk : ∃ n i, (n, i, j') ∈ L
          · obtain ⟨n', i', hmL'⟩ := hk
            rw [inL n' i' j' hmL'] at w
            exact (cross n' i' j' j hmL' hj' w z).elim
          · have hk' : ∀ n i, (n, i, j') ∉ L := fun n i h => hk ⟨n, i, h⟩
            rw [notL j' hk'] at w
            exact a1.dis j j' b z w
    refine q1 v A2 G' H' a2 ⟨st1.ex.trans ex.post.1, fun b o e h => ?_, fun j hj b z => ?_, fun j hj => ?_⟩ ⟨F, ex.ret, fun b z => (ex.new b z).1, fun b z j w => ?_, fun b z => ?_⟩
    · obtain ⟨h1, g1⟩ := st1.keep b o e fun i hi => h i (List.mem_append_left _ hi)
      obtain ⟨h2, g2⟩ := keepOut b o h1 fun i z => by
        rcases nwAa i b z with ⟨j, hj, w⟩ | w
        · exact h j hj w
        · rw [e] at w; cases w
      exact ⟨h2, g2.trans g1⟩
    · by_cases hj2 : ∃ n i, (n, i, j) ∈ L
      · obtain ⟨n, i, hmL⟩ := hj2
        rw [inL n i j hmL] at z
        rcases (ex.g i b z).2 with ⟨i', y⟩ | y
        · exact nwAa i' b y
        · exact nwH b y
      · have hj' : ∀ n i, (n, i, j) ∉ L := fun n i h => hj2 ⟨n, i, h⟩
        rw [notL j hj'] at z
        exact nwA j b hj z
    · have h1 : j ∉ md := fun z => hj (List.mem_append_left _ z)
      have h2 : ∀ n i, (n, i, j) ∉ L := fun n i z => hj (List.mem_append_right _ (List.mem_map.mpr ⟨_, z, rfl⟩))
      exact ⟨(notL j h2).trans (st1.same j h1).1, by rw [wrL_out fin L s1 fun t ht e => h2 t.1 t.2.1 (by rw [← e]; exact ht)]; exact (st1.same j h1).2⟩
    · obtain ⟨_, hno, hnw⟩ := ex.new b z
      by_cases hj2 : ∃ n i, (n, i, j) ∈ L
      · obtain ⟨n, i, hmL⟩ := hj2
        rw [inL n i j hmL] at w
        exact hno i w
      · have hj' : ∀ n i, (n, i, j) ∉ L := fun n i h => hj2 ⟨n, i, h⟩
        rw [notL j hj'] at w
        rcases hnw with ⟨i', y⟩ | y
        · exact offAa j b hj' w i' y
        · obtain ⟨o, e⟩ := a1.live w
          rw [y] at e; cases e
    · rcases (ex.new b z).2.2 with ⟨i, y⟩ | y
      · exact nwAa i b y
      · exact nwH b y
/-- a call by its rule -/
theorem call_ (rule : ∀ σ H (Q : VK), t σ H (fun vs H1 => SpOf C.X.K C.FM sg f vs H1 Q fun c d H' => C.W c d σ H') → SE C.X e σ H Q) (ha : GJ C Γ t ms md rs Γ1) (L : LL) (hb : callB rs sg L Γ1 = true := by rfl) :
    EJ C Γ e (callM f L ms) (md ++ L.map fun t => t.2.2) (.val sg.ret) Γ1 := ⟨ha.1.mono fun i hi => List.mem_append_left _ hi, fun B A G H σ s hB at_ Q q => rule σ H Q (call_core ha hb hB at_ Q q)⟩
end
end V4
namespace V4
open PySem PySem.Spec PyProof.Rows L2 L3
theorem own_n {K : PySem.W.Frag} {FM : FMap} {G H : Hp} {v : V} {u : U} {A : Fp} (h : Own K FM G H .n v u A) : False := by
  cases h with
  | o _ hk => cases hk
def Sig.lentM (sg : Sig) : List (Nat × Mk) := sg.lents.filterMap fun i => (sg.ps[i]?).map fun p => (i, p.1)
def Sig.Γ (sg : Sig) (n : Nat) : List Mk := sg.ps.map (·.1) ++ List.replicate n .n
/-- n: how many further slots -/
def runF (sg : Sig) (n : Nat) (m : Mo (Option U)) : Fn := fun us => match m (us ++ List.replicate n .none) with
  | .ok (some r) s' => .ok r (sg.lents.map fun i => s'.getD i .none)
  | .ok none s' => .ok .none (sg.lents.map fun i => s'.getD i .none)
  | .exc e _ => .exc e []
  | .stuck => .stuck
theorem Sig.lents_get {sg : Sig} {n i : Nat} (h : sg.lents[n]? = some i) : ∃ k, sg.ps[i]? = some (k, true) := by
  have hm := List.mem_of_getElem? h
  unfold Sig.lents at hm
  rw [List.mem_filter] at hm
  obtain ⟨_, h2⟩ := hm
  split at h2
  · rename_i k e; exact ⟨k, e⟩
  · cases h2
theorem Sig.lentM_mem {sg : Sig} {i : Nat} {k : Mk} (h : i ∈ sg.lents) (hk : sg.ps[i]? = some (k, true)) : (i, k) ∈ sg.lentM := by
  unfold Sig.lentM
  rw [List.mem_filterMap]
  exact ⟨i, h, by rw [hk]; rfl⟩
section
variable {P : Program} {wd : World} {K : PySem.W.Frag} {mg : Str → Option Value} {base : Heap} {FM : FMap} {x qual : Str} {st : Stmt} {f : Addr} {fd : FuncData} {N ps : List Str} {k : Nat} {sg : Sig} {m : Mo (Option U)} {md : List Nat} {Γ' : List Mk}
/-- where all arguments are frozen nothing is lent -/
theorem bp_of {K : PySem.W.Frag} {FM : FMap} {sg : Sig} {vs : List V} {us : List U} {A0 : Foot} {G H : Hp} (en : EntOk K FM sg vs us A0 G H) (h : (sg.ps.all fun p => decide (p.1 = .f)) = true) (a : Addr) : ¬ ∃ i, A0 i a := fun ⟨i, z⟩ => by
  obtain ⟨hg, hi⟩ := en.g i a z
  have hp : sg.ps[i]? = some sg.ps[i] := List.getElem?_eq_getElem hi
  obtain ⟨v, hv⟩ : ∃ v, vs[i]? = some v := ⟨_, List.getElem?_eq_getElem (by rw [en.lv]; exact hi)⟩
  obtain ⟨u, hu⟩ : ∃ u, us[i]? = some u := ⟨_, List.getElem?_eq_getElem (by rw [en.lu]; exact hi)⟩
  have o := en.own i _ _ _ hp hv hu
  have hm : sg.ps[i].1 = .f := by simpa using List.all_eq_true.mp h _ (List.getElem_mem hi)
  rw [hm] at o
  cases o with
  | f _ hn => exact hn a z
  | o _ hk => cases hk
abbrev bodyC (P : Program) (wd : World) (K : PySem.W.Frag) (mg : Str → Option Value) (base : Heap) (N : List Str) (qual : Str) (st : Stmt) (f : Addr) (cdv : Value) (A : Around) (outer : List PySem.Env) (s : Shared) (H : Hp) (E : XK) (FM : FMap) (sg : Sig) : Ct :=
  ⟨L3.cx P wd K mg base N qual st f cdv A outer s H E, FM, fun c d _ H => E c d H, sg.lents, fun B => B.H0 = H ∧ ((sg.ps.all fun p => decide (p.1 = .f)) = true → ∀ a, ¬ B.M a)⟩
theorem fn_ok (F : Fun K x qual st f fd) (Sc : FnScope N ps (defScope st)) (hlen : sg.ps.length = ps.length) (hend : (lok sg.lentM Γ' && decide (sg.ret = .f)) = true ∨ ∀ us, ∀ s', m us ≠ .ok none s')
    (hb : ∀ (cdv : Value) (A : Around) (outer : List PySem.Env) (s : Shared) (H : Hp) (E : XK), RoomG k (L3.cx P wd K mg base N qual st f cdv A outer s H E).A →
      SsJ (bodyC P wd K mg base N qual st f cdv A outer s H E FM sg) ⟨sg.ret, sg.lentM⟩ (sg.Γ (N.length - ps.length)) (defBody st) m md Γ') :
    FnG P wd K mg base (L2.CX P wd) (k + 1) f fd ps (SpOf K FM sg (runF sg (N.length - ps.length) m)) := by
  refine okG F Sc (fun vs H Q E h => ?_) (fun cdv A outer s H vs Q E hr h => ?_)
  · obtain ⟨us, G, A, en, _⟩ := h
    exact en.lv.trans hlen
  · obtain ⟨us, G, A0, en, q⟩ := h
    refine ⟨_, pss_sb, ?_⟩
    let B : Bs := ⟨fun a => ∃ i, A0 i a, G, H, sg.lents.filterMap fun i => (vs[i]?).map fun v => (i, v)⟩
    have hB : ∀ p ∈ B.pin, p.1 ∈ sg.lents ∧ vs[p.1]? = some p.2 := fun p hp => by
      obtain ⟨i, hi, e⟩ := List.mem_filterMap.mp hp
      obtain ⟨v, ev, e2⟩ := Option.map_eq_some_iff.mp e
      cases e2
      exact ⟨hi, ev⟩
    have hst : (start N vs) = vs.map some ++ List.replicate (N.length - ps.length) none := by
      rw [start_eq, en.lv.trans hlen]
    have lv := en.lv
    have lu := en.lu
    have low : ∀ i, i < sg.ps.length → (vs.map some ++ List.replicate (N.length - ps.length) none)[i]? = vs[i]?.map some ∧ (us ++ List.replicate (N.length - ps.length) U.none)[i]? = us[i]? ∧ (sg.Γ (N.length - ps.length))[i]? = sg.ps[i]?.map (·.1) := fun i hi => by
      refine ⟨?_, ?_, ?_⟩
      · rw [List.getElem?_append_left (by simp; omega), List.getElem?_map]
      · rw [List.getElem?_append_left (by omega)]
      · unfold Sig.Γ; rw [List.getElem?_append_left (by simp; omega), List.getElem?_map]
    have at0 : At K FM B (sg.Γ (N.length - ps.length)) A0 G H (start N vs) (us ++ List.replicate (N.length - ps.length) U.none) := by
      rw [hst]
      refine ⟨by simp [Sig.Γ, lv], by simp [Sig.Γ, lu], en.sub, .refl, fun i mk e hn => ?_, fun i a z => ?_, en.dis, fun p hp => ?_, en.glk⟩
      · by_cases hi : i < sg.ps.length
        · obtain ⟨e1, e2, e3⟩ := low i hi
          rw [e3] at e
          obtain ⟨p, hp, rfl⟩ := Option.map_eq_some_iff.mp e
          have hv : vs[i]? = some vs[i] := List.getElem?_eq_getElem (by omega)
          have hu : us[i]? = some us[i] := List.getElem?_eq_getElem (by omega)
          exact ⟨vs[i], us[i], by rw [e1, hv]; rfl, by rw [e2, hu], en.own i p _ _ hp hv hu⟩
        · unfold Sig.Γ at e
          rw [List.getElem?_append_right (by simp; omega), List.getElem?_replicate] at e
          split at e
          · cases e; exact absurd rfl hn
          · cases e
      · obtain ⟨hg, hi⟩ := en.g i a z
        have hp : sg.ps[i]? = some sg.ps[i] := List.getElem?_eq_getElem hi
        have o := en.own i _ _ _ hp (List.getElem?_eq_getElem (by omega)) (List.getElem?_eq_getElem (by omega))
        exact ⟨hg, o.live a z, .inl ⟨i, z⟩⟩
      · obtain ⟨h1, h2⟩ := hB p hp
        have hi : p.1 < vs.length := (List.getElem?_eq_some_iff.mp h2).1
        rw [(low p.1 (by omega)).1, h2]; rfl
    have fin : ∀ {Γ2 : List Mk} {A' : Foot} {G' H' : Hp} {σ' : L2.St} {s' : S} {r : U} {v : V} {F : Fp}, At K FM B Γ2 A' G' H' σ' s' → (∀ p ∈ sg.lentM, Γ2[p.1]? = some p.2) → Own K FM G' H' sg.ret v r F → (∀ a, F a → G' a = none ∧ (∀ i, ¬ A' i a) ∧ (B.M a ∨ B.H0 a = none)) →
        ExiOk K FM sg vs A0 G H r (sg.lents.map fun i => s'.getD i .none) v (fun i a => A' i a ∧ i ∈ sg.lents) F G' H' := fun {Γ2 A' G' H' σ' s' r v F} a hl o hF => by
      refine ⟨a.sub, a.glk, a.post, fun n i e => ?_, fun i b z => ⟨(a.own i b z.1).1, (a.own i b z.1).2.2⟩, fun i j b z w => a.dis i j b z.1 w.1, o, fun b z => ⟨(hF b z).1, fun i w => (hF b z).2.1 i w.1, (hF b z).2.2⟩⟩
      obtain ⟨kk, hk⟩ := Sig.lents_get e
      have him : i ∈ sg.lents := List.mem_of_getElem? e
      have hi : i < sg.ps.length := (List.getElem?_eq_some_iff.mp hk).1
      have hv : vs[i]? = some vs[i] := List.getElem?_eq_getElem (by omega)
      have hu : us[i]? = some us[i] := List.getElem?_eq_getElem (by omega)
      have hpin := a.pin (i, vs[i]) (List.mem_filterMap.mpr ⟨i, him, by rw [hv]; rfl⟩)
      have hne : kk ≠ .n := by
        rintro rfl
        exact own_n (en.own i _ _ _ hk hv hu)
      obtain ⟨v', u', e1, e2, o'⟩ := a.slot i kk (hl _ (Sig.lentM_mem him hk)) hne
      rw [hpin] at e1
      cases e1
      refine ⟨kk, _, u', hk, hv, ?_, o'.fp fun b => ⟨fun z => z.1, fun z => ⟨z, him⟩⟩⟩
      rw [List.getElem?_map, e]
      show some (s'.getD i .none) = _
      rw [List.getD_eq_getElem?_getD, e2]; rfl
    have ent := (hb cdv A outer s H E hr).2 B A0 G H (start N vs) _ ⟨fun p hp => (hB p hp).1, rfl, bp_of en⟩ at0 { nx := fun _ H' => Q .non H', rt := Q }
    refine ent ?_
    unfold runF at q
    cases hm : m (us ++ List.replicate (N.length - ps.length) U.none) with
    | stuck => rw [hm] at q; exact q.elim
    | exc er s' =>
      rw [hm] at q
      intro c d σ' G' H' xs _ _ eo
      exact q c d G' H' xs.sub xs.nd ⟨xs.ex, fun b o e hn => xs.keep b o e fun i _ z => hn ⟨i, z⟩⟩ eo
    | ok o s' =>
      rw [hm] at q
      cases o with
      | some r => exact fun v F Γ2 A' G' H' σ' a hl o hF => q v _ F G' H' (fin a hl o hF)
      | none =>
        intro A' G' H' σ' a st hs
        rcases hend with he | he
        · simp only [Bool.and_eq_true, decide_eq_true_eq] at he
          exact q .non _ (fun _ => False) G' H' (fin a (fun p hp => by simpa using List.all_eq_true.mp he.1 p hp) (by rw [he.2]; exact .f .non fun _ z => z) fun _ z => z.elim)
        · exact absurd hm (he _ _)
end
section
variable {C : Ct} {Γ Γ1 Γ2 : List Mk} {e o a : Expr} {es : List Expr} {md md2 : List Nat} {r : Rk} {rs : List Rk} {mo : Mo U} {ms : Mo (List U)} {t : TA} {sg : Sig} {f : Fn} {cn mth : Str} {i : Nat}
def isInsB (cn mth : Str) : U → Bool
  | .ins c fs => decide (c = cn) && (fs.lookup mth).isNone
  | _ => false
def recvM (cn mth : Str) (mo : Mo U) (ms : Mo (List U)) : Mo (List U) := .bind mo fun u => if isInsB cn mth u = true then .bind ms fun us => .pure (u :: us) else .fail
theorem kf_no {fm : Str → Mk} {f : Str} : ∀ {vs : List (Str × V)} {us : List (Str × U)} {ks : List Kid}, KF fm vs us ks → us.lookup f = none → vs.lookup f = none
  | _, _, _, .nil, _ => rfl
  | _, _, _, .cons (k := k0) h, e => by
    rw [List.lookup_cons] at e ⊢
    cases hk : f == k0 with
    | true => rw [hk] at e; cases e
    | false => rw [hk] at e; exact kf_no h e
theorem own_noq {K : PySem.W.Frag} {FM : FMap} {G H : Hp} {v : V} {u : U} {F : Fp} (hf : flatU u = false) : ∀ {m : Mk}, Own K FM G H m v u F → ∃ m', (∀ m2, m' ≠ .q m2 ∧ m' ≠ .p m2) ∧ Own K FM G H m' v u F
  | .n, h => ⟨_, (by simp), h⟩
  | .f, h => ⟨_, (by simp), h⟩
  | .l _, h => ⟨_, (by simp), h⟩
  | .d _, h => ⟨_, (by simp), h⟩
  | .t _ _, h => ⟨_, (by simp), h⟩
  | .w _, h => ⟨_, (by simp), h⟩
  | .i _, h => ⟨_, (by simp), h⟩
  | .e, h => ⟨_, (by simp), h⟩
  | .q m, h => by
    cases h with
    | q0 _ ha _ => rw [hf] at ha; cases ha
    | q1 h => exact own_noq hf h
    | o _ hk => cases hk
  | .p m, h => by
    cases h with
    | p0 hd _ hn => exact ⟨.f, (by simp), .f hd hn⟩
    | p1 h => exact own_noq hf h
    | o _ hk => cases hk
theorem own_ins {K : PySem.W.Frag} {FM : FMap} {G H : Hp} {m : Mk} {v : V} {u : U} {F : Fp} (h : Own K FM G H m v u F) (ex : Ex G H) (hi : isInsB cn mth u = true) : ∃ a dx fs, v = V.ref a ∧ H a = some (.ins (clsAt K cn) dx fs) ∧ fs.lookup mth = none := by
  cases u with
  | ins c fs =>
    simp only [isInsB, Bool.and_eq_true, decide_eq_true_eq, Option.isNone_iff_eq_none] at hi
    obtain ⟨rfl, hl⟩ := hi
    obtain ⟨m', hq, h⟩ := own_noq rfl h
    cases h with
    | q0 => exact absurd rfl (hq _).1
    | q1 => exact absurd rfl (hq _).1
    | p0 => exact absurd rfl (hq _).2
    | p1 => exact absurd rfl (hq _).2
    | f hd _ =>
      cases hd with
      | ins hs ha => exact ⟨_, _, _, rfl, ex _ _ hs, fs_no ha hl⟩
    | o h1 h2 _ _ _ =>
      cases h2 with
      | i kf => exact ⟨_, _, _, rfl, h1, kf_no kf hl⟩
  | _ => cases hi
theorem recv_ (h : EJ C Γ o mo md r Γ1) (k : GJ C Γ1 t ms md2 rs Γ2) (ho : r.off md2 = true := by rfl) : GJ C Γ (tRecv C.X (clsAt C.X.K cn) mth o t) (recvM cn mth mo ms) (md ++ md2) (r :: rs) Γ2 := ⟨h.1.trans k.1, fun B A G H σ s hB at_ Q q =>
  h.2 B A G H σ s hB at_ _ (wp_mono (wp_bind.mp q) (fun u s1 q1 v A1 G1 H1 at1 st1 r1 => by
    by_cases hi : isInsB cn mth u = true
    · simp only [if_pos hi] at q1
      obtain ⟨F, o1⟩ := r1.own
      obtain ⟨l, dx, fs, rfl, e1, e2⟩ := own_ins o1 at1.sub hi
      refine ⟨l, dx, fs, rfl, e1, e2, k.2 B A1 G1 H1 σ s1 hB at1 _ (wp_mono (wp_bind.mp q1) (fun us s2 q2 vs A2 G2 H2 T at2 st2 p2 => ?_) (xw_r st1))⟩
      obtain ⟨T', p⟩ := PendAll.cons at1 st1 r1 st2 p2 ho
      exact q2 _ A2 G2 H2 T' at2 (st1.trans st2) p
    · simp only [if_neg hi] at q1
      exact q1.elim) xw_l)⟩
def mkM (cn : Str) (f : Fn) (ms : Mo (List U)) : Mo U := .bind ms fun us s => match f (.ins cn [] :: us) with
  | .ok .none (u :: _) => .ok u s
  | .ok _ _ => .stuck
  | .exc e _ => .exc e s
  | .stuck => .stuck
theorem mk_ (rule : ∀ σ H (Q : VK), tMakeS (clsAt C.X.K cn) (SpOf C.X.K C.FM sg f) (fun σ c d H' => C.W c d σ H') t σ H Q → SE C.X e σ H Q) (ha : GJ C Γ t ms md rs Γ1) (hs : decide (sg.ps = (.i cn, true) :: List.replicate rs.length (.f, false)) = true := by rfl) (hret : decide (sg.ret = .f) = true := by rfl)
    (hr : rs.all (fun r => match r with | .val .f => true | _ => false) = true := by rfl) : EJ C Γ e (mkM cn f ms) md (.val (.i cn)) Γ1 := ⟨ha.1, fun B A G H σ s hB at_ Q q => rule σ H Q (ha.2 B A G H σ s hB at_ _ (wp_mono (wp_bind.mp q) (fun us s1 q1 vs A1 G1 H1 T a1 st1 p1 => by
  intro l dx hl hdx hne
  have hs : sg.ps = (.i cn, true) :: List.replicate rs.length (.f, false) := by simpa using hs
  have hret : sg.ret = .f := by simpa using hret
  have hd := p1.dqs fun r hr' => by
    have := List.all_eq_true.mp hr r hr'
    match r, this with
    | .val .f, _ => rfl
  obtain ⟨lv, lu⟩ := p1.len
  have gl : G1 l = none := Ex.back a1.sub hl
  generalize hH2 : upd (upd H1 dx (.own l)) l (.ins (clsAt C.X.K cn) dx []) = H2
  have k12 : Ex H1 H2 := fun c o e => by
    rw [← hH2, upd_ne (ne_of_none e hl), upd_ne (ne_of_none e hdx)]; exact e
  have hl2 : H2 l = some (.ins (clsAt C.X.K cn) dx []) := by rw [← hH2]; exact upd_same
  have sub2 : Ex G1 H2 := a1.sub.trans k12
  have hps : ∀ (i : Nat) p, sg.ps[i]? = some p → (i = 0 ∧ p = (.i cn, true)) ∨ ∃ j, i = j + 1 ∧ p = (.f, false) := fun i p e => by
    rw [hs] at e
    cases i with
    | zero => simp at e; exact .inl ⟨rfl, e.symm⟩
    | succ i =>
      rw [List.getElem?_cons_succ, List.getElem?_replicate] at e
      split at e
      · cases e; exact .inr ⟨i, rfl, rfl⟩
      · cases e
  have hpl : sg.ps.length = rs.length + 1 := by rw [hs]; simp
  let Aa : Foot := fun i a => i = 0 ∧ a = l
  have ent : EntOk C.X.K C.FM sg (V.ref l :: vs) (.ins cn [] :: us) Aa G1 H2 := by
    refine ⟨by simp [lv, hpl], by simp [lu, hpl], sub2, fun i p v u e1 e2 e3 => ?_, fun i a z => ?_, fun i j a z w => z.1.trans w.1.symm, a1.glk⟩
    · rcases hps i p e1 with ⟨rfl, rfl⟩ | ⟨j, rfl, rfl⟩
      · simp at e2 e3
        subst e2 e3
        exact .o hl2 (.i .nil) (.nil (A := fun _ => False) fun _ z => z) (fun z => z) fun a => ⟨fun z => .inl z.2, fun z => z.elim (fun z => ⟨rfl, z⟩) fun z => z.elim⟩
      · have e2 : vs[j]? = some v := by simpa using e2
        have e3 : us[j]? = some u := by simpa using e3
        obtain ⟨v', e4, e5⟩ := dpAll_get hd e3
        rw [e2] at e4
        cases e4
        exact .f e5 fun a z => by cases z.1
    · obtain ⟨rfl, rfl⟩ := z
      exact ⟨gl, by omega⟩
  have kq : ∀ {G3 H3 : Hp}, Post (fun a => ∃ i, Aa i a) G1 H2 G3 H3 → ∀ b o, H1 b = some o → H3 b = some o ∧ G3 b = G1 b := fun po b o e => po.2 b o (k12 b o e) fun ⟨i, _, z⟩ => by rw [z, hl] at e; cases e
  refine ⟨_, G1, Aa, ent, ?_⟩
  have q1 : Out.wp (match f (.ins cn [] :: us) with
    | .ok .none (u :: _) => Out.ok u s1
    | .ok _ _ => .stuck
    | .exc e _ => .exc e s1
    | .stuck => .stuck) _ _ := q1
  cases hfu : f (.ins cn [] :: us) with
  | stuck => rw [hfu] at q1; exact q1.elim
  | exc er fin =>
    rw [hfu] at q1
    intro c d G3 H3 ex nd po eo
    refine q1 c d G3 H3 ⟨st1.ex.trans po.1, ex, fun b o e h => ?_, nd⟩ eo
    obtain ⟨h1, g1⟩ := st1.keep b o e h
    obtain ⟨h2, g2⟩ := kq po b o h1
    exact ⟨h2, g2.trans g1⟩
  | ok r fin =>
    rw [hfu] at q1
    intro v A' F G3 H3 ex
    have h0 : sg.lents[0]? = some 0 := by
      unfold Sig.lents
      rw [hpl, List.range_succ_eq_map, List.filter_cons]
      rw [if_pos (by rw [hs]; rfl)]
      rfl
    obtain ⟨k0, v0, u0, ek, ev, ef, o0⟩ := ex.lent 0 0 h0
    rw [hs] at ek
    simp at ek ev
    subst ek ev
    cases fin with
    | nil => simp at ef
    | cons u fr =>
      simp at ef
      subst ef
      cases r <;> first | exact q1.elim | skip
      have gr : Grow G1 H1 G3 H3 := ⟨⟨ex.post.1, fun b o e _ => kq ex.post b o e⟩, ex.sub, fun a o e _ => ex.glk a o e⟩
      have hv : v = .non := by
        have o := ex.ret
        rw [hret] at o
        cases o with
        | f hd _ => cases hd; rfl
        | o _ hk => cases hk
      refine ⟨hv, q1 (.ref l) A1 G3 H3 (a1.grow gr) (st1.gr gr) ⟨A' 0, o0, fun b z => (ex.g 0 b z).1, fun b z j w => ?_, fun b z => ?_⟩⟩
      · rcases (ex.g 0 b z).2 with ⟨i, _, y⟩ | y
        · subst y
          obtain ⟨o, e⟩ := a1.live w
          rw [hl] at e; cases e
        · obtain ⟨o, e⟩ := a1.live w
          rw [k12 b o e] at y; cases y
      · have nw : ∀ b, H1 b = none → (∃ j ∈ md, A j b) ∨ H b = none := fun b w => by
          cases e : H b with
          | none => exact .inr rfl
          | some o =>
            by_cases k : ∃ j ∈ md, A j b
            · exact .inl k
            · have := (st1.keep b o e fun i hi z => k ⟨i, hi, z⟩).1
              rw [w] at this; cases this
        rcases (ex.g 0 b z).2 with ⟨i, _, y⟩ | y
        · subst y; exact nw _ hl
        · refine nw b ?_
          cases e : H1 b with
          | none => rfl
          | some o => rw [k12 b o e] at y; cases y) fun _ _ h => h))⟩
end
end V4
namespace V4
open PySem PySem.Spec PyProof.Rows L2 L3 RZ
def WkJ (C : Ct) (Γ : List Mk) (tg iter : Expr) (m : Mo (List U)) (md : List Nat) (Γ' : List Mk) : Prop :=
  Agr md Γ Γ' ∧ ∃ wi, PI C.X tg iter wi ∧ ∀ B A G H σ s, C.ok B → At C.X.K C.FM B Γ A G H σ s → ∀ R : It → Hp → Prop,
    (m s).wp (fun xs s' => ∀ J A' G' H', At C.X.K C.FM B Γ' A' G' H' σ s' → Stp md A A' G H G' H' s s' → Wlk J xs (fun u => isD C.X.K u) G' → R J H') (Xw C md A G H σ) → wi σ H R
/-- a list, a tuple, a text, a dict's keys -/
def iAny (K : PySem.W.Frag) (tl : TE) : TI := fun σ H R => tl σ H fun x H1 => (∃ a, x = .ref a ∧ (∃ xs, SqL K H1 a xs) ∧ R (Itl K a) H1) ∨ (∃ a, x = .ref a ∧ (∃ xs, SqT K H1 a xs) ∧ R (Itt K a) H1) ∨ (∃ z, x = .str z ∧ R (Its z) H1) ∨
  ∃ d o kvs, x = .ref d ∧ H1 d = some (.frz o (.dK kvs)) ∧ R (Itk d o kvs) H1
theorem pi_any {X : Cx} {tg l : Expr} {tl : TE} (hl : PE X l tl) : PI X tg l (iAny X.K tl) := by
  refine ⟨fun pins s σ H R I h => ?_⟩
  refine thn (hl.run pins s σ H _ I h) fun v s1 ⟨x, H1, I1, r1, q1⟩ => ?_
  rcases q1 with ⟨a, e, ⟨xs, hq⟩, q⟩ | ⟨a, e, ⟨xs, hq⟩, q⟩ | ⟨z, e, q⟩ | ⟨d, o, kvs, e, hd, q⟩
  · subst e
    cases r1
    obtain ⟨its, rv, p, hz⟩ := I1.list hq
    refine wpAny_pyIter_list p.isList ?_
    refine ⟨s1.heap.objs.size, [s1.heap.objs.size], _, _, H1, rfl, I1.kept (t' := s1.toks) fun b o e => Heap.get?_push_of_some _ e, turn_list a _, ⟨_, Heap.get?_push_size _ rfl, rfl, rfl⟩, fun b hb => ?_, q⟩
    have e : b = s1.heap.objs.size := by simpa using hb
    subst e
    exact I1.fpOk (Nat.le_refl _) (I1.hok.fresh (Nat.le_refl _))
  · subst e
    cases r1
    obtain ⟨its, rv, p, hz⟩ := I1.tuple hq
    refine wpAny_pyIter_tuple (show s1.heap.IsTuple a its.toArray from p) ?_
    refine ⟨s1.heap.objs.size, [s1.heap.objs.size], _, _, H1, rfl, I1.kept (t' := s1.toks) fun b o e => Heap.get?_push_of_some _ e, turn_tuple a _, ⟨_, Heap.get?_push_size _ rfl, rfl, rfl⟩, fun b hb => ?_, q⟩
    have e : b = s1.heap.objs.size := by simpa using hb
    subst e
    exact I1.fpOk (Nat.le_refl _) (I1.hok.fresh (Nat.le_refl _))
  · subst e
    obtain ⟨t, rfl⟩ := r1
    cases ha : z.cps.all (· < 128)
    · exact wpAny_pyIter_wide ha (pi_one (tk := s1.toks) I1 _ (turn_str _ z t "str_iterator" (.inr rfl)) ⟨_, Heap.get?_push_size _ rfl, rfl, rfl⟩ q)
    · exact wpAny_pyIter_ascii ha (pi_one (tk := s1.toks) I1 _ (turn_str _ z t "str_ascii_iterator" (.inl rfl)) ⟨_, Heap.get?_push_size _ rfl, rfl, rfl⟩ q)
  · subst e
    obtain rfl : v = Value.ref d := r1
    obtain ⟨hs, hgd, hx, es, ep, vs, hdt, hsz, kv, hm⟩ := I1.frzK hd
    refine iter_keys hs hgd hx hdt (pi_one (tk := s1.toks) I1 _ (turn_keys _ hdt) ⟨_, Heap.get?_push_size _ rfl, rfl, ?_⟩ q)
    rw [hsz] <;> rfl
def keyD : Key → U
  | .inl i => .int i
  | .inr x => .str x
def keyOk : Key → Bool
  | .inl _ => true
  | .inr x => PyData.strOk x
def iterU : U → Option (List U)
  | .list us => some us
  | .tuple us => some us
  | .str z => if z.length ≤ sizeLine then some ((L3.signs z).map U.str) else none
  | .dict kvs => if (kvs.all fun kv => keyOk kv.1) = true then some (kvs.map fun kv => keyD kv.1) else none
  | _ => none
theorem Ivd.ls {X : Cx} {σ : L2.St} {H : Hp} {a : Addr} {xs : List V} (h : Ivd X σ H) (q : SqL X.K H a xs) : xs.length ≤ sizeLine := by
  obtain ⟨p, s, I⟩ := h
  exact (I.list q).choose_spec.2.2
theorem Ivd.tp {X : Cx} {σ : L2.St} {H : Hp} {a : Addr} {xs : List V} (h : Ivd X σ H) (q : SqT X.K H a xs) : xs.length ≤ sizeLine := by
  obtain ⟨p, s, I⟩ := h
  exact (I.tuple q).choose_spec.2.2
def itM (m : Mo U) : Mo (List U) := .bind m fun u => .ofOpt (iterU u)
theorem Ivd.locked {X : Cx} {σ : L2.St} {H : Hp} {d : Addr} {o : Obj} {kvs : List (Key × V)} (h : Ivd X σ H) (e : H d = some (.frz o (.dK kvs))) : kvs.length ≤ sizeLine := by
  obtain ⟨p, s, I⟩ := h
  obtain ⟨_, z⟩ := I.hok d _ e
  exact z.1
section
variable {C : Ct} {R : Rt} {B : Bs} {Γ Γ1 Γ2 Γ3 Γl Γt : List Mk} {A A1 A' : Foot} {G H G1 H1 G' H' : Hp} {σ σ' : L2.St} {s s1 s' : S} {e e2 a b c tg iter l : Expr} {es : List Expr} {body : List Stmt} {pos p ps p2 tpos : Pos} {x y f : Str} {md md2 md3 : List Nat} {m ma mb mc : Mo U} {ms : Mo (List U)} {bd : Mo (Option U)} {i j : Nat} {k : Mk}
theorem kv_get {K : PySem.W.Frag} {G : Hp} : ∀ {kvs : List (Key × V)} {us : List (Key × U)}, DqKvs K G kvs us → kvs.map (·.1) = us.map (·.1)
  | _, [], h => by cases h; rfl
  | _, _ :: _, h => by cases h with | cons h1 h2 => simp [kv_get h2]
theorem kw_ (h : EJ C Γ l m md (.val .f) Γ1) : WkJ C Γ tg l (itM m) md Γ1 := ⟨h.1, _, pi_any pe_se, fun B A G H σ s hB at_ R q => SE.iv (h.2 B A G H σ s hB at_ _ (wp_mono (wp_bind.mp q) (fun u s1 q1 v A1 G1 H1 a1 st1 r1 iv => by
  obtain ⟨xs, ex, q2⟩ := wp_ofOpt q1
  have r1 := r1.frz
  cases u with
  | list us =>
    cases ex
    cases r1 with
    | lst hs hd => exact .inl ⟨_, rfl, ⟨_, sqL_ex a1.sub hs⟩, q2 _ A1 G1 H1 a1 st1 (wlk_list (enc := fun u : U => u) (Ivd.ls iv (sqL_ex a1.sub hs)) hs (by rw [List.map_id']; exact hd))⟩
  | tuple us =>
    cases ex
    cases r1 with
    | @tup a vs _ hs hd =>
      have hl := dpAll_len hd
      have hs' : SqT C.X.K G1 a vs := .inl (.inl hs)
      have hz := Ivd.tp iv (sqT_ex a1.sub hs')
      refine .inr (.inl ⟨_, rfl, ⟨_, sqT_ex a1.sub hs'⟩, q2 _ A1 G1 H1 a1 st1 ⟨by omega, fun i G2 H2 e1 e2 h => ⟨vs, sqT_ex e2 (sqT_ex e1 hs'), by omega⟩, fun i x G2 H2 e1 e2 hx => ?_⟩⟩)
      obtain ⟨v, hv, hq⟩ := dpAll_get hd hx
      refine ⟨⟨vs, v, sqT_ex e2 (sqT_ex e1 hs'), hv⟩, fun v' H3 ⟨eh, y⟩ => ?_⟩
      subst eh
      have := y vs (sqT_ex e2 (sqT_ex e1 hs'))
      rw [hv] at this
      cases this
      exact ⟨G2, Grow.refl e2, dp_ex e1 _ _ hq⟩
  | str z =>
    cases r1 with
    | str _ hok =>
      have ex : (if z.length ≤ sizeLine then some ((L3.signs z).map U.str) else none) = some xs := ex
      by_cases hz : z.length ≤ sizeLine
      · rw [if_pos hz] at ex
        cases ex
        have hl : (L3.signs z).length = z.cps.size := by simp [L3.signs]
        refine .inr (.inr (.inl ⟨z, rfl, q2 _ A1 G1 H1 a1 st1 ⟨by rw [List.length_map, hl]; exact hz, fun i G2 H2 _ _ h => by rw [List.length_map] at h; show z.cps.size ≤ i; omega, fun i x G2 H2 e1 e2 hx => ?_⟩⟩))
        have hi : i < z.cps.size := by rw [← hl, ← List.length_map (f := U.str)]; exact (List.getElem?_eq_some_iff.mp hx).1
        refine ⟨hi, fun v' H3 ⟨eh, c, hc, ev⟩ => ?_⟩
        subst eh ev
        have hx' : x = .str ⟨#[c]⟩ := by
          unfold L3.signs at hx
          rw [List.getElem?_map, List.getElem?_map, Array.getElem?_toList, hc] at hx
          cases hx; rfl
        subst hx'
        refine ⟨G2, Grow.refl e2, .str _ (sign_ok hok ?_)⟩
        obtain ⟨h1, h2⟩ := Array.getElem?_eq_some_iff.mp hc
        rw [← h2]
        exact Array.mem_toList_iff.mpr (Array.getElem_mem h1)
      · rw [if_neg hz] at ex; cases ex
  | dict kvs =>
    have ex : (if (kvs.all fun kv => keyOk kv.1) = true then some (kvs.map fun kv => keyD kv.1) else none) = some xs := ex
    by_cases hok : (kvs.all fun kv => keyOk kv.1) = true
    case neg => rw [if_neg hok] at ex; cases ex
    rw [if_pos hok] at ex
    cases ex
    cases r1 with
    | @dct d hk _ hs hd =>
      have hlk : ∃ o, G1 d = some (.frz o (.dK hk)) := by
        rcases hs with hs | hs
        · have := a1.glk _ _ hs; cases this
        · exact hs
      obtain ⟨o, hlk⟩ := hlk
      have hz := Ivd.locked iv (a1.sub _ _ hlk)
      have hlen := kv_len hd
      have hkeys := kv_get hd
      refine .inr (.inr (.inr ⟨d, o, hk, rfl, a1.sub _ _ hlk, q2 _ A1 G1 H1 a1 st1 ⟨by rw [List.length_map]; omega, fun i G2 H2 e1 e2 h => ⟨e2 _ _ (e1 _ _ hlk), by rw [List.length_map] at h; omega⟩, fun i x G2 H2 e1 e2 hx => ?_⟩⟩))
      have hi : i < kvs.length := by rw [← List.length_map (f := fun kv : Key × U => keyD kv.1)]; exact (List.getElem?_eq_some_iff.mp hx).1
      refine ⟨⟨e2 _ _ (e1 _ _ hlk), by omega⟩, fun v' H3 ⟨eh, kk, vv, hkv, ev⟩ => ?_⟩
      subst eh ev
      have e3 : (hk.map (·.1))[i]? = some kk := by rw [List.getElem?_map, hkv]; rfl
      rw [hkeys, List.getElem?_map] at e3
      obtain ⟨kv, hkv', rfl⟩ := Option.map_eq_some_iff.mp e3
      rw [List.getElem?_map, hkv'] at hx
      cases hx
      refine ⟨G2, Grow.refl e2, ?_⟩
      have hko := List.all_eq_true.mp hok kv (List.mem_of_getElem? hkv')
      show Dq _ G2 (kV kv.1) (keyD kv.1)
      cases hk1 : kv.1 with
      | inl z => exact .int z
      | inr z => rw [hk1] at hko; exact .str z hko
  | _ => cases ex) fun _ _ h => h))⟩
def rngM (a b : Mo U) : Mo (List U) := .bind a fun x => .bind b fun y => .bind (asI x) fun i => .bind (asI y) fun j => .bind (rangeM i j) fun ks => .pure (ks.map U.int)
theorem wlk_map {J : It} {xs : List Int} {K : PySem.W.Frag} {G : Hp} (h : Wlk J xs (fun i => isD K (.int i)) G) : Wlk J (xs.map U.int) (fun u => isD K u) G :=
  ⟨by rw [List.length_map]; exact h.sz, fun i G1 H1 e1 e2 hl => h.stop i G1 H1 e1 e2 (by rw [List.length_map] at hl; exact hl), fun i x G1 H1 e1 e2 hx => by
    rw [List.getElem?_map] at hx
    obtain ⟨z, hz, rfl⟩ := Option.map_eq_some_iff.mp hx
    exact h.go i z G1 H1 e1 e2 hz⟩
theorem wp_asI {u : U} {s : S} {P : Int → S → Prop} {E : Err → S → Prop} (h : ((asI u : Mo Int) s).wp P E) : ∃ i, u = .int i ∧ P i s := by
  cases u <;> first | exact ⟨_, rfl, h⟩ | exact h.elim
theorem wp_rangeM {a b : Int} {s : S} {P : List Int → S → Prop} {E : Err → S → Prop} (h : ((rangeM a b : Mo (List Int)) s).wp P E) : (-16777216 ≤ a ∧ b ≤ 8388608 ∧ b - a ≤ 16777216 ∧ a ≤ 16777216 ∧ -16777216 ≤ b) ∧ P (rangeL a b) s := by
  unfold rangeM at h
  split at h
  · rename_i hz; exact ⟨hz, h⟩
  · exact h.elim
theorem krange1_ (hm : C.X.mg "range" = none) (h : EJ C Γ e m md (.val .f) Γ1) (hg : Gl C.X "range" := by rfl) (hs : starEach [e] C.X.env = [(false, eval e C.X.env)] := by rfl) (hs2 : starEach [e] C.X.env = (false, eval e C.X.env) :: starEach [] C.X.env := by rfl) :
    WkJ C Γ tg (.Call (.Name "range" p) [e] [] pos) (rngM (.pure (.int 0)) m) md Γ1 :=
  ⟨h.1, iRng1 (SA C.X [e]), pi_range1 hg hm pa_sa hs, fun B A G H σ s hB at_ R q => SA.of (pa_cons pe_se pa_nil hs2) (h.2 B A G H σ s hB at_ _ (wp_mono (wp_bind.mp q) (fun n s1 q1 v A1 G1 H1 a1 st1 r1 => by
    obtain ⟨i0, e0, q2⟩ := wp_asI (wp_bind.mp q1)
    cases e0
    obtain ⟨j, rfl, q3⟩ := wp_asI (wp_bind.mp q2)
    obtain ⟨hz, q4⟩ := wp_rangeM (wp_bind.mp q3)
    have r1 := r1.frz
    cases r1
    refine ⟨j, rfl, by omega, by omega, ?_⟩
    have := q4 (Itr 0 (j - 0).toNat) A1 G1 H1 a1 st1 (wlk_map (wlk_range (by omega)))
    rw [Int.sub_zero] at this
    exact this) fun _ _ h => h))⟩
def enumU : U → Option (List U)
  | .list us => some ((enumL us).map fun p => .tuple [.int p.1, p.2])
  | _ => none
def zipU : U → U → Option (List U)
  | .list xs, .list ys => some ((xs.zip ys).map fun p => .tuple [p.1, p.2])
  | .tuple xs, .tuple ys => some ((xs.zip ys).map fun p => .tuple [p.1, p.2])
  | _, _ => none
def enM (m : Mo U) : Mo (List U) := .bind m fun u => .ofOpt (enumU u)
def zpM (a b : Mo U) : Mo (List U) := .bind a fun x => .bind b fun y => .ofOpt (zipU x y)
theorem enumL_len {xs : List U} : (enumL xs).length = xs.length := by simp [enumL]
def forS (mt : U → S → Option S) (b : Mo (Option U)) : List U → Mo (Option U)
  | [] => .pure none
  | x :: xs => fun s => match mt x s with
    | none => .stuck
    | some s1 => StM.bind b (fun o => match o with
      | none => forS mt b xs
      | some r => .pure (some r)) s1
def forM' (w : Mo (List U)) (mt : U → S → Option S) (b : Mo (Option U)) : Mo (Option U) := .bind w fun xs => forS mt b xs
theorem sfor_ {wm : Mo (List U)} {mt : U → S → Option S} (Γl : List Mk) (hp : PassesOwn (model C.X.prog C.X.w) C.X.A C.X.env C.X.xe) (hc : C.X.calm = true) (hw : WkJ C Γ tg iter wm md Γ1) (ht : TgJ C Γl tg .f mt md2 Γt) (hb : SsJ C R Γt body bd md3 Γl) (h0 : wkB Γ1 Γl = true := by rfl)
    (ha : agrB (md ++ (md2 ++ md3)) Γ Γl = true := by rfl) (hs : ∀ x, foldedSetIterable iter C.X.env x = pure x := by intro _; rfl) : SJ C R Γ (.For tg iter body [] pos) (forM' wm mt bd) (md ++ (md2 ++ md3)) Γl := by
  obtain ⟨agw, wi, hi, hwi⟩ := hw
  obtain ⟨agt, g, hg, ht⟩ := ht
  refine ⟨agr_of ha, fun B A G H σ s hB at_ D q => SS.of (ps_for hp hc hi hg pss_sb hs) (hwi B A G H σ s hB at_ _ (wp_mono (wp_bind.mp q) (fun xs s1 q1 J A1 G1 H1 a1 st1 wk => ?_) (xs_x fun i hi => List.mem_append_left _ hi)))⟩
  have st1' : Stp (md ++ (md2 ++ md3)) A A1 G H G1 H1 s s1 := st1.mono fun i hi => List.mem_append_left _ hi
  refine ⟨fun i n σ2 H2 => n = xs.length - i ∧ i ≤ xs.length ∧ ∃ s2 A2 G2, Ex G1 G2 ∧ At C.X.K C.FM B Γl A2 G2 H2 σ2 s2 ∧ Stp (md ++ (md2 ++ md3)) A A2 G H G2 H2 s s2 ∧ (∀ i, i ∉ md ++ (md2 ++ md3) → σ2[i]? = σ[i]?) ∧ (forS mt bd (xs.drop i) s2).wp (FlK C R B (md ++ (md2 ++ md3)) A G H σ s Γl D) (XsW C (md ++ (md2 ++ md3)) A G H σ),
    ⟨xs.length, by omega, Nat.zero_le _, s1, A1, G1, Ex.refl _, a1.weak (wk_of h0), st1', fun _ _ => rfl, q1⟩, ?_⟩
  rintro i n σ2 H2 ⟨rfl, hi, s2, A2, G2, ex, a2, st2, hσ2, q2⟩
  by_cases hlt : i < xs.length
  · rw [List.drop_eq_getElem_cons hlt] at q2
    have hx : xs[i]? = some xs[i] := List.getElem?_eq_getElem hlt
    obtain ⟨hgo, hy⟩ := wk.go i xs[i] G2 H2 ex a2.sub hx
    refine .inr ⟨hgo, fun σ3 H3 => ∃ s3 A3 G3, Ex G1 G3 ∧ At C.X.K C.FM B Γl A3 G3 H3 σ3 s3 ∧ Stp (md ++ (md2 ++ md3)) A A3 G H G3 H3 s s3 ∧ (∀ i, i ∉ md ++ (md2 ++ md3) → σ3[i]? = σ[i]?) ∧ (forS mt bd (xs.drop (i + 1)) s3).wp (FlK C R B (md ++ (md2 ++ md3)) A G H σ s Γl D) (XsW C (md ++ (md2 ++ md3)) A G H σ), fun σ3 H3 h => ⟨xs.length - (i + 1), by omega, rfl, hlt, h⟩, fun v H3 y => ?_⟩
    obtain ⟨G3, gr, pv⟩ := hy v H3 y
    cases em : mt xs[i] s2 with
    | none => simp only [forS, em] at q2; exact q2.elim
    | some s4 =>
      simp only [forS, em] at q2
      refine ht B A2 G3 H3 σ2 s2 v xs[i] (fun _ => False) s4 hB (a2.grow gr) (.f pv fun _ z => z) (fun _ z => z.elim) em _ fun A4 G4 H4 σ4 a4 st4 hσ4 => ?_
      have st24 : Stp (md ++ (md2 ++ md3)) A A4 G H G4 H4 s s4 := ((st2.gr gr).trans st4.stp).mono fun i hi => by grind
      have hσ24 : ∀ i, i ∉ md ++ (md2 ++ md3) → σ4[i]? = σ[i]? := fun i hi => (hσ4 i fun z => hi (by simp [z])).trans (hσ2 i hi)
      refine hb.2 B A4 G4 H4 σ4 s4 hB a4 _ (wp_mono (wp_bind.mp q2) (fun o s5 q5 => ?_) fun er s5 hx c d σ' G' H' xs' hs' hl' eo => hx c d σ' G' H' ((XStp.after st24 xs').mono fun i hi => by grind) (fun i hi => (hs' i fun z => hi (by simp [z])).trans (hσ24 i hi)) (hl'.trans (by rw [a4.len, at_.len, agt.1, (agr_of ha).1])) eo)
      cases o with
      | none =>
        intro A5 G5 H5 σ5 a5 st5 hσ5
        exact ⟨s5, A5, G5, ((ex.trans gr.ex).trans st4.ex).trans st5.ex, a5, (st24.trans st5).mono fun i hi => by grind, fun i hi => (hσ5 i fun z => hi (by simp [z])).trans (hσ24 i hi), q5⟩
      | some r => exact q5
  · have e : i = xs.length := by omega
    subst e
    rw [List.drop_length] at q2
    exact .inl ⟨wk.stop _ G2 H2 ex a2.sub (Nat.le_refl _), q2 A2 G2 H2 σ2 a2 st2 hσ2⟩
end
end V4
namespace V4
open PySem PySem.Spec PyProof.Rows L2 L3 RZ
def noXM {β : Type} (m : Mo β) : Mo β := fun s => match m s with
  | .ok b s' => .ok b s'
  | _ => .stuck
theorem wp_noX {β : Type} {m : Mo β} {s : S} {P : β → S → Prop} {E : Err → S → Prop} (h : (noXM m s).wp P E) : (m s).wp P fun _ _ => False := by
  unfold noXM Out.wp at h
  unfold Out.wp
  cases e : m s with
  | ok b s' => rw [e] at h; exact h
  | exc _ _ => rw [e] at h; exact h
  | stuck => rw [e] at h; exact h
structure Ix where
  s : Shared
  H : Hp
  c : Addr
  cl : List (Str × Addr)
  fp : List Addr
abbrev bx (X : Cx) (scope : Scope) (x : Ix) : Cx := X.blk x.s x.H scope (compEnvC scope x.cl x.c X.env) x.fp
abbrev Ct.bi (C : Ct) (scope : Scope) (x : Ix) : Ct := ⟨bx C.X scope x, C.FM, fun _ _ _ _ => False, C.pn, C.bp⟩
/-- the slots in vs as they were -/
def rst (s : S) : List Nat → S → S
  | [], t => t
  | i :: vs, t => match s[i]? with
    | some u => (rst s vs t).set i u
    | none => rst s vs t
theorem rst_length {s t : S} : ∀ {vs : List Nat}, (rst s vs t).length = t.length
  | [] => rfl
  | i :: vs => by
    unfold rst
    split
    · rw [List.length_set]; exact rst_length
    · exact rst_length
theorem rst_get {s t : S} (hl : s.length = t.length) : ∀ {vs : List Nat} (i : Nat), (rst s vs t)[i]? = if i ∈ vs then s[i]? else t[i]?
  | [], i => by simp [rst]
  | v :: vs, i => by
    have ih := rst_get hl (vs := vs) i
    unfold rst
    split
    · rename_i u e
      by_cases hi : v = i
      · subst hi
        have hlt : v < (rst s vs t).length := by rw [rst_length, ← hl]; exact (List.getElem?_eq_some_iff.mp e).1
        rw [List.getElem?_set_self hlt, if_pos List.mem_cons_self, e]
      · rw [List.getElem?_set_ne hi, ih]
        by_cases hm : i ∈ vs
        · rw [if_pos hm, if_pos (List.mem_cons_of_mem _ hm)]
        · rw [if_neg hm, if_neg fun z => (List.mem_cons.mp z).elim (fun z => hi z.symm) hm]
    · rename_i e
      rw [ih]
      by_cases hm : i ∈ vs
      · rw [if_pos hm, if_pos (List.mem_cons_of_mem _ hm)]
      · by_cases hi : i = v
        · subst hi
          rw [if_neg hm, if_pos List.mem_cons_self, e]
          exact List.getElem?_eq_none (by rw [← hl]; exact List.getElem?_eq_none_iff.mp e)
        · rw [if_neg hm, if_neg fun z => (List.mem_cons.mp z).elim hi hm]
def wipeM (Γ : List Mk) : List Nat → List Mk
  | [] => Γ
  | v :: vs => (wipeM Γ vs).set v .n
open Classical in
noncomputable def clr (A : Foot) (vs : List Nat) : Foot := fun i => if i ∈ vs then fun _ => False else A i
theorem clr_in {A : Foot} {vs : List Nat} {i : Nat} (h : i ∈ vs) {a : Addr} : ¬ clr A vs i a := by unfold clr; rw [if_pos h]; exact fun z => z
theorem clr_out {A : Foot} {vs : List Nat} {i : Nat} (h : i ∉ vs) : clr A vs i = A i := by unfold clr; rw [if_neg h]
theorem clr_le {A : Foot} {vs : List Nat} {i : Nat} {a : Addr} (h : clr A vs i a) : i ∉ vs ∧ A i a := by
  by_cases hi : i ∈ vs
  · exact (clr_in hi h).elim
  · rw [clr_out hi] at h; exact ⟨hi, h⟩
def vsOk (Γ : List Mk) (vs : List Nat) : Bool := vs.all fun i => match Γ[i]? with
  | some .n => true
  | some .f => true
  | _ => false
theorem vsOk_of {Γ : List Mk} {vs : List Nat} (h : vsOk Γ vs = true) {i : Nat} {m : Mk} (hi : i ∈ vs) (e : Γ[i]? = some m) (hn : m ≠ .n) : m = .f := by
  have := List.all_eq_true.mp h i hi
  rw [e] at this
  cases m <;> first | rfl | exact absurd rfl hn | cases this
theorem wipe_same {σ σ' : L2.St} (hl : σ'.length = σ.length) : ∀ {vs : List Nat}, (∀ i, i ∉ vs → σ'[i]? = σ[i]?) → L2.wipe σ' vs = L2.wipe σ vs := by
  intro vs h
  have key : ∀ (vs : List Nat) (τ : L2.St) (i : Nat), (L2.wipe τ vs)[i]? = if i ∈ vs then (if i < τ.length then some none else none) else τ[i]? := by
    intro vs
    induction vs with
    | nil => intro τ i; simp [L2.wipe]
    | cons v vs ih =>
      intro τ i
      unfold L2.wipe
      rw [List.getElem?_set]
      by_cases hi : v = i
      · subst hi
        simp [L2.wipe_length]
      · rw [if_neg hi, ih]
        by_cases hm : i ∈ vs
        · rw [if_pos hm, if_pos (List.mem_cons_of_mem _ hm)]
        · rw [if_neg hm, if_neg fun z => (List.mem_cons.mp z).elim (fun z => hi z.symm) hm]
  apply List.ext_getElem?
  intro i
  rw [key, key, hl]
  by_cases hm : i ∈ vs
  · rw [if_pos hm, if_pos hm]
  · rw [if_neg hm, if_neg hm]; exact h i hm
theorem wipe_idem {σ : L2.St} {vs : List Nat} : L2.wipe (L2.wipe σ vs) vs = L2.wipe σ vs := wipe_same (L2.wipe_length σ vs) fun i hi => L2.wipe_out hi
def lcS (vs : List Nat) (mt : U → S → Option S) (ft : Mo Bool) (fe : Mo U) : List U → List U → Mo U
  | [], acc => .pure (.list acc)
  | x :: xs, acc => fun s => match mt x s with
    | none => .stuck
    | some s1 => StM.bind ft (fun b => if b = true then .bind fe fun y s2 => lcS vs mt ft fe xs (acc ++ [y]) (rst s vs s2) else fun s2 => lcS vs mt ft fe xs acc (rst s vs s2)) s1
def lcM (vs : List Nat) (w : Mo (List U)) (mt : U → S → Option S) (ft : Mo Bool) (fe : Mo U) : Mo U := .bind w fun xs => noXM (lcS vs mt ft fe xs [])
section
variable {K : PySem.W.Frag} {FM : FMap} {B : Bs} {Γ Γ' Γ1 Γi : List Mk} {A A' A1 A2 : Foot} {G H G' H' G2 H2 : Hp} {σ σi : L2.St} {s s' s2 : S} {md md2 vs : List Nat} {F : Fp} {D : Addr} {o : HO}
theorem At.clr (a : At K FM B Γ A G H σ s) (hv : vsOk Γ vs = true) : At K FM B Γ (V4.clr A vs) G H σ s where
  len := a.len
  lenU := a.lenU
  sub := a.sub
  post := a.post
  slot := fun i m e hn => by
    obtain ⟨v, u, e1, e2, o⟩ := a.slot i m e hn
    refine ⟨v, u, e1, e2, ?_⟩
    by_cases hi : i ∈ vs
    · have := vsOk_of hv hi e hn
      subst this
      cases o with
      | f hd _ => exact .f hd fun _ => clr_in hi
      | o _ hk => cases hk
    · rw [clr_out hi]; exact o
  own := fun i b z => a.own i b (clr_le z).2
  dis := fun i j b y z => a.dis i j b (clr_le y).2 (clr_le z).2
  pin := a.pin
  glk := a.glk
theorem Stp.clr (x : Stp md A A' G H G' H' s s') (hs : ∀ i, i ∉ vs → s2[i]? = s'[i]?) : Stp (md ++ vs) A (V4.clr A' vs) G H G' H' s s2 where
  ex := x.ex
  keep := fun b o h k => x.keep b o h fun i hi => k i (List.mem_append_left _ hi)
  foot := fun i hi b z => by
    obtain ⟨h1, h2⟩ := clr_le z
    have hi := (List.mem_append.mp hi).resolve_right h1
    exact (x.foot i hi b h2).imp (fun ⟨j, hj, w⟩ => ⟨j, List.mem_append_left _ hj, w⟩) id
  same := fun i hi => by
    have h1 : i ∉ md := fun z => hi (List.mem_append_left _ z)
    have h2 : i ∉ vs := fun z => hi (List.mem_append_right _ z)
    exact ⟨(clr_out h2).trans (x.same i h1).1, (hs i h2).trans (x.same i h1).2⟩
/-- an object that no slot owns and that is not frozen may change -/
theorem At.other (a : At K FM B Γ A G H σ s) (hG : G D = none) (hM : B.M D ∨ B.H0 D = none) (hA : ∀ i, ¬ A i D) : At K FM B Γ A G (upd H D o) σ s where
  len := a.len
  lenU := a.lenU
  sub := fun b u e => by rw [upd_ne (ne_of_none e hG)]; exact a.sub b u e
  post := ⟨a.post.1, fun b u e hb => by
    have hbD : b ≠ D := by
      rintro rfl
      rcases hM with q | q
      · exact hb q
      · rw [e] at q; cases q
    rw [upd_ne hbD]; exact a.post.2 b u e hb⟩
  slot := fun i m e hn => by
    obtain ⟨v, u, e1, e2, o'⟩ := a.slot i m e hn
    exact ⟨v, u, e1, e2, o'.frame (Ex.refl _) fun b ob z h => by
      have : b ≠ D := by rintro rfl; exact hA i z
      rw [upd_ne this]; exact h⟩
  own := fun i b z => by
    obtain ⟨h1, h2, h3⟩ := a.own i b z
    have : b ≠ D := by rintro rfl; exact hA i z
    exact ⟨h1, by rw [upd_ne this]; exact h2, h3⟩
  dis := a.dis
  pin := a.pin
  glk := a.glk
/-- .. a new one, or one in hand -/
theorem Stp.other (x : Stp md A A' G H G' H' s s') (hD : (∃ j ∈ md, A j D) ∨ H D = none) : Stp md A A' G H G' (upd H' D o) s s' := ⟨x.ex, fun b ob e k => by
  have : b ≠ D := by
    rintro rfl
    rcases hD with ⟨j, hj, w⟩ | w
    · exact k j hj w
    · rw [e] at w; cases w
  rw [upd_ne this]; exact x.keep b ob e k, x.foot, x.same⟩
theorem Stp.newD (x : Stp md A A' G H G' H' s s') (hD : H' D = none) : (∃ j ∈ md, A j D) ∨ H D = none := by
  cases e : H D with
  | none => exact .inr rfl
  | some ob =>
    by_cases k : ∃ j ∈ md, A j D
    · exact .inl k
    · have := (x.keep D ob e fun i hi z => k ⟨i, hi, z⟩).1
      rw [hD] at this; cases this
theorem At.hM (a : At K FM B Γ A G H σ s) (hD : H D = none) : B.M D ∨ B.H0 D = none := by
  rcases a.fresh hD with w | w
  · exact .inr w.2
  · exact .inl w
theorem wipeM_len : ∀ {vs : List Nat}, (wipeM Γ vs).length = Γ.length
  | [] => rfl
  | v :: vs => by unfold wipeM; rw [List.length_set]; exact wipeM_len
theorem wipeM_in : ∀ {vs : List Nat} {i : Nat} {m : Mk}, (wipeM Γ vs)[i]? = some m → m ≠ .n → i ∉ vs ∧ Γ[i]? = some m
  | [], i, m, e, _ => ⟨by simp, e⟩
  | v :: vs, i, m, e, hn => by
    unfold wipeM at e
    by_cases hi : v = i
    · subst hi
      rw [List.getElem?_set] at e
      rw [if_pos rfl] at e
      split at e
      · cases e; exact absurd rfl hn
      · cases e
    · rw [List.getElem?_set_ne hi] at e
      obtain ⟨h1, h2⟩ := wipeM_in e hn
      exact ⟨fun z => (List.mem_cons.mp z).elim (fun z => hi z.symm) h1, h2⟩
theorem At.wipe (a : At K FM B Γ A G H σ s) (hp : ∀ p ∈ B.pin, p.1 ∉ vs) : At K FM B (wipeM Γ vs) A G H (L2.wipe σ vs) s where
  len := by rw [L2.wipe_length, wipeM_len]; exact a.len
  lenU := by rw [wipeM_len]; exact a.lenU
  sub := a.sub
  post := a.post
  slot := fun i m e hn => by
    obtain ⟨h1, h2⟩ := wipeM_in e hn
    obtain ⟨v, u, e1, e2, o⟩ := a.slot i m h2 hn
    exact ⟨v, u, by rw [L2.wipe_out h1]; exact e1, e2, o⟩
  own := a.own
  dis := a.dis
  pin := fun p h => by rw [L2.wipe_out (hp p h)]; exact a.pin p h
  glk := a.glk
/-- from within a block to around it -/
theorem At.around (a : At K FM B Γ A G H σ s) (b : At K FM B Γi A2 G2 H2 σi s2) (ex : Ex G G2) (hl : Γi.length = Γ.length) (hΓ : ∀ i, i ∉ vs → Γi[i]? = Γ[i]?) (hσ : ∀ i, i ∉ vs → σi[i]? = σ[i]?) (hv : vsOk Γ vs = true) : At K FM B Γ (V4.clr A2 vs) G2 H2 σ (rst s vs s2) where
  len := a.len
  lenU := by rw [rst_length, b.lenU, hl]
  sub := b.sub
  post := b.post
  slot := fun i m e hn => by
    have hls : s.length = s2.length := by rw [a.lenU, b.lenU, hl]
    by_cases hi : i ∈ vs
    · obtain ⟨v, u, e1, e2, o⟩ := a.slot i m e hn
      have := vsOk_of hv hi e hn
      subst this
      refine ⟨v, u, e1, by rw [rst_get hls, if_pos hi]; exact e2, ?_⟩
      cases o with
      | f hd _ => exact .f (dp_ex ex _ _ hd) fun _ => clr_in hi
      | o _ hk => cases hk
    · obtain ⟨v, u, e1, e2, o⟩ := b.slot i m ((hΓ i hi).trans e) hn
      exact ⟨v, u, (hσ i hi).symm.trans e1, by rw [rst_get hls, if_neg hi]; exact e2, by rw [clr_out hi]; exact o⟩
  own := fun i c z => b.own i c (clr_le z).2
  dis := fun i j c y z => b.dis i j c (clr_le y).2 (clr_le z).2
  pin := a.pin
  glk := b.glk
theorem Tmp.clr (t : Tmp md A H A' G' H' F) : Tmp md A H (V4.clr A' vs) G' H' F := ⟨t.g, fun a z i w => t.no a z i (clr_le w).2, t.nw⟩
end
def TsJ (C : Ct) (scope : Scope) (Γ : List Mk) (cs : List Expr) (m : Mo Bool) (md : List Nat) (Γ' : List Mk) : Prop := match cs with
  | [] => m = .pure true ∧ md = [] ∧ Γ' = Γ
  | [c] => ∀ x, TJ (C.bi scope x) Γ c m md Γ'
  | _ => False
theorem ts0_ {C : Ct} {scope : Scope} {Γ : List Mk} : TsJ C scope Γ [] (.pure true) [] Γ := ⟨rfl, rfl, rfl⟩
theorem ts1_ {C : Ct} {scope : Scope} {Γ Γ' : List Mk} {c : Expr} {m : Mo Bool} {md : List Nat} (h : ∀ x, TJ (C.bi scope x) Γ c m md Γ') : TsJ C scope Γ [c] m md Γ' := h
def SAllV (X : Cx) (scope : Scope) (e : Expr) : TE := fun σ H Q => ∀ x : Ix, SE (bx X scope x) e σ H Q
def STAllV (X : Cx) (scope : Scope) : List Expr → TT
  | [c] => fun σ H Q => ∀ x : Ix, ST (bx X scope x) c σ H Q
  | _ => fun _ H Q => Q true H
section
variable {C : Ct} {R : Rt} {Γ Γ1 Γ2 Γ3 Γ4 : List Mk} {tg iter elt : Expr} {cs : List Expr} {scope : Scope} {own : List (Str × Nat)} {pos spos ps : Pos} {wm : Mo (List U)} {mt : U → S → Option S} {ft : Mo Bool} {fe : Mo U} {md mdt md2 md3 vs : List Nat} {k : Mk} {y : Str}
theorem pts_all (hT : TsJ C scope Γ2 cs ft md2 Γ3) : ∀ x, PTs (bx C.X scope x) cs (STAllV C.X scope cs) := fun x => by
  match cs, hT with
  | [], _ => exact pts_nil
  | [c], _ => exact pts_one ⟨fun pins s' σ' H' Q' I h => h x pins s' I⟩
theorem pe_all : ∀ x, PE (bx C.X scope x) elt (SAllV C.X scope elt) := fun x => ⟨fun pins s' σ' H' Q' I h => h x pins s' I⟩
theorem lc_sem (hv : vsOk Γ1 vs = true) (hp : C.pn.all (fun i => !vs.contains i) = true) (hmt : mdt.all vs.contains = true) (h3 : agrB vs Γ1 Γ3 = true) (h4 : agrB vs Γ1 Γ4 = true)
    (wi : TI) (hwi : ∀ B A G H σ s, C.ok B → At C.X.K C.FM B Γ A G H σ s → ∀ R : It → Hp → Prop,
      (wm s).wp (fun xs s' => ∀ J A' G' H', At C.X.K C.FM B Γ1 A' G' H' σ s' → Stp md A A' G H G' H' s s' → Wlk J xs (fun u => isD C.X.K u) G' → R J H') (Xw C md A G H σ) → wi σ H R)
    (ht : ∀ x, TgJ (C.bi scope x) (wipeM Γ1 vs) tg .f mt mdt Γ2) (hT : TsJ C scope Γ2 cs ft md2 Γ3) (hE : ∀ x, EJ (C.bi scope x) Γ3 elt fe md3 (.val k) Γ4) :
    ∃ g : TG, (∀ x, PG (bx C.X scope x) tg g) ∧ ∀ B A G H σ s, C.ok B → At C.X.K C.FM B Γ A G H σ s → ∀ Q : VK,
      (lcM vs wm mt ft fe s).wp (fun u s' => ∀ v A' G' H', At C.X.K C.FM B Γ1 A' G' H' σ s' → Stp (md ++ (vs ++ (md2 ++ md3))) A A' G H G' H' s s' → RkOk C.X.K C.FM (.val (.l k)) (md ++ (vs ++ (md2 ++ md3))) A H A' G' H' σ s' v u → Q v H') (Xw C (md ++ (vs ++ (md2 ++ md3))) A G H σ) →
      tLc wi g (STAllV C.X scope cs) (SAllV C.X scope elt) vs σ H Q := by
  refine ⟨fun v σ H Q => ∀ x : Ix, Classical.choose (ht x).2 v σ H Q, fun x => ⟨fun pins s σ H v u Q I r h => (Classical.choose_spec (ht x).2).1.run pins s σ H v u Q I r (h x)⟩, fun B A G H σ s hB at_ Q q => ?_⟩
  have hmt : ∀ i ∈ mdt, i ∈ vs := fun i hi => by simpa using List.all_eq_true.mp hmt i hi
  have hpv : ∀ p ∈ B.pin, p.1 ∉ vs := fun p h => by simpa using List.all_eq_true.mp hp p.1 (hB.1 p h)
  obtain ⟨hl3, ha3⟩ := agr_of h3
  obtain ⟨hl4, ha4⟩ := agr_of h4
  generalize hM : md ++ (vs ++ (md2 ++ md3)) = M at q ⊢
  refine hwi B A G H σ s hB at_ _ (wp_mono (wp_bind.mp q) (fun xs s1 q1 J A1 G1 H1 a1 st1 wk D hD => ?_) fun _ _ h c d G' H' x => h c d G' H' (x.mono fun i hi => by rw [← hM]; exact List.mem_append_left _ hi))
  have q2 := wp_noX q1
  have gD : G1 D = none := Ex.back a1.sub hD
  have hMD : B.M D ∨ B.H0 D = none := a1.hM hD
  have st1c : Stp M A (clr A1 vs) G H G1 H1 s s1 := (st1.clr fun _ _ => rfl).mono fun i hi => by rw [← hM]; grind
  have hDn : (∃ j ∈ M, A j D) ∨ H D = none := st1c.newD hD
  have noD1 : ∀ i, ¬ clr A1 vs i D := fun i z => by
    obtain ⟨o, e⟩ := (a1.clr hv).live z
    rw [hD] at e; cases e
  refine ⟨fun i n H2 => n = xs.length - i ∧ i ≤ xs.length ∧ ∃ s2 A2 G2 acc F, At C.X.K C.FM B Γ1 A2 G2 H2 σ s2 ∧ Stp M A A2 G H G2 H2 s s2 ∧ Own C.X.K C.FM G2 H2 (.l k) (.ref D) (.list acc) F ∧ Tmp M A H A2 G2 H2 F ∧ Ex G1 G2 ∧ acc.length ≤ i ∧
    (lcS vs mt ft fe (xs.drop i) acc s2).wp (fun u s' => ∀ v A' G' H', At C.X.K C.FM B Γ1 A' G' H' σ s' → Stp M A A' G H G' H' s s' → RkOk C.X.K C.FM (.val (.l k)) M A H A' G' H' σ s' v u → Q v H') (fun _ _ => False),
    ⟨xs.length, by omega, Nat.zero_le _, s1, clr A1 vs, G1, [], fun a => a = D, (a1.clr hv).other gD hMD noD1, st1c.other hDn, .o upd_same (.l .nil) (.nil (A := fun _ => False) fun _ z => z) (fun z => z) fun a => ⟨.inl, fun z => z.elim id fun z => z.elim⟩, ⟨fun a z => z ▸ gD, fun a z i => z ▸ noD1 i, fun a z => z ▸ hDn⟩, Ex.refl _, Nat.zero_le _, q2⟩, ?_⟩
  rintro i n H2 ⟨rfl, hi2, s2, A2, G2, acc, F, a2, st2, o2, t2, ex2, hacc, q3⟩
  by_cases hlt : i < xs.length
  case neg =>
    have e : i = xs.length := by omega
    subst e
    rw [List.drop_length] at q3
    exact .inl ⟨wk.stop _ G2 H2 ex2 a2.sub (Nat.le_refl _), q3 (V.ref D) A2 G2 H2 a2 st2 ⟨F, o2, t2⟩⟩
  rw [List.drop_eq_getElem_cons hlt] at q3
  have hx : xs[i]? = some xs[i] := List.getElem?_eq_getElem hlt
  obtain ⟨hgo, hy⟩ := wk.go i xs[i] G2 H2 ex2 a2.sub hx
  refine .inr ⟨hgo, fun H3 => ∃ s3 A3 G3 acc F, At C.X.K C.FM B Γ1 A3 G3 H3 σ s3 ∧ Stp M A A3 G H G3 H3 s s3 ∧ Own C.X.K C.FM G3 H3 (.l k) (.ref D) (.list acc) F ∧ Tmp M A H A3 G3 H3 F ∧ Ex G1 G3 ∧ acc.length ≤ i + 1 ∧
    (lcS vs mt ft fe (xs.drop (i + 1)) acc s3).wp (fun u s' => ∀ v A' G' H', At C.X.K C.FM B Γ1 A' G' H' σ s' → Stp M A A' G H G' H' s s' → RkOk C.X.K C.FM (.val (.l k)) M A H A' G' H' σ s' v u → Q v H') (fun _ _ => False), fun H3 h => ⟨xs.length - (i + 1), by omega, rfl, hlt, h⟩, fun v H3 y => ?_⟩
  obtain ⟨G3, gr, pv⟩ := hy v H3 y
  cases em : mt xs[i] s2 with
  | none => simp only [lcS, em] at q3; exact q3.elim
  | some s4 =>
    simp only [lcS, em] at q3
    intro x
    obtain ⟨t3, o3⟩ := t2.later o2 (Grow.stp (A := A2) (s := s2) gr)
    refine (Classical.choose_spec (ht x).2).2 B A2 G3 H3 (L2.wipe σ vs) s2 v xs[i] (fun _ => False) s4 hB ((a2.grow gr).wipe hpv) (.f pv fun _ z => z) (fun _ z => z.elim) em _ fun A4 G4 H4 σ4 a4 st4 h4 => ⟨?_, ?_⟩
    · rw [wipe_same (σ := L2.wipe σ vs) (vs := vs) (by rw [a4.len, L2.wipe_length, a2.len, (ht x).1.1, wipeM_len]) fun j hj => h4 j fun z => hj (hmt j z)]
      exact wipe_idem
    have hσ : ∀ j, j ∉ vs → σ4[j]? = σ[j]? := fun j hj => (h4 j fun z => hj (hmt j z)).trans (L2.wipe_out hj)
    have st24 : Stp mdt A2 A4 G2 H2 G4 H4 s2 s4 := (Grow.stp gr).trans st4.stp
    obtain ⟨t4, o4⟩ := t3.later o3 st4.stp
    have body : (StM.bind ft (fun b => if b = true then .bind fe fun y s3 => lcS vs mt ft fe (xs.drop (i + 1)) (acc ++ [y]) (rst s2 vs s3) else fun s3 => lcS vs mt ft fe (xs.drop (i + 1)) acc (rst s2 vs s3)) s4 : Out S U).wp (fun u s' => ∀ v A' G' H', At C.X.K C.FM B Γ1 A' G' H' σ s' → Stp M A A' G H G' H' s s' → RkOk C.X.K C.FM (.val (.l k)) M A H A' G' H' σ s' v u → Q v H') (fun _ _ => False) := q3
    have back : ∀ {Γe : List Mk} {A7 : Foot} {G7 H7 : Hp} {s7 : S} {mdi : List Nat}, Γe.length = Γ1.length → (∀ j, j ∉ vs → Γe[j]? = Γ1[j]?) → (∀ j ∈ mdi, j ∈ md2 ++ md3) → At C.X.K C.FM B Γe A7 G7 H7 σ4 s7 → Stp mdi A4 A7 G4 H4 G7 H7 s4 s7 →
        At C.X.K C.FM B Γ1 (clr A7 vs) G7 H7 σ (rst s2 vs s7) ∧ Stp M A (clr A7 vs) G H G7 H7 s (rst s2 vs s7) ∧ Ex G1 G7 := fun {Γe A7 G7 H7 s7 mdi} hl hΓ hm a7 st7 => by
      have st27 := st24.trans st7
      have hls : s2.length = s7.length := by rw [a2.lenU, a7.lenU, hl]
      have hss : ∀ j, j ∉ vs → (rst s2 vs s7)[j]? = s7[j]? := fun j hj => by rw [rst_get hls, if_neg hj]
      exact ⟨a2.around a7 st27.ex hl hΓ hσ hv, (st2.trans (st27.clr hss)).mono fun j hj => by rw [← hM] at hj ⊢; grind, ex2.trans st27.ex⟩
    have key : (ft s4).wp (fun b s5 => ∀ A5 G5 H5, At C.X.K C.FM B Γ3 A5 G5 H5 σ4 s5 → Stp md2 A4 A5 G4 H4 G5 H5 s4 s5 →
        if b = true then SAllV C.X scope elt σ4 H5 (fun yv H6 => ∃ acc', H6 D = some (.lst acc') ∧ acc'.length < sizeLine ∧ ∃ s3 A3 G3 acc F, At C.X.K C.FM B Γ1 A3 G3 (upd H6 D (.lst (acc' ++ [yv]))) σ s3 ∧ Stp M A A3 G H G3 (upd H6 D (.lst (acc' ++ [yv]))) s s3 ∧ Own C.X.K C.FM G3 (upd H6 D (.lst (acc' ++ [yv]))) (.l k) (.ref D) (.list acc) F ∧ Tmp M A H A3 G3 (upd H6 D (.lst (acc' ++ [yv]))) F ∧ Ex G1 G3 ∧ acc.length ≤ i + 1 ∧
          (lcS vs mt ft fe (xs.drop (i + 1)) acc s3).wp (fun u s' => ∀ v A' G' H', At C.X.K C.FM B Γ1 A' G' H' σ s' → Stp M A A' G H G' H' s s' → RkOk C.X.K C.FM (.val (.l k)) M A H A' G' H' σ s' v u → Q v H') (fun _ _ => False))
        else ∃ s3 A3 G3 acc F, At C.X.K C.FM B Γ1 A3 G3 H5 σ s3 ∧ Stp M A A3 G H G3 H5 s s3 ∧ Own C.X.K C.FM G3 H5 (.l k) (.ref D) (.list acc) F ∧ Tmp M A H A3 G3 H5 F ∧ Ex G1 G3 ∧ acc.length ≤ i + 1 ∧
          (lcS vs mt ft fe (xs.drop (i + 1)) acc s3).wp (fun u s' => ∀ v A' G' H', At C.X.K C.FM B Γ1 A' G' H' σ s' → Stp M A A' G H G' H' s s' → RkOk C.X.K C.FM (.val (.l k)) M A H A' G' H' σ s' v u → Q v H') (fun _ _ => False)) (fun _ _ => False) := by
      refine wp_mono (wp_bind.mp body) (fun b s5 q5 A5 G5 H5 a5 st5 => ?_) fun _ _ h => h
      obtain ⟨t5, o5⟩ := t4.later o4 st5
      cases b with
      | false =>
        rw [if_neg Bool.false_ne_true] at q5 ⊢
        obtain ⟨a6, st6, ex6⟩ := back hl3 ha3 (fun j hj => List.mem_append_left _ hj) a5 st5
        exact ⟨_, _, G5, acc, F, a6, st6, o5, t5.clr, ex6, by omega, q5⟩
      | true =>
        rw [if_pos rfl] at q5 ⊢
        intro x2
        refine (hE x2).2 B A5 G5 H5 σ4 s5 hB a5 _ (wp_mono (wp_bind.mp q5) (fun yv s7 q7 v7 A7 G7 H7 a7 st7 r7 => ?_) fun _ _ h => h.elim)
        obtain ⟨Fy, oy, ty⟩ := r7
        obtain ⟨t7, o7⟩ := t5.later o5 st7
        obtain ⟨a8, st8, ex8⟩ := back hl4 ha4 (fun j hj => hj) a7 (st5.trans st7)
        have hdis : ∀ a, Fy a → ¬ F a := fun a z w => by
          obtain ⟨o', e'⟩ := o5.live a w
          rcases ty.nw a z with ⟨j, _, y⟩ | y
          · exact t5.no a w j y
          · rw [e'] at y; cases y
        cases o7 with
        | @o m l ob u ks Aa Bb h1 h2 h3' h4' h5 =>
          cases h2 with
          | @l m us' _ _ kl =>
            have hFD : F D := (h5 D).mpr (.inl rfl)
            have hlen := kl.len
            have nD : ∀ j, ¬ A7 j D := fun j => t7.no D hFD j
            have nD8 : ∀ j, ¬ clr A7 vs j D := fun j z => nD j (clr_le z).2
            have tt : Tmp M A H (clr A7 vs) G7 (upd H7 D (.lst (us' ++ [v7]))) fun a => F a ∨ Fy a := by
              refine ⟨fun a z => z.elim (t7.g a) (ty.g a), fun a z j w => z.elim (fun z => t7.no a z j (clr_le w).2) fun z => ty.no a z j (clr_le w).2, fun a z => z.elim (t7.nw a) fun z => ?_⟩
              have tl := (Tmp.since (st2.trans (st24.trans st5)) ty).nw a z
              rcases tl with ⟨j, hj, w⟩ | w
              · by_cases hjM : j ∈ M
                · exact .inl ⟨j, hjM, w⟩
                · exact absurd (by rw [← hM] at hj ⊢; grind) hjM
              · exact .inr w
            refine ⟨us', h1, by have := wk.sz; omega, _, clr A7 vs, G7, acc ++ [yv], fun a => F a ∨ Fy a, a8.other (t7.g D hFD) ?_ nD8, st8.other (t7.nw D hFD), ?_, tt, ex8, by simp; omega, q7⟩
            · exact hMD
            · have fr : ∀ a ob, Bb a ∨ Fy a → H7 a = some ob → upd H7 D (.lst (us' ++ [v7])) a = some ob := fun a ob z e => by
                have : a ≠ D := by
                  rintro rfl
                  rcases z with z | z
                  · exact h4' z
                  · exact hdis _ z hFD
                rw [upd_ne this]; exact e
              refine .o upd_same (.l kl.snoc) (OwnAll.snoc (h3'.frame (Ex.refl _) fun a ob z e => fr a ob (.inl z) e) (oy.frame (Ex.refl _) fun a ob z e => fr a ob (.inr z) e) fun a z w => hdis a z ((h5 a).mpr (.inr w))) (fun z => ?_) fun a => ?_
              · rcases z with z | z
                · exact h4' z
                · exact hdis _ z hFD
              · exact ⟨fun z => z.elim (fun z => ((h5 a).mp z).imp id .inl) fun z => .inr (.inr z), fun z => z.elim (fun z => .inl ((h5 a).mpr (.inl z))) fun z => z.elim (fun z => .inl ((h5 a).mpr (.inr z))) .inr⟩
    match cs, hT with
    | [], ⟨e1, e2, e3⟩ =>
      subst e1 e2 e3
      exact key A4 G4 H4 a4 .refl
    | [c], hT =>
      intro x2
      exact (hT x2).2 B A4 G4 H4 σ4 s4 hB a4 _ (wp_mono key (fun b s5 q5 A5 G5 H5 a5 st5 => q5 A5 G5 H5 a5 st5) fun _ _ h => h.elim)
/-- a comprehension: a new list of our own -/
theorem lc_ (vs : List Nat) (hc : C.X.calm = true) (hN : C.X.N.Nodup) (hw : WkJ C Γ tg iter wm md Γ1) (ok : BlkOk C.X.N C.X.env.scope scope own) (ht : ∀ x, TgJ (C.bi scope x) (wipeM Γ1 vs) tg .f mt mdt Γ2) (hT : TsJ C scope Γ2 cs ft md2 Γ3) (hE : ∀ x, EJ (C.bi scope x) Γ3 elt fe md3 (.val k) Γ4)
    (hvs : own.map (·.2) = vs := by rfl) (hv : vsOk Γ1 vs = true := by rfl) (hp : C.pn.all (fun i => !vs.contains i) = true := by rfl) (hmt : mdt.all vs.contains = true := by rfl) (h3 : agrB vs Γ1 Γ3 = true := by rfl) (h4 : agrB vs Γ1 Γ4 = true := by rfl)
    (hs : ∀ x, foldedSetIterable iter C.X.env x = pure x := by intro _; rfl) :
    EJ C Γ (.ListComp elt [⟨tg, iter, cs, 0⟩] scope pos) (lcM vs wm mt ft fe) (md ++ (vs ++ (md2 ++ md3))) (.val (.l k)) Γ1 := by
  obtain ⟨agw, wi, hi, hwi⟩ := hw
  obtain ⟨g, hg, sem⟩ := lc_sem hv hp hmt h3 h4 wi hwi ht hT hE
  refine ⟨agw.mono fun i hi => List.mem_append_left _ hi, fun B A G H σ s hB at_ Q q => ?_⟩
  refine SE.of (pe_lc hc hN hi ok (fun s H C' cl fp => hg ⟨s, H, C', cl, fp⟩) (fun s H C' cl fp => pts_all hT ⟨s, H, C', cl, fp⟩) (fun s H C' cl fp => pe_all ⟨s, H, C', cl, fp⟩) hs) ?_
  rw [hvs]
  exact sem B A G H σ s hB at_ Q q
/-- x = [..], on one line -/
theorem sasgC_ (i : Nat) (vs : List Nat) (hc : C.X.calm = true) (hN : C.X.N.Nodup) (hw : WkJ C Γ tg iter wm md Γ1) (ok : BlkOk C.X.N C.X.env.scope scope own) (ht : ∀ x, TgJ (C.bi scope x) (wipeM Γ1 vs) tg .f mt mdt Γ2) (hT : TsJ C scope Γ2 cs ft md2 Γ3) (hE : ∀ x, EJ (C.bi scope x) Γ3 elt fe md3 (.val k) Γ4)
    (hvs : own.map (·.2) = vs := by rfl) (hv : vsOk Γ1 vs = true := by rfl) (hp : C.pn.all (fun i => !vs.contains i) = true := by rfl) (hmt : mdt.all vs.contains = true := by rfl) (h3 : agrB vs Γ1 Γ3 = true := by rfl) (h4 : agrB vs Γ1 Γ4 = true := by rfl)
    (hpi : C.pn.contains i = false := by rfl) (hl : decide (i < Γ1.length) = true := by rfl) (hi : C.X.N[i]? = some y := by rfl) (hlo : C.X.env.scope.names.lookup y = some .local := by rfl)
    (hsw : swapsWith (.ListComp elt [⟨tg, iter, cs, 0⟩] scope pos) (some (.Name y ps)) spos.line C.X.env = pure true := by rfl) (hs : ∀ x, foldedSetIterable iter C.X.env x = pure x := by intro _; rfl) :
    SJ C R Γ (.Assign [.Name y ps] (.ListComp elt [⟨tg, iter, cs, 0⟩] scope pos) spos) (asgM i (lcM vs wm mt ft fe)) ((md ++ (vs ++ (md2 ++ md3))) ++ [i]) (Γ1.set i (.l k)) := by
  obtain ⟨agw, wi, hii, hwi⟩ := hw
  obtain ⟨g, hg, sem⟩ := lc_sem hv hp hmt h3 h4 wi hwi ht hT hE
  refine ⟨Agr.trans (agw.mono fun i hi => List.mem_append_left _ hi) ⟨by simp, fun j hj => List.getElem?_set_ne fun z => hj (by simp [z])⟩, fun B A G H σ s hB at_ D q => ?_⟩
  refine SS.of (ps_setLc hc hN hi hlo hsw hii ok (fun s H C' cl fp => hg ⟨s, H, C', cl, fp⟩) (fun s H C' cl fp => pts_all hT ⟨s, H, C', cl, fp⟩) (fun s H C' cl fp => pe_all ⟨s, H, C', cl, fp⟩) hs) ?_
  rw [hvs]
  refine sem B A G H σ s hB at_ _ (wp_mono (wp_bind.mp q) (fun u s1 q1 v A1 G1 H1 a1 st1 r1 => ?_) (xs_x fun i hi => List.mem_append_left _ hi))
  obtain ⟨F, o, t⟩ := r1
  refine q1 _ G1 H1 (σ.set i (some v)) (a1.put o (by simpa using hl) t.g (fun b z j _ => t.no b z j) (tmp_M at_ t) fun p hp' e => ?_) (put_stp (v := v) st1 t) fun j hj => List.getElem?_set_ne fun z => hj (by simp [z])
  have := hB.1 p hp'
  rw [e] at this
  simp at hpi
  exact absurd this hpi
end
end V4
namespace V4
open PySem PySem.Spec PyProof.Rows L2 L3 RZ
def NoNx (m : Mo (Option U)) : Prop := ∀ s s', m s ≠ .ok none s'
theorem nn_ret {m : Mo U} : NoNx (retM m) := fun s s' h => by
  unfold retM StM.bind at h
  cases e : m s with
  | ok u s1 => rw [e] at h; cases h
  | exc _ _ => rw [e] at h; cases h
  | stuck => rw [e] at h; cases h
theorem nn_seq {a b : Mo (Option U)} (h : NoNx b) : NoNx (seqM a b) := fun s s' e => by
  unfold seqM StM.bind at e
  cases ea : a s with
  | ok o s1 =>
    rw [ea] at e
    cases o with
    | none => exact h _ _ e
    | some r => cases e
  | exc _ _ => rw [ea] at e; cases e
  | stuck => rw [ea] at e; cases e
def raiseM {β : Type} (c : Str) : Mo β := fun s => .exc ⟨c, none⟩ s
theorem nn_raise {c : Str} : NoNx (raiseM c) := fun s s' h => by cases h
def isEM (tbl : List (Str × Bool)) (er : Err) : Mo U := match tbl.lookup er.cls with
  | some b => .pure (.bool b)
  | none => .fail
abbrev Ct.tr (C : Ct) (pn : List (Addr × Obj)) (xe : Value → Shared → Prop) (W : WX) : Ct := ⟨C.X.tr pn xe, C.FM, W, C.pn, C.bp⟩
section
variable {C : Ct} {R : Rt} {Γ Γ1 Γ2 Γ3 Γ' : List Mk} {e : Expr} {body suite : List Stmt} {b₀ : Stmt} {pos np pos' p p1 p2 : Pos} {mb : Mo (Option U)} {ms : Err → Mo (Option U)} {m : Mo (Option U)} {md md2 md3 : List Nat} {i : Nat} {x n cn y : Str} {c : Value} {tbl : List (Str × Bool)} {rest : List Stmt}
theorem sdead_ (hn : NoNx m) (h : SsJ C R Γ rest m md Γ1) (md2 : List Nat) (Γ2 : List Mk) (ha : agrB md2 Γ Γ2 = true := by rfl) (hm : md.all md2.contains = true := by rfl) : SsJ C R Γ rest m md2 Γ2 := ⟨agr_of ha, fun B A G H σ s hB at_ D q => by
  have hm : ∀ i ∈ md, i ∈ md2 := fun i hi => by simpa using List.all_eq_true.mp hm i hi
  refine h.2 B A G H σ s hB at_ D ?_
  have := hn s
  cases e : m s with
  | ok o s' =>
    rw [e] at q
    cases o with
    | none => exact absurd e (hn s s')
    | some r => exact q
  | exc er s' => rw [e] at q; exact xs_mono hm _ s' q
  | stuck => rw [e] at q; exact q⟩
theorem sraise_ (hc : C.X.calm = true) (tk : Takes C.X C.W) (hm : PMk C.X e fun _ H Q => Q (.ref (clsAt C.X.K cn)) none H) : SJ C R Γ (.Raise (some e) none pos) (raiseM cn) [] Γ := ⟨.refl, fun B A G H σ s hB at_ D q =>
  SS.of (ps_raise hc tk hm) (q _ none σ G H ⟨Ex.refl _, at_.sub, fun a o e _ => ⟨e, rfl⟩, at_.glk⟩ (fun _ _ => rfl) rfl ⟨rfl, rfl⟩)⟩
end
section
variable {K : PySem.W.Frag} {FM : FMap} {B : Bs} {Γ Γ' : List Mk} {A A' A1 A2 : Foot} {G H G' H' G2 H2 : Hp} {σ σ' : L2.St} {s s' s2 : S} {md md2 vs : List Nat} {F : Fp} {D : Addr} {o : HO}
theorem XStp.stp (x : XStp md A G H G' H') (hv : ∀ j ∈ md, j ∈ vs) : Stp vs A (V4.clr A vs) G H G' H' s s := ⟨x.ex, fun b o e h => x.keep b o e fun i hi => h i (hv i hi), fun i hi b z => (clr_in hi z).elim, fun i hi => ⟨clr_out hi, rfl⟩⟩
end
end V4
namespace V4
open PySem PySem.Spec PyProof.Rows L2 L3 RZ
section
variable {C : Ct} {R : Rt} {Γ Γ1 Γ2 Γ3 Γ' : List Mk} {e a b : Expr} {es : List Expr} {pos p p1 p2 apos : Pos} {ma mb : Mo U} {ms : Mo (List U)} {md md2 md3 : List Nat} {i : Nat} {x n y nm : Str} {ra rb : Rk} {k : Mk} {rs : List Rk} {pm : Mo (List PK)}
theorem c1_ {rr : List V → Hp → VK → Prop} {f : U → Option U} (h : Bcall C.X e [a] rr) (pr : Pr C.X.K (dU C.X.K) rr (a1 f)) (ha : EJ C Γ a ma md ra Γ1) (h1 : shal ra.mk = true := by rfl) (hs : starEach [a] C.X.env = (false, eval a C.X.env) :: starEach [] C.X.env := by rfl) : EJ C Γ e (op1M f ma) md (.val .f) Γ1 :=
  one_ (rr := fun v => rr [v]) (fun σ H Q q => SE.of h.pe (SA.of (pa_cons pe_se pa_nil hs) q)) (pr_r1 pr) ha h1
theorem c1A_ {rr : List V → Hp → VK → Prop} {f : U → Option U} (h : Bcall C.X e [a] rr) (pr : Pr C.X.K (dU C.X.K) rr (a1 f)) (hpl : ∀ x d, f x = some d → plainU d = true) (ha : EJ C Γ a ma md ra Γ1) (hs : starEach [a] C.X.env = (false, eval a C.X.env) :: starEach [] C.X.env := by rfl) : EJ C Γ e (op1M f ma) md (.val .f) Γ1 :=
  oneA_ (rr := fun v => rr [v]) (fun σ H Q q => SE.of h.pe (SA.of (pa_cons pe_se pa_nil hs) q)) (pr_r1 pr) hpl ha
theorem c1O_ {rr : List V → Hp → VK → Prop} {f : U → Option U} (h : Bcall C.X e [a] rr) (pr : Pr C.X.K (oU C.X.K) rr (a1 f)) (hk : ∀ x d, f x = some d → topK k d = true) (ha : EJ C Γ a ma md ra Γ1) (h1 : shal ra.mk = true := by rfl) (hs : starEach [a] C.X.env = (false, eval a C.X.env) :: starEach [] C.X.env := by rfl) : EJ C Γ e (op1M f ma) md (.val k) Γ1 :=
  oneO_ (rr := fun v => rr [v]) (fun σ H Q q => SE.of h.pe (SA.of (pa_cons pe_se pa_nil hs) q)) (pr_r1 pr) hk ha h1
theorem c2_ {rr : List V → Hp → VK → Prop} {f : U → U → Option U} (h : Bcall C.X e [a, b] rr) (pr : Pr C.X.K (dU C.X.K) rr (a2 f)) (ha : EJ C Γ a ma md ra Γ1) (hb : EJ C Γ1 b mb md2 rb Γ2) (ho : ra.off md2 = true := by rfl) (h1 : shal ra.mk = true := by rfl) (h2 : shal rb.mk = true := by rfl) (hs : starEach [a, b] C.X.env = (false, eval a C.X.env) :: starEach [b] C.X.env := by rfl) (hs2 : starEach [b] C.X.env = (false, eval b C.X.env) :: starEach [] C.X.env := by rfl) :
    EJ C Γ e (op2M f ma mb) (md ++ md2) (.val .f) Γ2 :=
  two_ (rr := fun v u => rr [v, u]) ⟨fun pins s σ H Q I q => h.pe.run pins s σ H Q I (SA.of (pa_cons pe_se (pa_cons pe_se pa_nil hs2) hs) q)⟩ (pr_r2 pr) ha hb ho h1 h2
theorem un_ {op : UnaryOp} {r : V → Hp → VK → Prop} {f : U → Option U} (hop : UnR C.X (unaryOp op) r) (pr : Pr C.X.K (dU C.X.K) (r1l r) (a1 f)) (ha : EJ C Γ a ma md ra Γ1) (h1 : shal ra.mk = true := by rfl) : EJ C Γ (.UnaryOp op a pos) (op1M f ma) md (.val .f) Γ1 :=
  one_ (fun σ H Q q => SE.of (pe_un hop pe_se) q) pr ha h1
theorem ixs_ {rr : R2} {f : U → U → Option U} (hop : IxR C.X rr) (pr : Pr C.X.K (dU C.X.K) (r2l rr) (a2 f)) (ha : EJ C Γ a ma md ra Γ1) (hb : EJ C Γ1 b mb md2 rb Γ2) (ho : ra.off md2 = true := by rfl) (h1 : shal ra.mk = true := by rfl) (h2 : shal rb.mk = true := by rfl) (hs : PlainIx b := by intro _ _; rfl) :
    EJ C Γ (.Subscript a b pos) (op2M f ma mb) (md ++ md2) (.val .f) Γ2 := ix_ (pe_ix hop pe_se pe_se hs) pr ha hb ho h1 h2
theorem fd_ {cn f : Str} (hc : Cls C.X.K (clsAt C.X.K cn)) (hn : NoAttr C.X.K (clsAt C.X.K cn) f) (ha : EJ C Γ a ma md (.val .f) Γ1) (hb : attributeBase a f C.X.env (eval a C.X.env) = eval a C.X.env := by rfl) : EJ C Γ (.Attribute a f pos) (op1M (uFld cn f) ma) md (.val .f) Γ1 :=
  one_ (rr := FldR C.X.K f) (fun σ H Q q => SE.of (pe_fld pe_se hb) q) (pr_fld hc hn) ha
/-- a.m(e), a a text -/
def sm1M (f : U → U → Option U) (ma mb : Mo U) : Mo U := .bind ma fun u => .bind (if isStrU u then .pure () else .fail) fun _ => .bind mb fun z => .ofOpt (f u z)
theorem sm1_ {r : V → List V → Hp → VK → Prop} {f : U → U → Option U} (pe : PE C.X e (tM1 r (SE C.X a) (SE C.X b))) (pr : Pr C.X.K (dU C.X.K) (r2l fun x y => r x [y]) (a2 f)) (ha : EJ C Γ a ma md (.val .f) Γ1) (hb : EJ C Γ1 b mb md2 rb Γ2) (h2 : shal rb.mk = true := by rfl) : EJ C Γ e (sm1M f ma mb) (md ++ md2) (.val .f) Γ2 :=
  ⟨ha.1.trans hb.1, fun B A G H σ s hB at_ Q q => SE.of pe (ha.2 B A G H σ s hB at_ _ (wp_mono (wp_bind.mp q) (fun x s1 q1 v1 A1 G1 H1 at1 st1 r1 => by
    cases x with
    | str z =>
      have rf := r1.frz
      have e1 : v1 = .str z := by cases rf; rfl
      subst e1
      have q1 : ((StM.bind mb fun y => (StM.ofOpt (f (.str z) y) : Mo U)) s1).wp _ _ := q1
      refine ⟨⟨z, rfl⟩, hb.2 B A1 G1 H1 σ s1 hB at1 _ (wp_mono (wp_bind.mp q1) (fun y s2 q2 v2 A2 G2 H2 at2 st2 r2 => ?_) (xw_r st1))⟩
      obtain ⟨d, ed, q3⟩ := wp_ofOpt q2
      refine pr [.str z, y] d ed H2 G2 H2 [.str z, v2] Q at2.sub ⟨.inl (dp_ex st2.ex _ _ rf), r2.bow h2, trivial⟩ fun v G' H' g r => ?_
      exact q3 v A2 G' H' (at2.grow g) ((st1.trans st2).gr g) (.frozen r)
    | _ => exact q1.elim) xw_l))⟩
theorem join_ (ha : EJ C Γ a ma md (.val .f) Γ1) (hb : EJ C Γ1 b mb md2 rb Γ2) (h2 : shal rb.mk = true := by rfl) (hs : starEach [b] C.X.env = [(false, eval b C.X.env)] := by rfl) (hbase : attributeBase a "join" C.X.env (eval a C.X.env) = eval a C.X.env := by rfl) (hline : (apos.endLine == pos.line) = true := by rfl) :
    EJ C Γ (.Call (.Attribute a "join" apos) [b] [] pos) (sm1M uJoin ma mb) (md ++ md2) (.val .f) Γ2 := sm1_ (pe_join pe_se pe_se hs hbase hline) pr_join ha hb h2
theorem isi_ {T : Str} {Ts : String} (ha : EJ C Γ a ma md ra Γ1) (hm : C.X.mg "isinstance" = none) (hT : C.X.mg T = none) (hv : bootBuiltins T = some (.type Ts)) (hg : Gl C.X "isinstance" := by rfl) (hgT : Gl C.X T := by rfl) (hn : T ≠ "__name__" := by decide) (hdT : (T == ("__debug__" : Str)) = false := by decide)
    (h1 : starEach [a, .Name T p2] C.X.env = (false, eval a C.X.env) :: starEach [.Name T p2] C.X.env := by rfl) (hpl : (backTo pos (starEach [.Name T p2] C.X.env)).any (·.1) = false := by rfl) (h2 : starEach [.Name T p2] C.X.env = (false, eval (.Name T p2) C.X.env) :: starEach [] C.X.env := by rfl) :
    EJ C Γ (.Call (.Name "isinstance" p) [a, .Name T p2] [] pos) (op1M (uIsi Ts) ma) md (.val .f) Γ1 :=
  oneA_ (rr := fun v => rIsi C.X.K [v, .ty Ts]) (fun σ H Q h => SE.of (pe_callB (x := ("isinstance" : Str)) call_isi hg hm bt_isinstance (pa_cons pe_se (pa_cons (pe_bltn (v := .ty Ts) hgT hT hv rfl hn hdT) pa_nil h2) h1) (by decide) (by decide) h1 hpl) h) (pr1 fun u d e G H v Q ex b q => pr_isi [u] d e H G H [v] Q ex ⟨b, trivial⟩ q)
    (fun x d h => by
      unfold uIsi at h
      split at h
      · cases h
      · obtain ⟨b, _, rfl⟩ := Option.map_eq_some_iff.mp h; rfl) ha
theorem r_append (hbase : attributeBase a "append" C.X.env (eval a C.X.env) = eval a C.X.env := by rfl)
    (hfew : ((backTo pos (starEach [b] C.X.env)).all (fun x => !x.1) && (backToKw pos (keywordEach [] C.X.env)).all (fun x => x.1.isSome)
      && decide (([b] : List Expr).length + ([] : List Keyword).length + (if ([] : List Keyword).isEmpty then 0 else 1) < 30)) = true := by rfl)
    (hline : (apos.endLine == pos.line) = true := by rfl) (hs : starEach [b] C.X.env = (false, eval b C.X.env) :: starEach [] C.X.env := by rfl) (hplain : (backTo pos (starEach [] C.X.env)).any (·.1) = false := by rfl) :
    ∀ σ H (Q : VK), SE C.X a σ H (fun xv H1 => tyV C.X.K "list" xv H1 ∧ SA C.X [b] σ H1 fun vs H2 => rAppend xv vs H2 Q) → SE C.X (.Call (.Attribute a "append" apos) [b] [] pos) σ H Q := fun σ H Q h =>
  SE.of (pe_bm F.plainAttrs_list F.slot_list_append F.type_list_append mt_append pe_se pa_sa hbase hfew hline hs hplain) h
end
theorem bt_all : bootBuiltins "all" = some (.builtin "all") := by decide +kernel
theorem bt_max : bootBuiltins "max" = some (.builtin "max") := by decide +kernel
theorem bt_min : bootBuiltins "min" = some (.builtin "min") := by decide +kernel
theorem bt_divmod : bootBuiltins "divmod" = some (.builtin "divmod") := by decide +kernel
theorem bt_sorted : bootBuiltins "sorted" = some (.builtin "sorted") := by decide +kernel
theorem bt_list : bootBuiltins "list" = some (.type "list") := by decide +kernel
theorem bt_tuple : bootBuiltins "tuple" = some (.type "tuple") := by decide +kernel
theorem bt_str : bootBuiltins "str" = some (.type "str") := by decide +kernel
theorem pl_len : ∀ x d, uLen x = some d → plainU d = true := fun x d h => by
  unfold uLen at h
  split at h
  · split at h
    · cases h; rfl
    · cases h
  · cases h; rfl
  · cases h; rfl
  · cases h; rfl
  · cases h
theorem pl_all : ∀ x d, uAll x = some d → plainU d = true := fun x d h => by
  unfold uAll at h
  split at h
  · obtain ⟨b, _, rfl⟩ := Option.map_eq_some_iff.mp h; rfl
  · cases h
theorem pl_lt : ∀ x y d, uLt x y = some d → plainU d = true := fun x y d h => by unfold uLt at h; split at h <;> cases h <;> rfl
theorem pl_gt : ∀ x y d, uGt x y = some d → plainU d = true := fun x y d h => by unfold uGt at h; split at h <;> cases h <;> rfl
theorem pl_eq : ∀ x y d, uEq x y = some d → plainU d = true := fun x y d h => by unfold uEq at h; split at h <;> cases h; rfl
theorem pl_ne : ∀ x y d, uNe x y = some d → plainU d = true := fun x y d h => by unfold uNe at h; split at h <;> cases h; rfl
theorem pl_in : ∀ x y d, uIn x y = some d → plainU d = true := fun x y d h => by
  unfold uIn at h
  split at h
  · split at h <;> cases h; rfl
  · split at h <;> cases h; rfl
  · cases h; rfl
  · cases h
theorem pl_notIn : ∀ x y d, uNotIn x y = some d → plainU d = true := fun x y d h => by unfold uNotIn at h; split at h <;> cases h <;> rfl
theorem tk_list : ∀ x d, uList x = some d → topK (.l .f) d = true := fun x d h => by
  unfold uList at h
  split at h
  · cases h; rfl
  · cases h; rfl
  · split at h <;> cases h; rfl
  · cases h
theorem tk_sorted : ∀ x d, uSorted x = some d → topK (.l .f) d = true := fun x d h => by
  unfold uSorted at h
  split at h
  · split at h <;> cases h; rfl
  · split at h <;> cases h; rfl
  · cases h
theorem tk_append : ∀ u us u' d, uAppend u us = some (u', d) → topK (.l .f) u = true → topK (.l .f) u' = true := fun u us u' d h _ => by
  unfold uAppend at h
  split at h
  · split at h <;> cases h; rfl
  · cases h
end V4
namespace V4
open PySem PySem.Spec PyProof.Rows L2 L3 RZ
structure ExOwn (K : PySem.W.Frag) (mg : Str → Option Value) (x : Str) : Prop where
  q : PySem.W.excIn K (clsAt K x) [.type "ValueError", .type "Exception", .type "BaseException", .type "object"] "ValueError.__new__" = true
  g : mg x = some (.ref (clsAt K x))
  k : PySem.W.keepIn K (.ref (clsAt K x)) = true
  b : PySem.W.subIn K (.ref (clsAt K x)) (.type "BaseException") = some true
  t : PySem.W.typeIn K (.ref (clsAt K x)) = some (.type "type")
section
variable {X : Cx} {x m : Str} {j : Nat} {p p2 pos : Pos}
theorem mk_err (T : ExOwn X.K X.mg x) (hg : Gl X x := by rfl) (hdb : (x == ("__debug__" : Str)) = false := by decide) : PMk X (.Call (.Name x p) [.Constant (.str m) j p2] [] pos) (fun _ H Q => Q (.ref (clsAt X.K x)) none H) :=
  pmk_own PySem.F.excBase_ValueError T.q T.g T.k (raises_own T.b T.t) hg hdb
end
theorem tb_nil {P : Str → Bool → Prop} : ∀ cn b, ([] : List (Str × Bool)).lookup cn = some b → P cn b := fun cn b h => by cases h
theorem tb_cons {P : Str → Bool → Prop} {c : Str} {b0 : Bool} {r : List (Str × Bool)} (h : P c b0) (k : ∀ cn b, r.lookup cn = some b → P cn b) : ∀ cn b, ((c, b0) :: r).lookup cn = some b → P cn b := fun cn b e => by
  rw [List.lookup_cons] at e
  cases hc : cn == c with
  | true =>
    rw [hc] at e
    cases e
    rw [eq_of_beq hc]
    exact h
  | false => rw [hc] at e; exact k cn b e
section
variable {C : Ct} {Γ Γ1 Γ2 : List Mk} {e o : Expr} {es : List Expr} {md md2 : List Nat} {r : Rk} {rs : List Rk} {mo : Mo U} {ms : Mo (List U)} {sg : Sig} {fn : Fn} {x mth cn : Str} {p pos apos : Pos} {k : Nat} {kr : Mk} {f : Addr} {fd : FuncData} {ps : List Str}
theorem tk0 {P : Program} {wd : World} {K : PySem.W.Frag} {mg : Str → Option Value} {base : Heap} {N : List Str} {qual : Str} {st : Stmt} {f : Addr} {cdv : Value} {A : Around} {outer : List PySem.Env} {s : Shared} {H : Hp} {E : XK} {FM : FMap} {sg : Sig} :
    Takes (bodyC P wd K mg base N qual st f cdv A outer s H E FM sg).X (bodyC P wd K mg base N qual st f cdv A outer s H E FM sg).W := cx_takes (ca := clsAt K)
theorem fn1_ (tk : Takes C.X C.W) (F : FnG C.X.prog C.X.w C.X.K C.X.mg C.X.base (L2.CX C.X.prog C.X.w) k f fd ps (SpOf C.X.K C.FM sg fn)) (hr : RoomG k C.X.A) (hm : C.X.mg x = some (Value.ref f)) (hk : PySem.W.keepIn C.X.K (Value.ref f) = true) (hb : Binds C.X.K fd ps [])
    (ha : GJ C Γ (SA C.X (e :: es)) ms md rs Γ1) (L : LL) (hL : callB rs sg L Γ1 = true := by rfl) (hg : Gl C.X x := by rfl) (hdb : (x == ("__debug__" : Str)) = false := by decide) (he : starEach (e :: es) C.X.env = (false, eval e C.X.env) :: starEach es C.X.env := by rfl) (hpl : (backTo pos (starEach es C.X.env)).any (·.1) = false := by rfl) (hret : sg.ret = kr := by rfl) :
    EJ C Γ (.Call (.Name x p) (e :: es) [] pos) (callM fn L ms) (md ++ L.map fun t => t.2.2) (.val kr) Γ1 := hret ▸ call_ (rule_fn (w := ⟨C.W, clsAt C.X.K⟩) tk F hr hm hk hb hg hdb he hpl) ha L hL
theorem me1_ {pl : Sem Bool} (tk : Takes C.X C.W) (c : Cls C.X.K (clsAt C.X.K cn)) (hm : Meth C.X.K (clsAt C.X.K cn) mth f) (F : FnG C.X.prog C.X.w C.X.K C.X.mg C.X.base (L2.CX C.X.prog C.X.w) k f fd ps (SpOf C.X.K C.FM sg fn)) (hr : RoomG k C.X.A) (hb : Binds C.X.K fd ps [])
    (ho : EJ C Γ o mo md r Γ1) (ha : GJ C Γ1 (SA C.X (e :: es)) ms md2 rs Γ2) (L : LL) (hof : r.off md2 = true := by rfl) (hL : callB (r :: rs) sg L Γ2 = true := by rfl)
    (h1 : starEach (e :: es) C.X.env = (false, eval e C.X.env) :: starEach es C.X.env := by rfl) (h2 : (backTo pos (starEach es C.X.env)).any (·.1) = false := by rfl)
    (h3 : eval (.Call (.Attribute o mth apos) (e :: es) [] pos) C.X.env = (do
      let ov ← eval o C.X.env
      standAt apos.atName
      let (f, first) ← holding [ov] (getMethod ov mth pl)
      callWith pos f first (backTo pos (starEach (e :: es) C.X.env)) (backToKw pos (keywordEach [] C.X.env))) := by rfl) (hret : sg.ret = kr := by rfl) :
    EJ C Γ (.Call (.Attribute o mth apos) (e :: es) [] pos) (callM fn L (recvM cn mth mo ms)) ((md ++ md2) ++ L.map fun t => t.2.2) (.val kr) Γ2 := hret ▸ call_ (rule_m (w := ⟨C.W, clsAt C.X.K⟩) tk c hm F hr hb h1 h2 h3) (recv_ ho ha hof) L hL
theorem me0_ {pl : Sem Bool} (tk : Takes C.X C.W) (c : Cls C.X.K (clsAt C.X.K cn)) (hm : Meth C.X.K (clsAt C.X.K cn) mth f) (F : FnG C.X.prog C.X.w C.X.K C.X.mg C.X.base (L2.CX C.X.prog C.X.w) k f fd ps (SpOf C.X.K C.FM sg fn)) (hr : RoomG k C.X.A) (hb : Binds C.X.K fd ps [])
    (ho : EJ C Γ o mo md r Γ1) (L : LL) (hL : callB [r] sg L Γ1 = true := by rfl)
    (h3 : eval (.Call (.Attribute o mth apos) [] [] pos) C.X.env = (do
      let ov ← eval o C.X.env
      standAt apos.atName
      let (f, first) ← holding [ov] (getMethod ov mth pl)
      callWith pos f first (backTo pos (starEach [] C.X.env)) (backToKw pos (keywordEach [] C.X.env))) := by rfl) (hret : sg.ret = kr := by rfl) :
    EJ C Γ (.Call (.Attribute o mth apos) [] [] pos) (callM fn L (recvM cn mth mo nilM)) ((md ++ []) ++ L.map fun t => t.2.2) (.val kr) Γ1 := hret ▸ call_ (rule_m0 (w := ⟨C.W, clsAt C.X.K⟩) tk c hm F hr hb h3) (recv_ ho gnil_ (by cases r <;> rfl)) L hL
theorem mk1_ (tk : Takes C.X C.W) (M : L2.Mk C.X.K (clsAt C.X.K cn) f) (F : FnG C.X.prog C.X.w C.X.K C.X.mg C.X.base (L2.CX C.X.prog C.X.w) k f fd ps (SpOf C.X.K C.FM sg fn)) (hr : RoomG (k + 1) C.X.A) (hm : C.X.mg cn = some (.ref (clsAt C.X.K cn))) (hb : Binds C.X.K fd ps [])
    (ha : GJ C Γ (SA C.X (e :: es)) ms md rs Γ1) (hs : decide (sg.ps = (.i cn, true) :: List.replicate rs.length (.f, false)) = true := by rfl) (hret : decide (sg.ret = .f) = true := by rfl) (hrs : rs.all (fun r => match r with | .val .f => true | _ => false) = true := by rfl)
    (hg : Gl C.X cn := by rfl) (hdb : (cn == ("__debug__" : Str)) = false := by decide) (he : starEach (e :: es) C.X.env = (false, eval e C.X.env) :: starEach es C.X.env := by rfl) (hpl : (backTo pos (starEach es C.X.env)).any (·.1) = false := by rfl) :
    EJ C Γ (.Call (.Name cn p) (e :: es) [] pos) (mkM cn fn ms) md (.val (.i cn)) Γ1 := mk_ (fun σ H Q h => rule_mk (w := ⟨C.W, clsAt C.X.K⟩) tk M F hr hm hb hg hdb he hpl σ H Q h) ha hs hret hrs
theorem mk0_ (tk : Takes C.X C.W) (M : L2.Mk C.X.K (clsAt C.X.K cn) f) (F : FnG C.X.prog C.X.w C.X.K C.X.mg C.X.base (L2.CX C.X.prog C.X.w) k f fd ps (SpOf C.X.K C.FM sg fn)) (hr : RoomG (k + 1) C.X.A) (hm : C.X.mg cn = some (.ref (clsAt C.X.K cn))) (hb : Binds C.X.K fd ps [])
    (hs : decide (sg.ps = [(.i cn, true)]) = true := by rfl) (hret : decide (sg.ret = .f) = true := by rfl) (hg : Gl C.X cn := by rfl) (hdb : (cn == ("__debug__" : Str)) = false := by decide) :
    EJ C Γ (.Call (.Name cn p) [] [] pos) (mkM cn fn nilM) [] (.val (.i cn)) Γ := mk_ (rs := []) (fun σ H Q h => rule_mk0 (w := ⟨C.W, clsAt C.X.K⟩) tk M F hr hm hb hg hdb σ H Q h) gnil_ hs hret rfl
end
end V4
namespace V4
open PySem PySem.Spec PyProof.Rows L2 L3 RZ
def spTrue (K : PySem.W.Frag) : Sp := fun vs H Q E => ∃ (a : Addr) (ns : List Int), vs = [.ref a] ∧ SqL K H a (ns.map V.int) ∧ ns.length ≤ 63 ∧ (∀ z ∈ ns, Builtin.Int.intBits z ≤ 1048576) ∧ ∀ H', Q (.bl true) H'
theorem fn_true {P : Program} {w : World} {K : PySem.W.Frag} {mg : Str → Option Value} {base : Heap} {CX : CXT} {k : Nat} {f : Addr} {fd : FuncData} {ps : List Str} {FM : FMap} {fn : Fn}
    (F : FnG P w K mg base CX k f fd ps (SpOf K FM ⟨[(.f, false)], .f⟩ fn)) (h : ∀ ns : List Int, ns.length ≤ 63 → (∀ z ∈ ns, Builtin.Int.intBits z ≤ 1048576) → ∃ fin, fn [.list (ns.map U.int)] = .ok (.bool true) fin) : FnG P w K mg base CX k f fd ps (spTrue K) := F.imp fun vs H Q E ⟨a, ns, hv, hS, hl, hb, q⟩ => by
  subst hv
  let G : Hp := fun b => if b = a then (match H a with | some o => if isDct o = true then none else some o | none => none) else none
  have hG : ∀ b o, G b = some o → H b = some o ∧ isDct o = false := fun b o e => by
    by_cases hb : b = a
    · subst hb
      have e : (match H b with | some o => if isDct o = true then none else some o | none => none) = some o := by simpa [G] using e
      cases hh : H b with
      | none => rw [hh] at e; cases e
      | some o' =>
        rw [hh] at e
        simp only at e
        split at e
        · cases e
        · rename_i hn; cases e; exact ⟨rfl, by simpa using hn⟩
    · have e : (if b = a then (match H a with | some o => if isDct o = true then none else some o | none => none) else none) = some o := e
      rw [if_neg hb] at e; cases e
  have hs : SqL K G a (ns.map V.int) := by
    rcases hS with (z | ⟨o, z⟩) | z
    · exact .inl (.inl (by show (if a = a then _ else _) = _; rw [if_pos rfl, z]; rfl))
    · exact .inl (.inr ⟨o, by show (if a = a then _ else _) = _; rw [if_pos rfl, z]; rfl⟩)
    · exact .inr z
  have hD : DqAll K G (ns.map V.int) (ns.map U.int) := by
    clear h hS hl hb q hs hG
    induction ns with
    | nil => exact .nil
    | cons n ns ih => exact .cons (.int n) ih
  refine ⟨[.list (ns.map U.int)], G, fun _ _ => False, ⟨rfl, rfl, fun b o e => (hG b o e).1, fun i p v u e1 e2 e3 => ?_, fun i b z => z.elim, fun i j b z => z.elim, fun b o e => (hG b o e).2⟩, ?_⟩
  · cases i with
    | zero =>
      simp at e1 e2 e3
      subst e1 e2 e3
      exact .f (.lst hs hD) fun _ z => z
    | succ i => simp at e1
  · obtain ⟨fin, e⟩ := h ns hl hb
    rw [e]
    intro v A' F' G' H' ex
    have o := ex.ret
    cases o with
    | f hd _ => cases hd; exact q H'
    | o _ hk => cases hk
section
variable {P : Program} {w : World} {K : PySem.W.Frag} {mg mb : Str → Option Value} {CX : CXT} {k : Nat} {fa a : Addr} {fd : FuncData} {x : Str} {sp : Sp} {s₁ : Shared} {vs : List Value} {ns : List Int}
theorem head_core (KX : K.In s₁.heap) (hns : s₁.heap.Ns mainGlobals mg) (hb : s₁.heap.Ns builtinsNs mb) (hbb : ∀ x : Str, x ≠ "__name__" → mb x = bootBuiltins x) (hlim : s₁.heap.NoLimit) (hg : s₁.gens = #[])
    (ha : s₁.heap.get? a = some { cls := .type "list", data := .seq vs.toArray }) (hr : RoomG k callerA)
    (F : ∀ base : Heap, K.In base → base.Ns mainGlobals mg → FnG P w K mg base CX k fa fd [x] sp) (hbind : ∀ (s : Shared) (u : Value), BindsTo s fd ⟨[u], []⟩ [(x, u)])
    {H : Hp} (hO : Only H) (hsp : sp [.ref a] H (fun v _ => v = .bl true) fun _ _ _ => False) (hCX : ∀ e s', CX [] H s₁ (fun _ _ _ => False) e s' → False)
    (hok : HOk P w H s₁.heap) (hA : ∀ b, H b ≠ none → b = a) (hK : H a ≠ none → K.lookup a = none) :
    codeAny (model P w) callerA (.call (.ref fa) ⟨[.ref a], []⟩) (fun r s' => r = .ok (.ret (.bool true)) ∧ OldK s₁.heap s'.heap ∧ s'.os = s₁.os ∧ AllBare s'.gens) s₁ := by
  have noA : ∀ {b : Addr} {o : Obj} {es : Array DictEntry} {ep : Nat}, s₁.heap.get? b = some o → o.data = .dict es ep → H b = none := fun {b o es ep} e d => Classical.byContradiction fun q => by
    rw [hA b q, ha] at e
    cases e
    exact absurd d (by simp)
  have nsK : ∀ {b : Addr} {m : Str → Option Value}, s₁.heap.Ns b m → (hidT s₁.heap H).Ns b m := fun {b m} ⟨o, es, ep, e, d, r⟩ => ⟨o, es, ep, hidT_get e (noA e d), d, r⟩
  have hKb : K.In (hidT s₁.heap H) := fun b o e => hidT_get (KX b o e) (Classical.byContradiction fun q => by
    have h := hA b q
    subst h
    rw [hK q] at e
    cases e)
  obtain ⟨mc, l1, l2⟩ := hlim
  have hM : Mod K mg (hidT s₁.heap H) := ⟨hKb, nsK hns, ⟨mb, nsK hb, hbb⟩, ⟨mc, nsK l1, l2⟩⟩
  have e0 : Env0 P w K mg (hidT s₁.heap H) callerA [] s₁ H := ⟨rfl, hM, fun b o e => of_hidT e, Nat.le_of_eq (hidT_size _ _), trivial, fun b hb => absurd (show b ∈ ([] : List Addr) from hb) (by simp), hok, .of_eq hg⟩
  refine codeAny_mono ((F _ hKb (nsK hns)).run callerA [] s₁ H ⟨[.ref a], []⟩ [.ref a] [.ref a] _ _ hr e0 (hbind s₁ (.ref a)) (.cons rfl .nil) hsp) fun r s' h => ?_
  cases r with
  | error e => exact (hCX e s' h).elim
  | ok fl =>
    cases fl with
    | next => exact h.elim
    | brk => exact h.elim
    | cont => exact h.elim
    | ret u =>
      obtain ⟨v, H', os, bare, un, hok', r', q⟩ := h
      have q' : v = .bl true := q
      subst q'
      have eu : u = Value.bool true := r'
      subst eu
      refine ⟨rfl, OldK.of_keep fun b o e => ?_, os, bare⟩
      rcases hO b with z | ⟨ob, xs, z⟩
      · exact un.keep b o e z (fun z => absurd (show b ∈ ([] : List Addr) from z) (by simp)) (by simp)
      · have z2 := un.frzs b ob _ z
        have e1 := (hok b _ z).1
        have e2 := (hok' b _ z2).1
        rw [e] at e1
        cases e1
        exact e2
theorem law_callG (KX : K.In s₁.heap) (hns : s₁.heap.Ns mainGlobals mg) (hb : s₁.heap.Ns builtinsNs mb) (hbb : ∀ x : Str, x ≠ "__name__" → mb x = bootBuiltins x) (hlim : s₁.heap.NoLimit) (hg : s₁.gens = #[])
    (ha : s₁.heap.get? a = some { cls := .type "list", data := .seq vs.toArray }) (hi : IntsAre vs ns) (hl : ns.length ≤ sizeLine) (hr : RoomG k callerA)
    (F : ∀ base : Heap, K.In base → base.Ns mainGlobals mg → FnG P w K mg base CX k fa fd [x] sp) (hbind : ∀ (s : Shared) (u : Value), BindsTo s fd ⟨[u], []⟩ [(x, u)])
    (hsp : ∀ H : Hp, Only H → SqL K H a (ns.map V.int) → sp [.ref a] H (fun v _ => v = .bl true) fun _ _ _ => False)
    (hCX : ∀ H e s', CX [] H s₁ (fun _ _ _ => False) e s' → False) :
    codeAny (model P w) callerA (.call (.ref fa) ⟨[.ref a], []⟩) (fun r s' => r = .ok (.ret (.bool true)) ∧ OldK s₁.heap s'.heap ∧ s'.os = s₁.os ∧ AllBare s'.gens) s₁ := by
  have rv := vals_ints hi
  have core := @head_core P w K mg mb CX k fa a fd x sp s₁ vs KX hns hb hbb hlim hg ha hr F hbind
  cases hk : K.lookup a with
  | some o =>
    have e := KX a o hk
    rw [ha] at e
    cases e
    have hO : Only fun _ => none := fun _ => .inl rfl
    refine core hO (hsp _ hO (.inr ⟨_, vs.toArray, _, hk, rfl, rfl, rfl, by rw [List.size_toArray, hi.length]; exact hl, by simpa using rv⟩)) (hCX _) (fun b u z => ?_) (fun b z => absurd rfl z) fun z => absurd rfl z
    exact absurd (show (none : Option HO) = some u from z) (by simp)
  | none =>
    let H : Hp := fun b => if b = a then some (.frz { cls := .type "list", data := .seq vs.toArray } (.lst (ns.map V.int))) else none
    have at_a : H a = some (.frz { cls := .type "list", data := .seq vs.toArray } (.lst (ns.map V.int))) := if_pos rfl
    have off : ∀ b, b ≠ a → H b = none := fun b h => if_neg h
    have hO : Only H := fun b => (Classical.em (b = a)).elim (fun h => .inr ⟨_, _, h ▸ at_a⟩) fun h => .inl (off b h)
    refine core hO (hsp _ hO (.inl (.inr ⟨_, at_a⟩))) (hCX _) (fun b u z => ?_) (fun b z => Classical.byContradiction fun h => z (off b h)) fun _ => hk
    by_cases h : b = a
    · subst h
      rw [at_a] at z
      cases z
      exact ⟨ha, by rw [List.length_map]; exact hl, vs, _, rv, ha⟩
    · rw [off b h] at z
      cases z
end
end V4
namespace V4
open PySem PySem.Spec PyProof.Rows
def cntR : List Str → Nat
  | [] => 0
  | x :: r => if r.any (· == x) = true then cntR r else cntR r + 1
def cntS (xs : List Str) : Nat := cntR xs.reverse
theorem cntS_snoc {xs : List Str} {x : Str} : cntS (xs ++ [x]) = if xs.any (· == x) = true then cntS xs else cntS xs + 1 := by
  unfold cntS
  rw [List.reverse_append]
  show (if xs.reverse.any (· == x) = true then cntR xs.reverse else cntR xs.reverse + 1) = _
  rw [List.any_reverse]
theorem cntR_le : ∀ xs : List Str, cntR xs ≤ xs.length
  | [] => Nat.le_refl _
  | x :: r => by
    have := cntR_le r
    unfold cntR
    split
    · rw [List.length_cons]; omega
    · rw [List.length_cons]; omega
theorem cntS_le (xs : List Str) : cntS xs ≤ xs.length := by have := cntR_le xs.reverse; rw [List.length_reverse] at this; exact this
section
variable {prog : Program} {w : World} {A : Around} {I : Addr} {fp wr : List Addr} {G : Array GenState → Array GenState → Prop} {n : Nat} {P : Nat → Value → Prop} {St : Nat → Shared → Prop}
/-- the set's content after i texts -/
def Half (prog : Program) (w : World) (h : Heap) (S : Addr) (xs : List Str) (i : Nat) : Prop := h.SetOf (PySem.strKind prog w) S (fun k' => (xs.take i).any (· == k')) (cntS (xs.take i))
theorem Half.step {h : Heap} {S : Addr} {xs : List Str} {i : Nat} (hi : i < xs.length)
    (q : h.SetOf (PySem.strKind prog w) S (fun k' => (fun k' => (xs.take i).any (· == k')) k' || decide (k' = xs.getD i Str.empty)) (if (xs.take i).any (· == xs.getD i Str.empty) then cntS (xs.take i) else cntS (xs.take i) + 1)) : Half prog w h S xs (i + 1) := by
  have e : xs.take (i + 1) = xs.take i ++ [xs.getD i Str.empty] := by
    rw [List.take_add_one, List.getElem?_eq_getElem hi, List.getD_eq_getElem?_getD, List.getElem?_eq_getElem hi]; rfl
  unfold Half
  rw [e]
  refine SetOf_congr q (fun k' => ?_) cntS_snoc.symm
  rw [List.any_append]
  show _ = (_ || ((xs.getD i Str.empty == k') || false))
  rw [Bool.or_false]
  congr 1
  by_cases c : k' = xs.getD i Str.empty
  · subst c; simp
  · rw [decide_eq_false c]
    exact (beq_eq_false_iff_ne.mpr fun z => c z.symm).symm
theorem fill (W : WalksS prog w A.in1 I fp wr G n P St) (S : Addr) (hSf : S ∉ fp) (xs : List Str) (hsz : xs.length = n) (hn : n + 1 < scanBound) (hval : ∀ i v, P i v → ∃ t, v = .str (xs.getD i Str.empty) t) {R : Result → Shared → Prop} :
    ∀ (k i : Nat) (s : Shared), n - i = k → i ≤ n → St i s → Half prog w s.heap S xs i → (∀ s', Moved (S :: wr) G s s' → Half prog w s'.heap S xs n → R (.ok (.ret .none)) s') →
      codeAny (model prog w) A (.builtin "set.update.loop" ⟨[.ref S, .ref I], []⟩) R s
  | 0, i, s, hk, hi, hst, hS, hR => by
    obtain rfl : i = n := by omega
    refine codeAny_builtin PyProof.Rows.F.entry_set_update_loop ?_
    rw [Around.under_plainId PyProof.Rows.F.plain_set_update_loop _]
    show wpAny _ A.in1 (pyNext (.ref I) >>= _) _ _ s
    refine wpAny_bind (W.done s _ _ hst fun s' hm => wpAny_pure (hR s' (hm.mono fun b hb => List.mem_cons_of_mem _ hb) ?_))
    obtain ⟨o, es, ep, t, ho, rest⟩ := hS
    exact ⟨o, es, ep, t, hm.heap S _ (fun z => hSf (W.sub _ z)) ho, rest⟩
  | k + 1, i, s, hk, hi, hst, hS, hR => by
    have hlt : i < n := by omega
    have hx : i < xs.length := by omega
    refine codeAny_builtin PyProof.Rows.F.entry_set_update_loop ?_
    rw [Around.under_plainId PyProof.Rows.F.plain_set_update_loop _]
    show wpAny _ A.in1 (pyNext (.ref I) >>= _) _ _ s
    refine wpAny_bind (W.item i s _ _ hlt hst fun v s' hP hst' hm => ?_)
    obtain ⟨t, rfl⟩ := hval i v hP
    have hS' : Half prog w s'.heap S xs i := by
      obtain ⟨o, es, ep, tb, ho, rest⟩ := hS
      exact ⟨o, es, ep, tb, hm.heap S _ (fun z => hSf (W.sub _ z)) ho, rest⟩
    have hc := cntS_le (xs.take i)
    rw [List.length_take] at hc
    show wpAny _ A.in1 (holding [Value.str (xs.getD i Str.empty) t] (setAdd S (.str (xs.getD i Str.empty) t)) >>= _) _ _ s'
    refine wpAny_bind (wpAny_holding ?_)
    unfold setAdd
    refine wpAny_holding (wpAny_bind ((PySem.strKind prog w).pyHash (k := xs.getD i Str.empty) (strKind_is _ _ _ _) ?_))
    refine wpAny_setAddHashed_of (knd := PySem.strKind prog w) (s := { s' with toks := s'.toks + 1 }) (strKind_is _ _ _ _) rfl hS' (by omega) fun h' hsb hS2 => ?_
    have off : ∀ b, b ≠ S → ∀ o, s'.heap.get? b = some o → h'.get? b = some o := fun b hb o e => (hsb.2 b hb).trans e
    refine wpAny_pure ⟨plainId_quiet PyProof.Rows.F.plain_set_update_loop _, fill W S hSf xs hsz hn hval k (i + 1) _ (by omega) hlt (W.frame _ s' _ _ hst' (Nat.le_succ _) fun b hb o e => off b (fun z => hSf (z ▸ hb)) o e) (Half.step hx hS2) fun s'' hm'' hS'' => ?_⟩
    exact hR s'' (Moved.trans W.gtrans ((hm.mono fun b hb => List.mem_cons_of_mem _ hb).then_heap (Nat.le_succ _) fun b o hb e => off b (fun z => hb (z ▸ List.mem_cons_self)) o e) hm'') hS''
end
section
variable {prog : Program} {w : World} {A : Around} {E : Value → Shared → Prop} {s : Shared}
abbrev sob (led : Bool) : Obj := { cls := .type "set", dict := none, data := .set #[] 0 (.fresh 0 0 led) }
/-- set(xs) -/
theorem call_setT {l : Addr} {items : Array Value} {xs : List Str} {Q : Value → Shared → Prop} (hh : A.handled = none) (hl : s.heap.IsList l items) (hi : PyProof.Rows.StrsAre items.toList xs) (hn : xs.length + 1 < scanBound)
    (h : ∀ (h' : Heap) (tk : Nat), Half prog w h' s.heap.objs.size xs xs.length → (∀ b o, b < s.heap.objs.size → s.heap.get? b = some o → h'.get? b = some o) → Q (.ref s.heap.objs.size) { s with heap := h', toks := tk }) :
    wpAny (model prog w) A (call (.type "set") [.ref l]) Q E s := by
  have hsz : xs.length = items.size := by rw [← StrsAre.len_eq hi, Array.length_toList]
  obtain ⟨c, tl, hmro⟩ := PySem.F.called_set.mro
  have hmade := PySem.F.called_set.made
  have hsub := PySem.F.called_set.sub
  refine wpAny_call (codeAny_of_tree ?_)
  show wpAny _ _ (callAny (.type "set") _) _ _ _
  refine wpAny_pure ⟨Code.quiet_builtin _ (by decide +kernel), codeAny_builtin PySem.F.entry_type_call ?_⟩
  rw [Around.under_plain (weight_type_call_type "set" [.ref l] []) rfl]
  have h1 := PySem.F.called_set.notType
  have h2 := PySem.F.called_set.canCreate
  have hct := PySem.F.typeCall_set_1 (.ref l)
  repeat (any_goals (first | assumption | wp_step))
  refine codeAny_mono (code_set_new_1 (.ref l) (E := E) (Q₁ := fun obj s₁ => ∃ led : Bool, obj = .ref s.heap.objs.size ∧ s₁ = { s with heap := s.heap.push { cls := .type "set", dict := none, data := .set #[] 0 (.fresh 0 0 led) } }) fun led => ⟨led, rfl, rfl⟩) fun r s₁ hr => ?_
  cases r with
  | error e => exact hr
  | ok fl =>
    cases fl with
    | ret obj =>
      obtain ⟨led, rfl, rfl⟩ := hr
      have hS : (s.heap.push (sob led)).get? s.heap.objs.size = some (sob led) := Heap.get?_push_size _ rfl
      have hT : Shared.TypeIs { s with heap := s.heap.push (sob led) } (.ref s.heap.objs.size) "set" := ⟨_, hS, rfl⟩
      have hli := PySem.F.called_set.init.lookup
      have hbi := PySem.F.called_set.init.bind (.ref s.heap.objs.size)
      repeat (any_goals (first | assumption | wp_step))
      refine codeAny_mono (codeAny_call_builtin (R := wants (fun r s₂ => r = .none ∧ ∃ h' tk, s₂ = { s with heap := h', toks := tk } ∧ Half prog w h' s.heap.objs.size xs xs.length ∧ (∀ b o, b < s.heap.objs.size → s.heap.get? b = some o → h'.get? b = some o)) E)
        PySem.F.called_set.init.plain PySem.F.entry_set_init (check_set_init_1 hT ?_)) fun r₂ s₂ hr₂ => ?_
      · obtain ⟨ol, hol, hcl, nl, hdl⟩ := hl
        obtain ⟨ocls, odict, odata, oslots⟩ := ol
        simp only at hcl hdl
        subst hcl; subst hdl
        have hol' : (s.heap.push (sob led)).get? l = some { cls := .type "list", dict := odict, data := .seq items nl, slots := oslots } := Heap.get?_push_of_some _ hol
        have hsls := PySem.F.sub_list_set
        have hslf := PySem.F.sub_list_frozenset
        have hne : (Value.type "list" == Value.type "dict") = false := by decide
        have hl1 : (s.heap.push (sob led)).IsList l items := ⟨_, hol', rfl, nl, rfl⟩
        unfold Builtin.«set.__init__» noKeywords Builtin.Frozenset.updateFrom
        generalize hPI : pyIter = PI
        wp_walk
        subst hPI
        refine wpAny_pyIter_list hl1 ?_
        refine wpAny_bind (wpAny_runValue ?_)
        have hlS : l < s.heap.objs.size := Heap.lt_size hol
        have hh3 : A.in1.in1.in1.handled = none := by simp [hh]
        have hsz2 : (s.heap.push (sob led)).objs.size = s.heap.objs.size + 1 := Heap.size_push ..
        refine fill ((Walks.list hh3 _ l (by rw [hsz2]; exact Nat.ne_of_lt (Nat.lt_succ_of_lt hlS)) items).toS) s.heap.objs.size (by rw [hsz2]; simp only [List.mem_cons, List.not_mem_nil, or_false, not_or]; exact ⟨Nat.ne_of_lt (Nat.lt_succ_self _), Nat.ne_of_gt hlS⟩) xs hsz (by rw [← hsz]; exact hn)
          (fun i v hv => SS.strs_at hi i v (by rw [Array.getElem?_toList]; exact hv)) (items.size - 0) 0 _ (by omega) (Nat.zero_le _) ⟨⟨_, Heap.get?_push_size _ rfl, rfl, rfl⟩, (hl1.push _)⟩ ?h0 ?hR
        case h0 =>
          refine SetOf_congr ((PyProof.Rows.setObjOf_fresh (knd := PySem.strKind prog w) led).setOf (Heap.get?_push_of_some _ hS) (by unfold scanBound; omega)) (fun _ => rfl) rfl
        case hR =>
          intro s' hm hS'
          obtain ⟨h', g', d', tk', os'⟩ := s'
          obtain rfl : g' = s.gens := hm.gens
          obtain rfl : d' = s.drawn := hm.drawn
          obtain rfl : os' = s.os := hm.os
          show wpAny _ _ _ _ _ _
          refine wpAny_pure ?_
          show wpAny _ _ (ret Value.none) _ _ _
          refine wpAny_pure ⟨rfl, h', tk', rfl, by rw [hsz]; exact hS', fun b o hb e => ?_⟩
          exact hm.heap b o (by rw [hsz2]; simp only [List.mem_cons, List.not_mem_nil, or_false, not_or]; exact ⟨Nat.ne_of_lt hb, Nat.ne_of_lt (Nat.lt_succ_of_lt hb)⟩) (Heap.get?_push_of_some _ (Heap.get?_push_of_some _ e))
      · cases r₂ with
        | error e => exact hr₂
        | ok fl₂ =>
          cases fl₂ with
          | ret r =>
            obtain ⟨rfl, h', tk, rfl, hS', hk'⟩ := hr₂
            repeat (any_goals (first | assumption | wp_step))
            exact h _ _ hS' hk'
          | _ => exact hr₂.elim
    | _ => exact hr.elim
end
section
open L2 L3 RZ
theorem strs_vals : ∀ {ys : List Str} {us : List Value}, Vals (ys.map V.str) us → PyProof.Rows.StrsAre us ys
  | [], _, .nil => .nil
  | y :: ys, _, .cons r t => by
    obtain ⟨k, rfl⟩ := r
    exact .cons y k (strs_vals t)
def tLenSetT (K : PySem.W.Frag) (ta : TE) : TE := fun σ H Q => ta σ H fun x H1 => ∃ (l : Addr) (ys : List Str), x = .ref l ∧ SqL K H1 l (ys.map V.str) ∧ ys.length ≤ 4000 ∧ Q (.int (cntS ys : Nat)) H1
theorem pe_lenSetT {X : Cx} {a : Expr} {ta : TE} {p p2 q pos : Pos} (hg : Gl X "len") (hm : X.mg "len" = none) (hg2 : Gl X "set") (hm2 : X.mg "set" = none) (ha : PE X a ta) (hc : X.calm = true := by rfl)
    (na : starEach [a] X.env = (false, eval a X.env) :: starEach [] X.env := by rfl) : PE X (.Call (.Name "len" p) [.Call (.Name "set" p2) [a] [] q] [] pos) (tLenSetT X.K ta) := by
  refine ⟨fun pins s σ H Q I h => ?_⟩
  refine Call_ (ld_blt I hg hm boot_len ?_)
  refine PyProof.Rows.callWith_builtin1 (PyProof.Rows.args_cons ?_ rfl) rfl rfl
  refine Call_ (ld_blt I hg2 hm2 boot_set ?_)
  refine PyProof.Rows.callWith_type1 (PyProof.Rows.args_cons (thn (ha.run pins s σ H _ I h) fun v s1 ⟨x, H1, I1, r1, q1⟩ => PyProof.Rows.args_nil ?_) na) na rfl
  obtain ⟨l, ys, rfl, hq, hl, q1⟩ := q1
  cases r1
  obtain ⟨its, r, pl, hz⟩ := I1.list hq
  refine call_setT (I1.ok.hd hc) pl.isList (strs_vals (by simpa using r)) (by unfold scanBound; omega) fun h' tk hS hk => ?_
  refine PyProof.Rows.args_nil ?_
  unfold Half at hS
  rw [List.take_length] at hS
  obtain ⟨o, es, ep, t, ho, hex, hd, _, _, _, hf, hn⟩ := hS
  have hc := cntS_le ys
  have I2 : Inv X pins σ H1 { s1 with heap := h', toks := tk } := I1.kept fun b o e => hk b o (Heap.lt_size e) e
  exact call_len_set ho hex hd hf (by rw [hn]; omega) ⟨.int (cntS ys : Nat), H1, I2.tok _, ⟨_, by rw [hn]⟩, q1⟩
def uLenSet : U → Option U
  | .list ds => (strsU ds).bind fun ys => if ys.length ≤ 4000 then some (.int (cntS ys : Nat)) else none
  | _ => none
theorem strs_dq {K : PySem.W.Frag} {H : Hp} : ∀ {ds : List U} {vs : List V} {ys : List Str}, DqAll K H vs ds → strsU ds = some ys → vs = ys.map V.str
  | [], _, ys, h, e => by cases h; cases e; rfl
  | d :: ds, _, ys, h, e => by
    cases h with
    | cons h1 h2 =>
      cases d with
      | str z =>
        obtain ⟨zs, e1, rfl⟩ := Option.map_eq_some_iff.mp (show (strsU ds).map (z :: ·) = some ys from e)
        cases h1
        rw [strs_dq h2 e1]; rfl
      | _ => cases e
variable {C : Ct} {Γ Γ1 : List Mk} {a : Expr} {ma : Mo U} {md : List Nat} {ra : Rk} {p p2 q pos : Pos}
theorem lenset_ (hm : C.X.mg "len" = none) (hm2 : C.X.mg "set" = none) (ha : EJ C Γ a ma md ra Γ1) (hc : C.X.calm = true := by rfl) (hg : Gl C.X "len" := by rfl) (hg2 : Gl C.X "set" := by rfl) (na : starEach [a] C.X.env = (false, eval a C.X.env) :: starEach [] C.X.env := by rfl) :
    EJ C Γ (.Call (.Name "len" p) [.Call (.Name "set" p2) [a] [] q] [] pos) (op1M uLenSet ma) md (.val .f) Γ1 :=
  oneA_ (rr := fun x H1 Q => ∃ (l : Addr) (ys : List Str), x = .ref l ∧ SqL C.X.K H1 l (ys.map V.str) ∧ ys.length ≤ 4000 ∧ Q (.int (cntS ys : Nat)) H1) (fun σ H Q h => SE.of (pe_lenSetT hg hm hg2 hm2 pe_se hc na) h)
    (pr1 fun u d e G H v Q ex b q => by
      unfold uLenSet at e
      split at e
      · obtain ⟨ys, e1, e2⟩ := Option.bind_eq_some_iff.mp e
        split at e2
        · rename_i hl
          cases e2
          obtain ⟨l, vs, rfl, h3, h2⟩ := bow_ls ex b
          obtain rfl := strs_dq h2 e1
          exact ⟨l, ys, rfl, h3, hl, q _ G H (Grow.refl ex) (.int _)⟩
        · cases e2
      · cases e)
    (fun x d h => by
      unfold uLenSet at h
      split at h
      · obtain ⟨ys, e1, e2⟩ := Option.bind_eq_some_iff.mp h
        split at e2
        · cases e2; rfl
        · cases e2
      · cases h) ha
end
end V4
namespace V4
open PySem PySem.Spec PyProof.Rows L2 L3 RZ
section
variable {C : Ct} {R : Rt} {B : Bs} {Γ Γ1 Γ2 Γ3 Γ' : List Mk} {a b e : Expr} {es : List Expr} {pos p p2 apos : Pos} {ma mb : Mo U} {ms : Mo (List U)} {md md2 : List Nat} {i : Nat} {x nm : Str} {ra rb : Rk} {k : Mk} {rs : List Rk} {t : TA}
/-- x.m(e, ..): what slot i holds is changed, whatever the arguments did to it -/
def mutvM (i : Nat) (ms : Mo (List U)) (g : U → List U → Option (U × U)) : Mo U := .bind ms fun us => atM i [] fun u => g u us
theorem mutv_ {rr : V → List V → Hp → VK → Prop} {g : U → List U → Option (U × U)} (i : Nat) (k : Mk) (rule : ∀ σ H (Q : VK), SE C.X (.Name x p) σ H (fun xv H1 => tyV C.X.K (shT k) xv H1 ∧ t σ H1 fun vs H2 => rr xv vs H2 Q) → SE C.X e σ H Q) (mr : MutR C.X.K rr g)
    (hg : ∀ u us u' d, g u us = some (u', d) → topK k u = true → topK k u' = true) (ha : GJ C Γ t ms md rs Γ1) (hi : Γ[i]? = some k := by rfl) (hi1 : Γ1[i]? = some k := by rfl) (hk : (shT k == "") = false := by rfl)
    (hr : rs.all (fun r => match r with | .val .f => true | _ => false) = true := by rfl) (hN : C.X.N[i]? = some x := by rfl) (hv : Vis C.X.env.scope x := by first | exact Or.inl rfl | exact Or.inr (Or.inl rfl) | exact Or.inr (Or.inr rfl)) (hd : (x == ("__debug__" : Str)) = false := by decide) (hcd : (x == ("__classdict__" : Str)) = false := by decide) :
    EJ C Γ e (mutvM i ms g) (md ++ [i]) (.val .f) Γ1 :=
  ⟨ha.1.mono fun i hi => List.mem_append_left _ hi, fun B A G H σ s hB at_ Q q => by
  have hk : shT k ≠ "" := by simpa using hk
  have hkn : k ≠ .n := fun z => by subst z; exact hk rfl
  obtain ⟨v0, u0, e1, e2, o0⟩ := at_.slot i k hi hkn
  obtain ⟨l, o, rfl, hl, ht, hF, hty, hu⟩ := shal_top o0 hk
  refine rule σ H Q (SE.of (pe_var hN hv hd hcd) ⟨_, e1, hty, ha.2 B A G H σ s hB at_ _ (wp_mono (wp_bind.mp q) (fun us s2 q2 vs A2 G2 H2 T a2 st2 p2 => ?_) xw_l)⟩)
  obtain ⟨v2, u2, f1, f2, o2⟩ := a2.slot i k hi1 hkn
  rw [e1] at f1
  cases f1
  obtain ⟨l2, ob2, el, hl2, ht2, hF2, _, hu2⟩ := shal_top o2 hk
  cases el
  obtain ⟨u', d, eg, q3⟩ := atM_of q2 f2 rfl
  have hd := p2.dqs fun r hr' => by
    have := List.all_eq_true.mp hr r hr'
    match r, this with
    | .val .f, _ => rfl
  refine mr u2 us u' d eg G2 H2 l ob2 vs Q a2.sub hl2 ht2 hd fun o' v ht' hv => ?_
  have o3 : Own C.X.K C.FM G2 (upd H2 l o') k (.ref l) u' fun a => a = l := own_top upd_same ht' (hg _ _ _ _ eg hu2)
  have kH : ∀ b ob, H2 b = some ob → ¬ A2 i b → upd H2 l o' b = some ob := fun b ob e nz => by
    rw [upd_ne fun w => nz (by rw [w]; exact (hF2 l).mpr rfl)]; exact e
  have hA2 : ∀ b, b = l → A2 i b := fun b z => by rw [z]; exact (hF2 l).mpr rfl
  refine q3 u' rfl v _ G2 _ (a2.mut hi1 e1 o3 kH fun b z => .inl (hA2 b z)) ?_ (.frozen hv)
  exact StpT.after st2 (F := fun _ => False) (Tmp.none fun _ z => z) (mut_stpT kH fun b z => .inl (hA2 b z))⟩
theorem bow_dc {K : PySem.W.Frag} {G H : Hp} {v : V} {ds : List (Key × U)} (e : Ex G H) (h : (bowB K (.dict ds)).b G H v) : ∃ a vs, v = V.ref a ∧ Rd H a (.dK vs) ∧ DqKvs K G vs ds := by
  rcases h with h | ⟨l, o, rfl, h2, h3⟩
  · cases h with
    | dct hs ha => exact ⟨_, _, rfl, hs.imp (fun z => e _ _ z) (fun z => z.elim fun o z => ⟨o, e _ _ z⟩), ha⟩
  · cases o <;> first | exact h3.elim | exact ⟨l, _, rfl, .inl h2, h3⟩
theorem kv_val {K : PySem.W.Frag} {G : Hp} {k : Key} : ∀ {kvs : List (Key × V)} {us : List (Key × U)}, DqKvs K G kvs us → (∀ u, valU us k = some u → ∃ v, valV kvs k = some v ∧ Dq K G v u) ∧ (valU us k = none → valV kvs k = none)
  | _, [], h => by cases h; exact ⟨fun u z => (by cases z), fun _ => rfl⟩
  | _, (k', u') :: us, h => by
    cases h with
    | @cons _ v' _ vs _ h1 h2 =>
      have ih := kv_val (k := k) h2
      by_cases hk : k' = k
      · have e1 : valU ((k', u') :: us) k = some u' := by simp [valU, List.find?_cons, hk]
        rw [e1, valV_pos (p := (k', v')) hk]
        exact ⟨fun u z => (by cases z; exact ⟨_, rfl, h1⟩), fun z => (by cases z)⟩
      · have e1 : valU ((k', u') :: us) k = valU us k := by simp [valU, List.find?_cons, hk]
        rw [e1, valV_neg (p := (k', v')) hk]
        exact ih
theorem bow_key {K : PySem.W.Frag} {G H : Hp} {v : V} {u : U} {k : Key} (ex : Ex G H) (b : (bowB K u).b G H v) (e : keyU u = some k) : v = kV k := keyU_v e (bow_dq ex b)
/-- k in d -/
def uDIn (k u : U) : Option U := match u with
  | .dict kvs => (keyU k).map fun kk => .bool (valU kvs kk).isSome
  | _ => none
def uDNotIn (k u : U) : Option U := match u with
  | .dict kvs => (keyU k).map fun kk => .bool (!(valU kvs kk).isSome)
  | _ => none
def rDIn (f : Bool → Bool) : R2 := fun y x H Q => ∃ a o, x = .ref a ∧ DGet H a y o ∧ Q (.bl (f o.isSome)) H
theorem kv_some {K : PySem.W.Frag} {G : Hp} {kvs : List (Key × V)} {us : List (Key × U)} {k : Key} (h : DqKvs K G kvs us) : (valV kvs k).isSome = (valU us k).isSome := by
  cases e : valU us k with
  | none => rw [(kv_val h).2 e]; rfl
  | some u => obtain ⟨v, hv, _⟩ := (kv_val h).1 u e; rw [hv]; rfl
theorem pr_dnotin {K : PySem.W.Frag} : Pr K (dU K) (r2l (rDIn fun b => !b)) (a2 uDNotIn) := pr2 fun z u d e G H x v Q ex b2 b q => by
  unfold uDNotIn at e
  split at e
  · rename_i kvs
    obtain ⟨kk, e1, rfl⟩ := Option.map_eq_some_iff.mp e
    obtain ⟨a, vs, rfl, h3, h2⟩ := bow_dc ex b
    exact ⟨a, valV vs kk, rfl, .inl ⟨vs, kk, h3, bow_key ex b2 e1, rfl⟩, q _ G H (Grow.refl ex) (by rw [kv_some h2]; exact .bl _)⟩
  · cases e
theorem pl_dnotin : ∀ x y d, uDNotIn x y = some d → plainU d = true := fun x y d h => by
  unfold uDNotIn at h
  split at h
  · obtain ⟨_, _, rfl⟩ := Option.map_eq_some_iff.mp h; rfl
  · cases h
/-- a test by two operands -/
theorem twoT_ {rr : R2} {f : U → U → Option U} (hop : PT C.X e (tB (tOp rr (SE C.X a) (SE C.X b)))) (pr : Pr C.X.K (dU C.X.K) (r2l rr) (a2 f)) (hpl : ∀ x y d, f x y = some d → plainU d = true) (ha : EJ C Γ a ma md ra Γ1) (hb : EJ C Γ1 b mb md2 rb Γ2) (ho : ra.off md2 = true := by rfl) :
    TJ C Γ e (asBM (op2M f ma mb)) (md ++ md2) Γ2 :=
  ⟨ha.1.trans hb.1, fun B A G H σ s hB at_ Q q => ST.of hop (show SE C.X a σ H (fun x H1 => SE C.X b σ H1 fun y H2 => rr x y H2 fun z H3 => ∃ c, z = .bl c ∧ Q c H3) from
    ha.2 B A G H σ s hB at_ _ (wp_mono (wp_bind.mp (wp_bind.mp q)) (fun x s1 q1 v1 A1 G1 H1 at1 st1 r1 => hb.2 B A1 G1 H1 σ s1 hB at1 _ (wp_mono (wp_bind.mp q1) (fun y s2 q2 v2 A2 G2 H2 at2 st2 r2 => by
    obtain ⟨d, ed, q3⟩ := wp_ofOpt q2
    refine pr [x, y] d ed H2 H2 H2 [v1, v2] _ (Ex.refl _) ⟨.inl ((r1.later at1 st2 ho).dq at2.sub), .inl (r2.dq at2.sub), trivial⟩ fun v G' H' g r => ?_
    have g' : Grow G2 H2 G2 H' := ⟨⟨Ex.refl _, fun b o e hn => ⟨(g.1.2 b o e hn).1, rfl⟩⟩, at2.sub.trans g.exH, fun _ _ e n => by rw [n] at e; cases e⟩
    cases d with
    | bool k => cases r; exact ⟨k, rfl, q3 A2 G2 H' (at2.grow g') ((st1.trans st2).gr g')⟩
    | _ => exact q3.elim) (xw_r st1))) xw_l))⟩
theorem tdnotin_ (hu : C.X.A.units + 1 < cLine) (ha : EJ C Γ a ma md ra Γ1) (hb : EJ C Γ1 b mb md2 rb Γ2) (ho : ra.off md2 = true := by rfl) (hm : behindInMarks .NotIn b = false := by first | exact nobehind _ (by decide) (by decide) | exact nomark _ | rfl) : TJ C Γ (.Compare a [.NotIn] [b] pos) (asBM (op2M uDNotIn ma mb)) (md ++ md2) Γ2 :=
  twoT_ (rr := rDIn fun b => !b) (pt_cmp (pc_dnotin hu pe_se pe_se) hm) pr_dnotin pl_dnotin ha hb ho
end
end V4
namespace V4
open PySem PySem.Spec PyProof.Rows L2 L3 RZ
section
variable {C : Ct} {Γ Γ1 Γ2 Γ3 : List Mk} {a b e : Expr} {pos : Pos} {ma mb : Mo U} {ms : Mo (List (Key × U))} {md md2 md3 : List Nat} {ks : List (Option Expr)} {vs : List Expr}
def prnM : Mo (List (Key × U)) := .pure []
def prcM (a b : Mo U) (c : Mo (List (Key × U))) : Mo (List (Key × U)) := .bind a fun u => .bind b fun v => .bind (.ofOpt (keyU u)) fun k => .bind c fun r => .pure ((k, v) :: r)
def dctM (c : Mo (List (Key × U))) : Mo U := .bind c fun us => .pure (.dict (mergeU [] us))
end
end V4
namespace V4
open PySem PySem.Spec PyProof.Rows L2 L3 RZ
theorem hr1 {k : Nat} {A : Around} (r : RoomG k A) : A.units + 1 < cLine := by have := r.un; omega
end V4
namespace V4
open PySem PySem.Spec PyProof.Rows L2 L3 RZ
def leS (a b : Str) : Bool := !ltCps b.cps.toList a.cps.toList
theorem leS_iff {a b : Str} : leS a b = true ↔ a.cps.toList ≤ b.cps.toList := by
  unfold leS
  rw [ltCps_eq, Bool.not_eq_true', decide_eq_false_iff_not]
  exact List.not_lt
theorem leS_trans (a b c : Str) (h : leS a b = true) (k : leS b c = true) : leS a c = true := leS_iff.mpr (List.le_trans (leS_iff.mp h) (leS_iff.mp k))
theorem leS_total (a b : Str) : (leS a b || leS b a) = true := by
  rw [Bool.or_eq_true]
  exact (List.le_total a.cps.toList b.cps.toList).imp leS_iff.mpr leS_iff.mpr
theorem leS_anti {a b : Str} (h : leS a b = true) (k : leS b a = true) : a = b := by
  have e := List.le_antisymm (leS_iff.mp h) (leS_iff.mp k)
  cases a; cases b
  simp at e
  rw [Str.mk.injEq]
  exact e
def sortS (ks : List Str) : List Str := ks.mergeSort leS
theorem sortS_perm (ks : List Str) : (sortS ks).Perm ks := List.mergeSort_perm ks leS
theorem sortS_pw (ks : List Str) : (sortS ks).Pairwise fun a b => leS a b = true := List.pairwise_mergeSort leS_trans leS_total ks
theorem sortS_uniq {ys ks : List Str} (h : ys.Perm ks) (k : ys.Pairwise fun a b => leS a b = true) : ys = sortS ks :=
  List.Perm.eq_of_pairwise (le := fun a b => leS a b = true) (fun a b _ _ h1 h2 => leS_anti h1 h2) k (sortS_pw ks) (h.trans (sortS_perm ks).symm)
theorem dq_strs {K : PySem.W.Frag} {G : Hp} : ∀ {ks : List Str}, (∀ y ∈ ks, PyData.strOk y = true) → DqAll K G (ks.map V.str) (ks.map U.str)
  | [], _ => .nil
  | k :: ks, h => .cons (.str k (h k List.mem_cons_self)) (dq_strs fun y hy => h y (List.mem_cons_of_mem _ hy))
def uAddI : U → U → Option U
  | .int i, .int j => some (.int (i + j))
  | _, _ => none
def uSubI : U → U → Option U
  | .int i, .int j => some (.int (i - j))
  | _, _ => none
section
variable {C : Ct} {Γ Γ1 : List Mk} {a e : Expr} {pos apos : Pos} {ma : Mo U} {md : List Nat}
theorem sm0_ {r : V → List V → Hp → VK → Prop} {f : U → Option U} (pe : PE C.X e (tM0 r (SE C.X a))) (hf : ∀ u d, f u = some d → isStrU u = true) (pr : Pr C.X.K (dU C.X.K) (r1l fun x H Q => r x [] H Q) (a1 f)) (ha : EJ C Γ a ma md (.val .f) Γ1) : EJ C Γ e (op1M f ma) md (.val .f) Γ1 :=
  ⟨ha.1, fun B A G H σ s hB at_ Q q => SE.of pe (ha.2 B A G H σ s hB at_ _ (wp_mono (wp_bind.mp q) (fun x s1 q1 v1 A1 G1 H1 at1 st1 r1 => by
    obtain ⟨d, ed, q3⟩ := wp_ofOpt q1
    cases x with
    | str z =>
      have rf := r1.frz
      have e1 : v1 = .str z := by cases rf; rfl
      subst e1
      exact ⟨⟨z, rfl⟩, pr [.str z] d ed H1 G1 H1 [.str z] Q at1.sub ⟨.inl rf, trivial⟩ fun v G' H' g r => q3 v A1 G' H' (at1.grow g) (st1.gr g) (.frozen r)⟩
    | _ => exact absurd (hf _ _ ed) (by intro h; cases h)) fun _ _ h => h))⟩
end
end V4
namespace L3
open PySem PySem.Spec PyProof.Rows L2
section
variable {S β γ δ T ρ α : Type}
def Ok (o : Out S β) (P : β → S → Prop) : Prop := o.wp P fun _ _ => False
theorem ok_mono {o : Out S β} {P P' : β → S → Prop} (h : Ok o P) (k : ∀ b s, P b s → P' b s) : Ok o P' := wp_mono h k fun _ _ z => z
@[simp] theorem ok_bind {m : StM S β} {f : β → StM S γ} {s : S} {P : γ → S → Prop} : Ok (StM.bind m f s) P ↔ Ok (m s) fun b s' => Ok (f b s') P := wp_bind
@[simp] theorem ok_pure {b : β} {s : S} {P : β → S → Prop} : Ok (StM.pure b s) P ↔ P b s := Iff.rfl
@[simp] theorem ok_some {b : β} {s : S} {P : β → S → Prop} : Ok ((StM.ofOpt (some b) : StM S β) s) P ↔ P b s := Iff.rfl
@[simp] theorem ok_opt {o : Option β} {s : S} {P : β → S → Prop} : Ok ((StM.ofOpt o : StM S β) s) P ↔ ∃ b, o = some b ∧ P b s := by
  cases o with
  | none => exact ⟨fun h => h.elim, fun ⟨_, h, _⟩ => nomatch h⟩
  | some b => exact ⟨fun h => ⟨b, rfl, h⟩, fun ⟨_, h, k⟩ => by cases h; exact k⟩
@[simp] theorem ok_fail {s : S} {P : β → S → Prop} : Ok ((StM.fail : StM S β) s) P ↔ False := Iff.rfl
@[simp] theorem ok_ite {c : Prop} [Decidable c] {x y : StM S β} {s : S} {P : β → S → Prop} : Ok ((if c then x else y) s) P ↔ if c then Ok (x s) P else Ok (y s) P := by
  split <;> exact Iff.rfl
@[simp] theorem ok_asB {b : Bool} {s : S} {P : Bool → S → Prop} : Ok (asB (U.bool b) s) P ↔ P b s := Iff.rfl
@[simp] theorem ok_asI {b : Int} {s : S} {P : Int → S → Prop} : Ok (asI (U.int b) s) P ↔ P b s := Iff.rfl
theorem ok_eq {o : Out S β} {b : β} {s : S} (h : Ok o fun b' s' => b' = b ∧ s' = s) : o = .ok b s := by
  cases o with
  | ok b' s' => obtain ⟨rfl, rfl⟩ := h; rfl
  | exc e s' => exact h.elim
  | stuck => exact h.elim
end
section
variable {S : Type}
@[simp] theorem blsU_map (bs : List Bool) : blsU (bs.map U.bool) = some bs := by
  induction bs with
  | nil => rfl
  | cons b bs ih => simp [blsU, ih]
@[simp] theorem strsU_map (bs : List Str) : strsU (bs.map U.str) = some bs := by
  induction bs with
  | nil => rfl
  | cons b bs ih => simp [strsU, ih]
@[simp] theorem intsU_map (bs : List Int) : intsU (bs.map U.int) = some bs := by
  induction bs with
  | nil => rfl
  | cons b bs ih => simp [intsU, ih]
def RowU (s : U) : Prop := ∃ a b : Int, s = .list [.int a, .int b]
end
@[simp] theorem uMul_s {i j : Int} (h : j.natAbs < 2 ^ 64) : uMul (.int i) (.int j) = some (.int (i * j)) := by
  simp only [uMul, h, or_true, if_true]
@[simp] theorem uMod_p {i j : Int} (h : 0 < j) : uMod (.int i) (.int j) = some (.int (i % j)) := by
  simp only [uMod, h, if_true]
theorem uFdiv_p {i j : Int} (h : 0 < j) (h2 : j.natAbs.log2 < 9000) : uFdiv (.int i) (.int j) = some (.int (i / j)) := by
  simp only [uFdiv, h, h2, and_self, if_true]
theorem uDivmod_p {i j : Int} (h : 0 < j) (h2 : j.natAbs.log2 < 9000) : uDivmod (.int i) (.int j) = some (.tuple [.int (i / j), .int (i % j)]) := by
  have := PyProof.noPylong_of_log2 (x := i) h2
  simp only [uDivmod, h, this, and_self, if_true]
@[simp] theorem uPow_s {i j : Int} (h : 0 ≤ j) (h2 : j ≤ 1000000) (h3 : i.natAbs < 2 ^ 64) : uPow (.int i) (.int j) = some (.int (i ^ j.toNat)) := by
  simp only [uPow, h, h2, h3, and_self, if_true]
@[simp] theorem uMul_l {i j : Int} (h : i.natAbs < 2 ^ 64) : uMul (.int i) (.int j) = some (.int (i * j)) := by
  simp only [uMul, h, true_or, if_true]
theorem idx_at {us : List U} {i : Int} {n : Nat} {u : U} (e : i = (n : Int)) (h : us[n]? = some u) : uIdx (.list us) (.int i) = some u := by
  subst e
  have hl := (List.getElem?_eq_some_iff.mp h).1
  simp only [uIdx, atI, ixN]
  rw [if_pos (by omega), if_pos (by omega)]
  simpa using h
@[simp] theorem shp_int {i : Int} : shp (.int i) = true := by simp [shp, noDct, U.py, PyData.depth]
@[simp] theorem eqD_int {i j : Int} : eqD (.int i) (.int j) = decide (i = j) := by simp [eqD, U.py, PyData.eqv, Bool.beq_eq_decide_eq]
@[simp] theorem uEq_int {i j : Int} : uEq (.int i) (.int j) = some (.bool (decide (i = j))) := by simp [uEq, shp_int, eqD_int]
@[simp] theorem idx_row0 {a b : Int} : uIdx (.list [.int a, .int b]) (.int 0) = some (.int a) := rfl
@[simp] theorem idx_row1 {a b : Int} : uIdx (.list [.int a, .int b]) (.int 1) = some (.int b) := rfl
@[simp] theorem uLen_list {ds : List U} : uLen (.list ds) = some (.int ds.length) := rfl
@[simp] theorem uLen_tuple {ds : List U} : uLen (.tuple ds) = some (.int ds.length) := rfl
@[simp] theorem uLt_int {i j : Int} : uLt (.int i) (.int j) = some (.bool (decide (i < j))) := rfl
@[simp] theorem uLe_int {i j : Int} : uLe (.int i) (.int j) = some (.bool (decide (i ≤ j))) := rfl
@[simp] theorem uGt_int {i j : Int} : uGt (.int i) (.int j) = some (.bool (decide (j < i))) := rfl
@[simp] theorem uGe_int {i j : Int} : uGe (.int i) (.int j) = some (.bool (decide (j ≤ i))) := rfl
@[simp] theorem uAdd_int {i j : Int} : uAdd (.int i) (.int j) = some (.int (i + j)) := rfl
@[simp] theorem uSub_int {i j : Int} : uSub (.int i) (.int j) = some (.int (i - j)) := rfl
@[simp] theorem uNeg_int {i : Int} : uNeg (.int i) = some (.int (-i)) := rfl
@[simp] theorem uMin2_int {i j : Int} : uMin2 (.int i) (.int j) = some (.int (if j < i then j else i)) := rfl
@[simp] theorem uMax2_int {i j : Int} : uMax2 (.int i) (.int j) = some (.int (if j > i then j else i)) := rfl
@[simp] theorem isStrU_str {z : Str} : isStrU (.str z) = true := rfl
theorem log2_small {j : Int} (h : j.natAbs < 2 ^ 64) : j.natAbs.log2 < 9000 := by
  have : j.natAbs.log2 < 64 := PySem.Flt.log2_lt_of (by decide) h
  omega
@[simp] theorem uFdiv_s {i j : Int} (h : 0 < j) (h2 : j.natAbs < 2 ^ 64) : uFdiv (.int i) (.int j) = some (.int (i / j)) := uFdiv_p h (log2_small h2)
@[simp] theorem uDivmod_s {i j : Int} (h : 0 < j) (h2 : j.natAbs < 2 ^ 64) : uDivmod (.int i) (.int j) = some (.tuple [.int (i / j), .int (i % j)]) := uDivmod_p h (log2_small h2)
@[simp] theorem blsU_mapf {α : Type} (b : α → Bool) (xs : List α) : blsU (xs.map fun x => U.bool (b x)) = some (xs.map b) := by
  induction xs with
  | nil => rfl
  | cons x xs ih => simp [blsU, ih]
@[simp] theorem uAll_list {ds : List U} : uAll (.list ds) = (blsU ds).map fun bs => .bool (bs.all id) := rfl
@[simp] theorem uAny_list {ds : List U} : uAny (.list ds) = (blsU ds).map fun bs => .bool (bs.any id) := rfl
theorem uLen_str {z : Str} (h : z.length ≤ 1000000) : uLen (.str z) = some (.int z.length) := by
  have : sizeLine = 16777216 := sizeLine_eq
  unfold uLen
  simp only
  rw [if_pos (by omega)]
@[simp] theorem isi_NoneType_str  : uIsi "str" (.none) = some (.bool false) := by
  have e : kitB "NoneType" "str" = some false := by decide +kernel
  rw [uIsi, if_neg (by simp [isInsU]), show kitB (tyU (.none)) "str" = kitB "NoneType" "str" from rfl, e]; rfl
@[simp] theorem isi_bool_str {b : Bool} : uIsi "str" (.bool b) = some (.bool false) := by
  have e : kitB "bool" "str" = some false := by decide +kernel
  rw [uIsi, if_neg (by simp [isInsU]), show kitB (tyU (.bool b)) "str" = kitB "bool" "str" from rfl, e]; rfl
@[simp] theorem isi_int_str {i : Int} : uIsi "str" (.int i) = some (.bool false) := by
  have e : kitB "int" "str" = some false := by decide +kernel
  rw [uIsi, if_neg (by simp [isInsU]), show kitB (tyU (.int i)) "str" = kitB "int" "str" from rfl, e]; rfl
@[simp] theorem isi_str_str {z : Str} : uIsi "str" (.str z) = some (.bool true) := by
  have e : kitB "str" "str" = some true := by decide +kernel
  rw [uIsi, if_neg (by simp [isInsU]), show kitB (tyU (.str z)) "str" = kitB "str" "str" from rfl, e]; rfl
@[simp] theorem isi_list_str {ds : List U} : uIsi "str" (.list ds) = some (.bool false) := by
  have e : kitB "list" "str" = some false := by decide +kernel
  rw [uIsi, if_neg (by simp [isInsU]), show kitB (tyU (.list ds)) "str" = kitB "list" "str" from rfl, e]; rfl
@[simp] theorem isi_tuple_str {ds : List U} : uIsi "str" (.tuple ds) = some (.bool false) := by
  have e : kitB "tuple" "str" = some false := by decide +kernel
  rw [uIsi, if_neg (by simp [isInsU]), show kitB (tyU (.tuple ds)) "str" = kitB "tuple" "str" from rfl, e]; rfl
@[simp] theorem isi_dict_str {ks : List (Key × U)} : uIsi "str" (.dict ks) = some (.bool false) := by
  have e : kitB "dict" "str" = some false := by decide +kernel
  rw [uIsi, if_neg (by simp [isInsU]), show kitB (tyU (.dict ks)) "str" = kitB "dict" "str" from rfl, e]; rfl
@[simp] theorem isi_NoneType_int  : uIsi "int" (.none) = some (.bool false) := by
  have e : kitB "NoneType" "int" = some false := by decide +kernel
  rw [uIsi, if_neg (by simp [isInsU]), show kitB (tyU (.none)) "int" = kitB "NoneType" "int" from rfl, e]; rfl
@[simp] theorem isi_bool_int {b : Bool} : uIsi "int" (.bool b) = some (.bool true) := by
  have e : kitB "bool" "int" = some true := by decide +kernel
  rw [uIsi, if_neg (by simp [isInsU]), show kitB (tyU (.bool b)) "int" = kitB "bool" "int" from rfl, e]; rfl
@[simp] theorem isi_int_int {i : Int} : uIsi "int" (.int i) = some (.bool true) := by
  have e : kitB "int" "int" = some true := by decide +kernel
  rw [uIsi, if_neg (by simp [isInsU]), show kitB (tyU (.int i)) "int" = kitB "int" "int" from rfl, e]; rfl
@[simp] theorem isi_str_int {z : Str} : uIsi "int" (.str z) = some (.bool false) := by
  have e : kitB "str" "int" = some false := by decide +kernel
  rw [uIsi, if_neg (by simp [isInsU]), show kitB (tyU (.str z)) "int" = kitB "str" "int" from rfl, e]; rfl
@[simp] theorem isi_list_int {ds : List U} : uIsi "int" (.list ds) = some (.bool false) := by
  have e : kitB "list" "int" = some false := by decide +kernel
  rw [uIsi, if_neg (by simp [isInsU]), show kitB (tyU (.list ds)) "int" = kitB "list" "int" from rfl, e]; rfl
@[simp] theorem isi_tuple_int {ds : List U} : uIsi "int" (.tuple ds) = some (.bool false) := by
  have e : kitB "tuple" "int" = some false := by decide +kernel
  rw [uIsi, if_neg (by simp [isInsU]), show kitB (tyU (.tuple ds)) "int" = kitB "tuple" "int" from rfl, e]; rfl
@[simp] theorem isi_dict_int {ks : List (Key × U)} : uIsi "int" (.dict ks) = some (.bool false) := by
  have e : kitB "dict" "int" = some false := by decide +kernel
  rw [uIsi, if_neg (by simp [isInsU]), show kitB (tyU (.dict ks)) "int" = kitB "dict" "int" from rfl, e]; rfl
@[simp] theorem isi_NoneType_bool  : uIsi "bool" (.none) = some (.bool false) := by
  have e : kitB "NoneType" "bool" = some false := by decide +kernel
  rw [uIsi, if_neg (by simp [isInsU]), show kitB (tyU (.none)) "bool" = kitB "NoneType" "bool" from rfl, e]; rfl
@[simp] theorem isi_bool_bool {b : Bool} : uIsi "bool" (.bool b) = some (.bool true) := by
  have e : kitB "bool" "bool" = some true := by decide +kernel
  rw [uIsi, if_neg (by simp [isInsU]), show kitB (tyU (.bool b)) "bool" = kitB "bool" "bool" from rfl, e]; rfl
@[simp] theorem isi_int_bool {i : Int} : uIsi "bool" (.int i) = some (.bool false) := by
  have e : kitB "int" "bool" = some false := by decide +kernel
  rw [uIsi, if_neg (by simp [isInsU]), show kitB (tyU (.int i)) "bool" = kitB "int" "bool" from rfl, e]; rfl
@[simp] theorem isi_str_bool {z : Str} : uIsi "bool" (.str z) = some (.bool false) := by
  have e : kitB "str" "bool" = some false := by decide +kernel
  rw [uIsi, if_neg (by simp [isInsU]), show kitB (tyU (.str z)) "bool" = kitB "str" "bool" from rfl, e]; rfl
@[simp] theorem isi_list_bool {ds : List U} : uIsi "bool" (.list ds) = some (.bool false) := by
  have e : kitB "list" "bool" = some false := by decide +kernel
  rw [uIsi, if_neg (by simp [isInsU]), show kitB (tyU (.list ds)) "bool" = kitB "list" "bool" from rfl, e]; rfl
@[simp] theorem isi_tuple_bool {ds : List U} : uIsi "bool" (.tuple ds) = some (.bool false) := by
  have e : kitB "tuple" "bool" = some false := by decide +kernel
  rw [uIsi, if_neg (by simp [isInsU]), show kitB (tyU (.tuple ds)) "bool" = kitB "tuple" "bool" from rfl, e]; rfl
@[simp] theorem isi_dict_bool {ks : List (Key × U)} : uIsi "bool" (.dict ks) = some (.bool false) := by
  have e : kitB "dict" "bool" = some false := by decide +kernel
  rw [uIsi, if_neg (by simp [isInsU]), show kitB (tyU (.dict ks)) "bool" = kitB "dict" "bool" from rfl, e]; rfl
@[simp] theorem isi_NoneType_list  : uIsi "list" (.none) = some (.bool false) := by
  have e : kitB "NoneType" "list" = some false := by decide +kernel
  rw [uIsi, if_neg (by simp [isInsU]), show kitB (tyU (.none)) "list" = kitB "NoneType" "list" from rfl, e]; rfl
@[simp] theorem isi_bool_list {b : Bool} : uIsi "list" (.bool b) = some (.bool false) := by
  have e : kitB "bool" "list" = some false := by decide +kernel
  rw [uIsi, if_neg (by simp [isInsU]), show kitB (tyU (.bool b)) "list" = kitB "bool" "list" from rfl, e]; rfl
@[simp] theorem isi_int_list {i : Int} : uIsi "list" (.int i) = some (.bool false) := by
  have e : kitB "int" "list" = some false := by decide +kernel
  rw [uIsi, if_neg (by simp [isInsU]), show kitB (tyU (.int i)) "list" = kitB "int" "list" from rfl, e]; rfl
@[simp] theorem isi_str_list {z : Str} : uIsi "list" (.str z) = some (.bool false) := by
  have e : kitB "str" "list" = some false := by decide +kernel
  rw [uIsi, if_neg (by simp [isInsU]), show kitB (tyU (.str z)) "list" = kitB "str" "list" from rfl, e]; rfl
@[simp] theorem isi_list_list {ds : List U} : uIsi "list" (.list ds) = some (.bool true) := by
  have e : kitB "list" "list" = some true := by decide +kernel
  rw [uIsi, if_neg (by simp [isInsU]), show kitB (tyU (.list ds)) "list" = kitB "list" "list" from rfl, e]; rfl
@[simp] theorem isi_tuple_list {ds : List U} : uIsi "list" (.tuple ds) = some (.bool false) := by
  have e : kitB "tuple" "list" = some false := by decide +kernel
  rw [uIsi, if_neg (by simp [isInsU]), show kitB (tyU (.tuple ds)) "list" = kitB "tuple" "list" from rfl, e]; rfl
@[simp] theorem isi_dict_list {ks : List (Key × U)} : uIsi "list" (.dict ks) = some (.bool false) := by
  have e : kitB "dict" "list" = some false := by decide +kernel
  rw [uIsi, if_neg (by simp [isInsU]), show kitB (tyU (.dict ks)) "list" = kitB "dict" "list" from rfl, e]; rfl
@[simp] theorem isi_NoneType_tuple  : uIsi "tuple" (.none) = some (.bool false) := by
  have e : kitB "NoneType" "tuple" = some false := by decide +kernel
  rw [uIsi, if_neg (by simp [isInsU]), show kitB (tyU (.none)) "tuple" = kitB "NoneType" "tuple" from rfl, e]; rfl
@[simp] theorem isi_bool_tuple {b : Bool} : uIsi "tuple" (.bool b) = some (.bool false) := by
  have e : kitB "bool" "tuple" = some false := by decide +kernel
  rw [uIsi, if_neg (by simp [isInsU]), show kitB (tyU (.bool b)) "tuple" = kitB "bool" "tuple" from rfl, e]; rfl
@[simp] theorem isi_int_tuple {i : Int} : uIsi "tuple" (.int i) = some (.bool false) := by
  have e : kitB "int" "tuple" = some false := by decide +kernel
  rw [uIsi, if_neg (by simp [isInsU]), show kitB (tyU (.int i)) "tuple" = kitB "int" "tuple" from rfl, e]; rfl
@[simp] theorem isi_str_tuple {z : Str} : uIsi "tuple" (.str z) = some (.bool false) := by
  have e : kitB "str" "tuple" = some false := by decide +kernel
  rw [uIsi, if_neg (by simp [isInsU]), show kitB (tyU (.str z)) "tuple" = kitB "str" "tuple" from rfl, e]; rfl
@[simp] theorem isi_list_tuple {ds : List U} : uIsi "tuple" (.list ds) = some (.bool false) := by
  have e : kitB "list" "tuple" = some false := by decide +kernel
  rw [uIsi, if_neg (by simp [isInsU]), show kitB (tyU (.list ds)) "tuple" = kitB "list" "tuple" from rfl, e]; rfl
@[simp] theorem isi_tuple_tuple {ds : List U} : uIsi "tuple" (.tuple ds) = some (.bool true) := by
  have e : kitB "tuple" "tuple" = some true := by decide +kernel
  rw [uIsi, if_neg (by simp [isInsU]), show kitB (tyU (.tuple ds)) "tuple" = kitB "tuple" "tuple" from rfl, e]; rfl
@[simp] theorem isi_dict_tuple {ks : List (Key × U)} : uIsi "tuple" (.dict ks) = some (.bool false) := by
  have e : kitB "dict" "tuple" = some false := by decide +kernel
  rw [uIsi, if_neg (by simp [isInsU]), show kitB (tyU (.dict ks)) "tuple" = kitB "dict" "tuple" from rfl, e]; rfl
@[simp] theorem isi_NoneType_dict  : uIsi "dict" (.none) = some (.bool false) := by
  have e : kitB "NoneType" "dict" = some false := by decide +kernel
  rw [uIsi, if_neg (by simp [isInsU]), show kitB (tyU (.none)) "dict" = kitB "NoneType" "dict" from rfl, e]; rfl
@[simp] theorem isi_bool_dict {b : Bool} : uIsi "dict" (.bool b) = some (.bool false) := by
  have e : kitB "bool" "dict" = some false := by decide +kernel
  rw [uIsi, if_neg (by simp [isInsU]), show kitB (tyU (.bool b)) "dict" = kitB "bool" "dict" from rfl, e]; rfl
@[simp] theorem isi_int_dict {i : Int} : uIsi "dict" (.int i) = some (.bool false) := by
  have e : kitB "int" "dict" = some false := by decide +kernel
  rw [uIsi, if_neg (by simp [isInsU]), show kitB (tyU (.int i)) "dict" = kitB "int" "dict" from rfl, e]; rfl
@[simp] theorem isi_str_dict {z : Str} : uIsi "dict" (.str z) = some (.bool false) := by
  have e : kitB "str" "dict" = some false := by decide +kernel
  rw [uIsi, if_neg (by simp [isInsU]), show kitB (tyU (.str z)) "dict" = kitB "str" "dict" from rfl, e]; rfl
@[simp] theorem isi_list_dict {ds : List U} : uIsi "dict" (.list ds) = some (.bool false) := by
  have e : kitB "list" "dict" = some false := by decide +kernel
  rw [uIsi, if_neg (by simp [isInsU]), show kitB (tyU (.list ds)) "dict" = kitB "list" "dict" from rfl, e]; rfl
@[simp] theorem isi_tuple_dict {ds : List U} : uIsi "dict" (.tuple ds) = some (.bool false) := by
  have e : kitB "tuple" "dict" = some false := by decide +kernel
  rw [uIsi, if_neg (by simp [isInsU]), show kitB (tyU (.tuple ds)) "dict" = kitB "tuple" "dict" from rfl, e]; rfl
@[simp] theorem isi_dict_dict {ks : List (Key × U)} : uIsi "dict" (.dict ks) = some (.bool true) := by
  have e : kitB "dict" "dict" = some true := by decide +kernel
  rw [uIsi, if_neg (by simp [isInsU]), show kitB (tyU (.dict ks)) "dict" = kitB "dict" "dict" from rfl, e]; rfl
def lowC (n : Nat) : Bool := decide (97 ≤ n ∧ n ≤ 122)
def nameB (z : Str) : Bool := decide (1 ≤ z.length) && decide (z.length ≤ 8) && z.cps.toList.all lowC
theorem letters_mem {c : Nat} : decide (c ∈ ("abcdefghijklmnopqrstuvwxyz" : Str).cps.toList) = lowC c := by
  have e : ("abcdefghijklmnopqrstuvwxyz" : Str).cps.toList = List.range' 97 26 := by decide +kernel
  rw [e]
  unfold lowC
  simp only [List.mem_range']
  rw [decide_eq_decide]
  constructor
  · rintro ⟨i, h1, h2⟩; omega
  · intro h; exact ⟨c - 97, by omega, by omega⟩
theorem uIn_letters {c : Nat} : uIn (.str ⟨#[c]⟩) (.str "abcdefghijklmnopqrstuvwxyz") = some (.bool (lowC c)) := by
  rw [← letters_mem]
  rfl
theorem signs_all {z : Str} {f : Str → Bool} {g : Nat → Bool} (h : ∀ c, f ⟨#[c]⟩ = g c) : ((signs z).map f).all id = z.cps.toList.all g := by
  unfold signs
  rw [List.map_map, List.all_map]
  congr 1
  funext c
  exact h c
theorem rangeL_mem {d x : Int} (h : x ∈ rangeL 0 d) : 0 ≤ x ∧ x < d := by
  unfold rangeL at h
  obtain ⟨i, hi, rfl⟩ := List.mem_map.mp h
  have := List.mem_range.mp hi
  omega
theorem str_len {x y : Str} : (x ++ y).length = x.length + y.length := by
  show (x.cps ++ y.cps).size = _
  rw [Array.size_append]; rfl
theorem join_ok (a : Str) (ha : PyData.strOk a = true) : ∀ ys : List Str, (∀ y ∈ ys, PyData.strOk y = true) → PyData.strOk (Str.join a ys) = true
  | [], _ => by simp [Str.join, Str.empty, PyData.strOk]
  | [x], h => h x List.mem_cons_self
  | x :: y :: r, h => by
    show PyData.strOk (x ++ a ++ Str.join a (y :: r)) = true
    exact strOk_append (strOk_append (h x List.mem_cons_self) ha) (join_ok a ha (y :: r) fun z hz => h z (List.mem_cons_of_mem _ hz))
theorem uJoin_ok {a : Str} {ys : List Str} (ha : PyData.strOk a = true) (hy : ∀ y ∈ ys, PyData.strOk y = true) (hz : (ys.map (·.length)).sum + ys.length * a.length ≤ 16777216) : uJoin (.str a) (.list (ys.map U.str)) = some (.str (Str.join a ys)) := by
  unfold uJoin
  simp only [strsU_map, Option.bind_some]
  rw [show Txt.join a ys = Str.join a ys from PySem.StrLaws.glued_eq_join a ys, if_pos ⟨hz, join_ok a ha ys hy⟩]
theorem uCut_str {z : Str} {lo hi : Option Int} (h : z.length ≤ 1000000) : uCut (.str z) lo hi = some (.str (cutS z lo hi)) := by
  have e : sizeLine = 16777216 := sizeLine_eq
  unfold uCut
  simp only
  rw [if_pos (by omega)]
theorem uAdd_str {x y : Str} (h : x.length + y.length ≤ 1000000) : uAdd (.str x) (.str y) = some (.str (x ++ y)) := by
  have e : sizeLine = 16777216 := sizeLine_eq
  unfold uAdd
  simp only
  rw [if_pos (by omega)]
end L3
namespace V4
open PySem PySem.Spec PyProof.Rows L2 L3 RZ
section
variable {β γ : Type} {s : S} {m ma mb mc : Mo U} {n na nb : Mo Bool} {i j : Nat} {f : U → Option U} {g g2 : U → U → Option U} {ms : Mo (List U)} {bm bn : Mo (Option U)}
@[simp] theorem ok_v {P : U → S → Prop} : Ok (vM i s) P ↔ ∃ u, s[i]? = some u ∧ P u s := by
  unfold vM
  cases s[i]? with
  | none => exact ⟨fun h => h.elim, fun ⟨_, h, _⟩ => (nomatch h)⟩
  | some u => exact ⟨fun h => ⟨u, rfl, h⟩, fun ⟨_, h, k⟩ => by cases h; exact k⟩
@[simp] theorem ok_op1 {P : U → S → Prop} : Ok (op1M f m s) P ↔ Ok (m s) fun x s' => ∃ d, f x = some d ∧ P d s' := by unfold op1M; simp
@[simp] theorem ok_op2 {P : U → S → Prop} : Ok (op2M g ma mb s) P ↔ Ok (ma s) fun x s1 => Ok (mb s1) fun y s2 => ∃ d, g x y = some d ∧ P d s2 := by unfold op2M; simp
@[simp] theorem ok_asBM {P : Bool → S → Prop} : Ok (asBM m s) P ↔ Ok (m s) fun x s' => ∃ b, x = .bool b ∧ P b s' := by
  unfold asBM
  rw [ok_bind]
  refine ⟨fun h => ok_mono h fun x s' k => ?_, fun h => ok_mono h fun x s' k => ?_⟩
  · cases x <;> first | exact ⟨_, rfl, k⟩ | exact k.elim
  · obtain ⟨b, rfl, k⟩ := k; exact k
@[simp] theorem ok_ofBM {P : U → S → Prop} : Ok (ofBM n s) P ↔ Ok (n s) fun b s' => P (.bool b) s' := by unfold ofBM; simp
@[simp] theorem ok_notM {P : Bool → S → Prop} : Ok (notM n s) P ↔ Ok (n s) fun b s' => P (!b) s' := by unfold notM; simp
@[simp] theorem ok_andM {P : Bool → S → Prop} : Ok (andM na nb s) P ↔ Ok (na s) fun b s' => if b = true then Ok (nb s') P else P false s' := by unfold andM; simp
@[simp] theorem ok_orM {P : Bool → S → Prop} : Ok (orM na nb s) P ↔ Ok (na s) fun b s' => if b = true then P true s' else Ok (nb s') P := by unfold orM; simp
@[simp] theorem ok_ifM {a b : Mo β} {P : β → S → Prop} : Ok (ifM n a b s) P ↔ Ok (n s) fun k s' => if k = true then Ok (a s') P else Ok (b s') P := by unfold ifM; simp
@[simp] theorem ok_chM {P : Bool → S → Prop} : Ok (chM g g2 ma mb mc s) P ↔ Ok (ma s) fun x s1 => Ok (mb s1) fun y s2 => ∃ b, g x y = some (.bool b) ∧ if b = true then Ok (mc s2) fun z s3 => ∃ c, g2 y z = some (.bool c) ∧ P c s3 else P false s2 := by
  unfold chM
  simp only [ok_bind, ok_opt]
  refine ⟨fun h => ok_mono h fun x s1 h => ok_mono h fun y s2 h => ?_, fun h => ok_mono h fun x s1 h => ok_mono h fun y s2 h => ?_⟩
  · obtain ⟨d, e, k⟩ := h
    cases d <;> first | exact k.elim | skip
    rename_i b
    refine ⟨b, e, ?_⟩
    have k : Ok ((if b = true then StM.bind mc fun z => StM.bind (StM.ofOpt (g2 y z)) asB else StM.pure false) s2) P := k
    cases b with
    | true =>
      rw [if_pos rfl] at k ⊢
      rw [ok_bind] at k
      refine ok_mono k fun z s3 k => ?_
      rw [ok_bind, ok_opt] at k
      obtain ⟨d, e, k⟩ := k
      cases d <;> first | exact k.elim | exact ⟨_, e, k⟩
    | false => rw [if_neg Bool.false_ne_true] at k ⊢; exact k
  · obtain ⟨b, e, k⟩ := h
    refine ⟨_, e, ?_⟩
    show Ok ((if b = true then StM.bind mc fun z => StM.bind (StM.ofOpt (g2 y z)) asB else StM.pure false) s2) P
    cases b with
    | true =>
      rw [if_pos rfl] at k ⊢
      rw [ok_bind]
      refine ok_mono k fun z s3 k => ?_
      rw [ok_bind, ok_opt]
      obtain ⟨c, e, k⟩ := k
      exact ⟨_, e, k⟩
    | false => rw [if_neg Bool.false_ne_true] at k ⊢; exact k
@[simp] theorem ok_nilM {P : List U → S → Prop} : Ok (nilM s) P ↔ P [] s := Iff.rfl
@[simp] theorem ok_consM {P : List U → S → Prop} : Ok (consM m ms s) P ↔ Ok (m s) fun u s1 => Ok (ms s1) fun us s2 => P (u :: us) s2 := by unfold consM; simp
@[simp] theorem ok_tupM {P : U → S → Prop} : Ok (tupM ms s) P ↔ Ok (ms s) fun us s' => P (.tuple us) s' := by unfold tupM; simp
@[simp] theorem ok_lstM {P : U → S → Prop} : Ok (lstM ms s) P ↔ Ok (ms s) fun us s' => P (.list us) s' := by unfold lstM; simp
theorem ok_seq {P : Option U → S → Prop} : Ok (seqM bm bn s) P ↔ Ok (bm s) fun o s' => match o with | none => Ok (bn s') P | some r => P (some r) s' := by
  unfold seqM
  rw [ok_bind]
  refine ⟨fun h => ok_mono h fun o s' k => ?_, fun h => ok_mono h fun o s' k => ?_⟩ <;> (cases o <;> exact k)
@[simp] theorem ok_ret {P : Option U → S → Prop} : Ok (retM m s) P ↔ Ok (m s) fun u s' => P (some u) s' := by unfold retM; simp
@[simp] theorem ok_asg {P : Option U → S → Prop} : Ok (asgM i m s) P ↔ Ok (m s) fun u s' => P none (s'.set i u) := by unfold asgM; rw [ok_bind]; exact Iff.rfl
@[simp] theorem ok_ex {P : Option U → S → Prop} : Ok (exM m s) P ↔ Ok (m s) fun u s' => P none s' := by unfold exM; simp
@[simp] theorem ok_par {P : Option U → S → Prop} : Ok (parM i j ma mb s) P ↔ Ok (ma s) fun u s1 => Ok (mb s1) fun v s2 => P none ((s2.set i u).set j v) := by unfold parM; rw [ok_bind]; refine ⟨fun h => ok_mono h fun u s1 k => ?_, fun h => ok_mono h fun u s1 k => ?_⟩ <;> (first | exact ok_bind.mp k | exact ok_bind.mpr k)
@[simp] theorem ok_tg {mt : U → S → Option S} {P : Option U → S → Prop} : Ok (tgM m mt s) P ↔ Ok (m s) fun u s1 => ∃ s2, mt u s1 = some s2 ∧ P none s2 := by
  unfold tgM
  rw [ok_bind]
  refine ⟨fun h => ok_mono h fun u s1 k => ?_, fun h => ok_mono h fun u s1 k => ?_⟩
  · have k : Ok (match mt u s1 with | some s' => Out.ok none s' | none => .stuck) P := k
    cases e : mt u s1 with
    | none => rw [e] at k; exact k.elim
    | some s2 => rw [e] at k; exact ⟨s2, rfl, k⟩
  · obtain ⟨s2, e, k⟩ := k
    show Ok (match mt u s1 with | some s' => Out.ok none s' | none => .stuck) P
    rw [e]; exact k
@[simp] theorem ok_call {fn : Fn} {L : LL} {P : U → S → Prop} : Ok (callM fn L ms s) P ↔ Ok (ms s) fun us s' => Ok (fn us) fun r fin => P r (wrL fin L s') := by
  unfold callM
  rw [ok_bind]
  refine ⟨fun h => ok_mono h fun us s1 k => ?_, fun h => ok_mono h fun us s1 k => ?_⟩
  · have k : Ok (match fn us with | .ok r fin => Out.ok r (wrL fin L s1) | .exc e _ => .exc e s1 | .stuck => .stuck) P := k
    cases e : fn us with
    | ok r fin => rw [e] at k; exact k
    | exc _ _ => rw [e] at k; exact k.elim
    | stuck => rw [e] at k; exact k.elim
  · show Ok (match fn us with | .ok r fin => Out.ok r (wrL fin L s1) | .exc e _ => .exc e s1 | .stuck => .stuck) P
    cases e : fn us with
    | ok r fin => rw [e] at k; exact k
    | exc _ _ => rw [e] at k; exact k.elim
    | stuck => rw [e] at k; exact k.elim
theorem ok_fn {sg : Sig} {n : Nat} {mir : Mo (Option U)} {us : List U} {P : U → List U → Prop} : Ok (runF sg n mir us) P ↔ Ok (mir (us ++ List.replicate n .none)) fun o s' => P (o.getD .none) (sg.lents.map fun i => s'.getD i .none) := by
  unfold runF
  cases mir (us ++ List.replicate n .none) with
  | ok o s' => cases o <;> exact Iff.rfl
  | exc _ _ => exact Iff.rfl
  | stuck => exact Iff.rfl
theorem atM_root {β : Type} {g : U → Option (U × β)} : atM i [] g s = match s[i]? with
    | some u => (match g u with
      | some (u', d) => .ok d (s.set i u')
      | none => .stuck)
    | none => .stuck := rfl
@[simp] theorem ok_at0 {β : Type} {g : U → Option (U × β)} {P : β → S → Prop} : Ok (atM i [] g s) P ↔ ∃ u, s[i]? = some u ∧ ∃ u' d, g u = some (u', d) ∧ P d (s.set i u') := by
  rw [atM_root]
  cases e : s[i]? with
  | none => exact ⟨fun h => h.elim, fun ⟨_, h, _⟩ => (nomatch h)⟩
  | some u =>
    cases e2 : g u with
    | none =>
      simp only [e2]
      exact ⟨fun h => h.elim, fun ⟨_, h, _, _, h2, _⟩ => by cases h; rw [e2] at h2; cases h2⟩
    | some z =>
      obtain ⟨u', d⟩ := z
      simp only [e2]
      exact ⟨fun h => ⟨u, rfl, u', d, e2, h⟩, fun ⟨_, h, _, _, h2, k⟩ => by cases h; rw [e2] at h2; cases h2; exact k⟩
/-- x[k] = v -/
theorem sub_root {mb : Mo U} {k v u u' : U} (e : mb s = .ok k s) (e1 : s[i]? = some u) (e2 : uSet u k v = some u') : subM i (.pure []) mb v s = some (s.set i u') := by
  unfold subM
  show (okS (mb s)).bind _ = _
  rw [e]
  show (okS (atM i [] _ s)).map _ = _
  rw [atM_root, e1]
  simp only [e2]
  rfl
@[simp] theorem ok_mut0 {h : U → List U → Option (U × U)} {P : U → S → Prop} : Ok (mutM i (.pure []) ms h s) P ↔ Ok (ms s) fun us s1 => ∃ u, s1[i]? = some u ∧ ∃ u' d, h u us = some (u', d) ∧ P d (s1.set i u') := by
  unfold mutM
  simp only [ok_bind, ok_pure, ok_at0]
@[simp] theorem ok_mutv {h : U → List U → Option (U × U)} {P : U → S → Prop} : Ok (mutvM i ms h s) P ↔ Ok (ms s) fun us s1 => ∃ u, s1[i]? = some u ∧ ∃ u' d, h u us = some (u', d) ∧ P d (s1.set i u') := by
  unfold mutvM
  simp only [ok_bind, ok_at0]
theorem ok_for {w : Mo (List U)} {mt : U → S → Option S} {b : Mo (Option U)} {P : Option U → S → Prop} : Ok (forM' w mt b s) P ↔ Ok (w s) fun xs s1 => Ok (forS mt b xs s1) P := by unfold forM'; rw [ok_bind]
end
end V4
namespace V4
open PySem PySem.Spec PyProof.Rows L2 L3 RZ
section
variable {s : S} {m ma mb : Mo U} {f : U → Option U} {fe : Mo U} {ft : Mo Bool} {mt : U → S → Option S} {vs : List Nat} {w : Mo (List U)}
@[simp] theorem ok_it {P : List U → S → Prop} : Ok (itM m s) P ↔ Ok (m s) fun u s' => ∃ xs, iterU u = some xs ∧ P xs s' := by unfold itM; simp
@[simp] theorem iterU_list {us : List U} : iterU (.list us) = some us := rfl
@[simp] theorem iterU_tuple {us : List U} : iterU (.tuple us) = some us := rfl
theorem iterU_str {z : Str} (h : z.length ≤ sizeLine) : iterU (.str z) = some ((L3.signs z).map U.str) := by
  show (if z.length ≤ sizeLine then some ((L3.signs z).map U.str) else none) = _
  rw [if_pos h]
@[simp] theorem ok_rng {P : List U → S → Prop} : Ok (rngM ma mb s) P ↔ Ok (ma s) fun x s1 => Ok (mb s1) fun y s2 => ∃ i j, x = .int i ∧ y = .int j ∧ (-16777216 ≤ i ∧ j ≤ 8388608 ∧ j - i ≤ 16777216 ∧ i ≤ 16777216 ∧ -16777216 ≤ j) ∧ P ((rangeL i j).map U.int) s2 := by
  unfold rngM
  simp only [ok_bind]
  refine ⟨fun h => ok_mono h fun x s1 h1 => ok_mono h1 fun y s2 h2 => ?_, fun h => ok_mono h fun x s1 h1 => ok_mono h1 fun y s2 h => ?_⟩
  · clear h h1
    have h := h2
    cases x <;> first | exact h.elim | skip
    cases y <;> first | exact h.elim | skip
    clear h2
    rename_i i j
    have h : Ok ((rangeM i j : Mo (List Int)) s2) fun ks s3 => P (ks.map U.int) s3 := h
    unfold rangeM at h
    split at h
    · rename_i hz; exact ⟨i, j, rfl, rfl, hz, h⟩
    · exact h.elim
  · obtain ⟨i, j, rfl, rfl, hz, h⟩ := h
    show Ok ((rangeM i j : Mo (List Int)) s2) fun ks s3 => P (ks.map U.int) s3
    unfold rangeM
    rw [if_pos hz]
    exact h
theorem ok_noX {β : Type} {m : Mo β} {P : β → S → Prop} : Ok (noXM m s) P ↔ Ok (m s) P := by
  unfold noXM
  cases m s <;> exact Iff.rfl
end
@[simp] theorem shp_str {z : Str} : shp (.str z) = true := by simp [shp, noDct, U.py, PyData.depth]
@[simp] theorem eqD_str {a b : Str} : eqD (.str a) (.str b) = decide (a = b) := by simp [eqD, U.py, PyData.eqv, Bool.beq_eq_decide_eq]
theorem noDcts_of : ∀ {ds : List U}, (∀ d ∈ ds, noDct d = true) → noDcts ds = true
  | [], _ => rfl
  | d :: ds, h => by simp [noDcts, h d List.mem_cons_self, noDcts_of fun x hx => h x (List.mem_cons_of_mem _ hx)]
theorem depths_of {n : Nat} : ∀ {ds : List U}, (∀ d ∈ ds, d.py.depth ≤ n) → PyData.depthAll (U.pys ds) ≤ n
  | [], _ => by simp [U.pys, PyData.depthAll]
  | d :: ds, h => by
    have h1 := h d List.mem_cons_self
    have h2 := depths_of fun x hx => h x (List.mem_cons_of_mem _ hx)
    simp [U.pys, PyData.depthAll]
    omega
theorem shp_list {ds : List U} (h : ∀ d ∈ ds, noDct d = true ∧ d.py.depth ≤ 60) : shp (.list ds) = true := by
  unfold shp
  rw [Bool.and_eq_true, decide_eq_true_iff]
  refine ⟨noDcts_of fun d hd => (h d hd).1, ?_⟩
  have := depths_of (n := 60) fun d hd => (h d hd).2
  simp [U.py, PyData.depth]
  omega
theorem shp_strs {ts : List Str} : shp (.list (ts.map U.str)) = true := shp_list fun d hd => by
  obtain ⟨z, _, rfl⟩ := List.mem_map.mp hd
  exact ⟨rfl, by simp [U.py, PyData.depth]⟩
theorem uIn_strs {z : Str} {ts : List Str} : uIn (.str z) (.list (ts.map U.str)) = some (.bool (decide (z ∈ ts))) := by
  show (if (shp (.str z) && shp (.list (ts.map U.str))) = true then some (U.bool ((ts.map U.str).any fun w => eqD w (.str z))) else none) = _
  rw [shp_str, shp_strs]
  simp [List.any_map, Function.comp_def]
  rw [Bool.eq_iff_iff]
  simp
theorem uNotIn_strs {z : Str} {ts : List Str} : uNotIn (.str z) (.list (ts.map U.str)) = some (.bool (!decide (z ∈ ts))) := by
  unfold uNotIn
  rw [uIn_strs]
end V4
namespace V4
open PySem PySem.Spec PyProof.Rows L2 L3 RZ
section
variable {C : Ct} {R : Rt} {Γ Γ1 Γ2 Γ3 Γ' : List Mk} {e a b c o : Expr} {es : List Expr} {pos p p1 p2 apos cpos : Pos} {ma mb mc : Mo U} {ms : Mo (List U)} {md md2 md3 : List Nat} {i : Nat} {x n y nm : Str} {ra rb : Rk} {k : Mk} {rs : List Rk} {pm : Mo (List PK)}
theorem sm1O_ {r : V → List V → Hp → VK → Prop} {f : U → U → Option U} {k : Mk} (pe : PE C.X e (tM1 r (SE C.X a) (SE C.X b))) (pr : Pr C.X.K (oU C.X.K) (r2l fun x y => r x [y]) (a2 f)) (hk : ∀ x y d, f x y = some d → topK k d = true) (ha : EJ C Γ a ma md (.val .f) Γ1) (hb : EJ C Γ1 b mb md2 rb Γ2) (h2 : shal rb.mk = true := by rfl) : EJ C Γ e (sm1M f ma mb) (md ++ md2) (.val k) Γ2 :=
  ⟨ha.1.trans hb.1, fun B A G H σ s hB at_ Q q => SE.of pe (ha.2 B A G H σ s hB at_ _ (wp_mono (wp_bind.mp q) (fun x s1 q1 v1 A1 G1 H1 at1 st1 r1 => by
    cases x with
    | str z =>
      have rf := r1.frz
      have e1 : v1 = .str z := by cases rf; rfl
      subst e1
      have q1 : ((StM.bind mb fun y => (StM.ofOpt (f (.str z) y) : Mo U)) s1).wp _ _ := q1
      refine ⟨⟨z, rfl⟩, hb.2 B A1 G1 H1 σ s1 hB at1 _ (wp_mono (wp_bind.mp q1) (fun y s2 q2 v2 A2 G2 H2 at2 st2 r2 => ?_) (xw_r st1))⟩
      obtain ⟨d, ed, q3⟩ := wp_ofOpt q2
      refine pr [.str z, y] d ed H2 G2 H2 [.str z, v2] Q at2.sub ⟨.inl (dp_ex st2.ex _ _ rf), r2.bow h2, trivial⟩ fun v G' H' g r => ?_
      obtain ⟨l, o, ev, hn, hg, hh, ht⟩ := r
      subst ev
      refine q3 (.ref l) A2 G' H' (at2.grow g) ((st1.trans st2).gr g) ⟨fun a => a = l, own_top hh ht (hk _ _ d ed), ⟨fun b z => z ▸ hg, fun b z i w => ?_, fun b z => ?_⟩⟩
      · subst z
        obtain ⟨o', e'⟩ := at2.live w
        rw [hn] at e'; cases e'
      · subst z
        cases e' : H b with
        | none => exact .inr rfl
        | some o' =>
          by_cases kk : ∃ j ∈ md ++ md2, A j b
          · exact .inl kk
          · exfalso
            have := ((st1.trans st2).keep b o' e' fun j hj z => kk ⟨j, hj, z⟩).1
            rw [hn] at this; cases this
    | _ => exact q1.elim) xw_l))⟩
def uSplit : U → U → Option U
  | .str a, .str b => if (b.length == 0) = false ∧ a.length + 2 ≤ sizeLine ∧ (Txt.split a b).all PyData.strOk = true then some (.list ((Txt.split a b).map U.str)) else none
  | _, _ => none
theorem pr_split {K : PySem.W.Frag} : Pr K (oU K) (r2l fun x y H Q => ∃ a b, x = .str a ∧ [y] = [V.str b] ∧ (b.length == 0) = false ∧ a.length + 2 ≤ sizeLine ∧ rNewStrs (Txt.split a b) H Q) (a2 uSplit) := pr2 fun u w d e G H v x Q ex b b2 q => by
  unfold uSplit at e
  split at e
  · split at e
    · rename_i hz
      cases e
      obtain ⟨rfl, h1⟩ := bow_str b
      obtain ⟨rfl, h2⟩ := bow_str b2
      exact ⟨_, _, rfl, rfl, hz.1, hz.2.1, fun l hl => oNew (H0 := H) ex hl (dq_strs fun y hy => List.all_eq_true.mp hz.2.2 y hy) q⟩
    · cases e
  · cases e
theorem tk_split : ∀ x y d, uSplit x y = some d → topK (.l .f) d = true := fun x y d h => by
  unfold uSplit at h
  split at h
  · split at h <;> cases h; rfl
  · cases h
theorem split_ (ha : EJ C Γ a ma md (.val .f) Γ1) (hb : EJ C Γ1 b mb md2 rb Γ2) (h2 : shal rb.mk = true := by rfl) (hs : starEach [b] C.X.env = [(false, eval b C.X.env)] := by rfl) (hbase : attributeBase a "split" C.X.env (eval a C.X.env) = eval a C.X.env := by rfl) (hline : (apos.endLine == pos.line) = true := by rfl) :
    EJ C Γ (.Call (.Attribute a "split" apos) [b] [] pos) (sm1M uSplit ma mb) (md ++ md2) (.val (.l .f)) Γ2 := sm1O_ (pe_split pe_se pe_se hs hbase hline) pr_split tk_split ha hb h2
def uPartition : U → U → Option U
  | .str a, .str b => if (b.length == 0) = false ∧ a.length ≤ sizeLine ∧ (PyData.strOk (Txt.partition a b).1 && PyData.strOk (Txt.partition a b).2.1 && PyData.strOk (Txt.partition a b).2.2) = true then some (.tuple [.str (Txt.partition a b).1, .str (Txt.partition a b).2.1, .str (Txt.partition a b).2.2]) else none
  | _, _ => none
theorem pr_partition {K : PySem.W.Frag} : Pr K (dU K) (r2l fun x y H Q => ∃ a b, x = .str a ∧ [y] = [V.str b] ∧ (b.length == 0) = false ∧ a.length ≤ sizeLine ∧
      ∀ p, H p = none → Q (.ref p) (upd H p (.tup [.str (Txt.partition a b).1, .str (Txt.partition a b).2.1, .str (Txt.partition a b).2.2]))) (a2 uPartition) := pr2 fun u w d e G H v x Q ex b b2 q => by
  unfold uPartition at e
  split at e
  · split at e
    · rename_i hz
      cases e
      obtain ⟨rfl, h1⟩ := bow_str b
      obtain ⟨rfl, h2⟩ := bow_str b2
      obtain ⟨hz1, hz2, hz3⟩ := hz
      rw [Bool.and_eq_true, Bool.and_eq_true] at hz3
      exact ⟨_, _, rfl, rfl, hz1, hz2, fun l hl => tNew (H0 := H) ex hl (.cons (.str _ hz3.1.1) (.cons (.str _ hz3.1.2) (.cons (.str _ hz3.2) .nil))) q⟩
    · cases e
  · cases e
theorem partition_ (ha : EJ C Γ a ma md (.val .f) Γ1) (hb : EJ C Γ1 b mb md2 rb Γ2) (h2 : shal rb.mk = true := by rfl) (hs : starEach [b] C.X.env = [(false, eval b C.X.env)] := by rfl) (hbase : attributeBase a "partition" C.X.env (eval a C.X.env) = eval a C.X.env := by rfl) (hline : (apos.endLine == pos.line) = true := by rfl) :
    EJ C Γ (.Call (.Attribute a "partition" apos) [b] [] pos) (sm1M uPartition ma mb) (md ++ md2) (.val .f) Γ2 := sm1_ (pe_partition pe_se pe_se hs hbase hline) pr_partition ha hb h2
end
end V4
namespace V4
open PySem PySem.Spec PyProof.Rows L2 L3 RZ
end V4
namespace V4
open PySem PySem.Spec PyProof.Rows L2 L3 RZ
/-- what the slots ro hold has stayed -/
def RoK (ro : List Nat) (A1 : Foot) (H1 : Hp) (A2 : Foot) (H2 : Hp) : Prop := (∀ j ∈ ro, A2 j = A1 j) ∧ ∀ j ∈ ro, ∀ b o, A1 j b → H1 b = some o → H2 b = some o
section
variable {K : PySem.W.Frag} {FM : FMap} {B : Bs} {Γ : List Mk} {ro md vs : List Nat} {A1 A2 A3 : Foot} {G1 G2 G3 H1 H2 H3 : Hp} {σ : L2.St} {s s2 s3 : S}
theorem RoK.refl : RoK ro A1 H1 A1 H1 := ⟨fun _ _ => rfl, fun _ _ _ _ _ e => e⟩
theorem RoK.step (r : RoK ro A1 H1 A2 H2) (a : At K FM B Γ A2 G2 H2 σ s2) (st : Stp md A2 A3 G2 H2 G3 H3 s s3) (h : ∀ j ∈ ro, j ∉ md) : RoK ro A1 H1 A3 H3 :=
  ⟨fun j hj => (st.same j (h j hj)).1.trans (r.1 j hj), fun j hj b o z e => (st.keep b o (r.2 j hj b o z e) fun i hi w => h j hj (by
    have z2 : A2 j b := by rw [r.1 j hj]; exact z
    rw [a.dis j i b z2 w]; exact hi)).1⟩
theorem RoK.grow (r : RoK ro A1 H1 A2 H2) (a : At K FM B Γ A2 G2 H2 σ s2) (g : Grow G2 H2 G3 H3) : RoK ro A1 H1 A2 H3 := r.step a (Grow.stp (A := A2) (s := s2) g) fun _ _ z => nomatch z
theorem RoK.clr (r : RoK ro A1 H1 A2 H2) (h : ∀ j ∈ ro, j ∉ vs) : RoK ro A1 H1 (V4.clr A2 vs) H2 :=
  ⟨fun j hj => (by rw [← r.1 j hj]; unfold V4.clr; funext b; simp [h j hj]), r.2⟩
end
end V4
namespace V4
open PySem PySem.Spec PyProof.Rows L2 L3 RZ
def atmM (m : Mo U) : Mo U := .bind m fun u => if flatU u = true then .pure u else .fail
def unqM (i : Nat) : Mo (Option U) := fun s => match s[i]? with
  | some u => if flatU u = true then .stuck else .ok none s
  | none => .stuck
def isDicU : U → Bool
  | .dict _ => true
  | _ => false
def isLstU : U → Bool
  | .list _ => true
  | _ => false
def uGetD (d k : U) : Option U := match d with
  | .dict kvs => (keyU k).map fun kk => (valU kvs kk).getD .none
  | _ => none
/-- a.m(e), where a has to be of a kind -/
def ck1M (p : U → Bool) (f : U → U → Option U) (ma mb : Mo U) : Mo U := .bind ma fun u => .bind (if p u then .pure () else .fail) fun _ => .bind mb fun z => .ofOpt (f u z)
/-- a change of a thing that is had by nobody else and not kept -/
def tmutM (ma : Mo U) (ms : Mo (List U)) (g : U → List U → Option (U × U)) : Mo U := .bind ma fun u => .bind (if isLstU u then .pure () else .fail) fun _ => .bind ms fun us => .ofOpt ((g u us).map (·.2))
section
variable {C : Ct} {R : Rt} {Γ Γ1 Γ2 Γ3 Γ' : List Mk} {e a b c o : Expr} {es : List Expr} {rest : List Stmt} {pos p p1 p2 apos cpos : Pos} {m ma mb mc : Mo U} {mo : Mo (Option U)} {ms : Mo (List U)} {md md2 md3 : List Nat} {i : Nat} {x n y nm : Str} {ra rb : Rk} {k : Mk} {rs : List Rk} {t : TA}
def dct1M (ma mb : Mo U) : Mo U := .bind ma fun u => .bind mb fun v => .bind (.ofOpt (keyU u)) fun k => .pure (.dict [(k, v)])
end
end V4
namespace V4
open PySem PySem.Spec PyProof.Rows L2
section
variable {P : Program} {w : World} {A : Around} {E : Value → Shared → Prop} {s : Shared} {K : Type} [DecidableEq K] {knd : KeyKind P w K}
/-- a set's inside -/
structure SIn (knd : KeyKind P w K) (es : Array (Int × Value)) (t : SetTable) (ks : List K) : Prop where
  el : ElemsOf knd es.toList
  nd : ks.Nodup
  pr : Paired (fun (e : Int × Value) (k : K) => knd.is k e.2 = true) es.toList ks
  fit : t.fits es.size = true
  ris : Ris t.place.toList
  led : w.params.followText "set-order" = true ∨ t.led = true
theorem SIn.size {es : Array (Int × Value)} {t : SetTable} {ks : List K} (g : SIn knd es t ks) : es.size = ks.length := by rw [← g.pr.length, Array.length_toList]
end
/-- each once, as they come -/
def nubL {K : Type} [DecidableEq K] (xs : List K) : List K := xs.foldl (fun acc x => if x ∈ acc then acc else acc ++ [x]) []
section
variable {K : Type} [DecidableEq K]
theorem nubL_snoc (xs : List K) (x : K) : nubL (xs ++ [x]) = if x ∈ nubL xs then nubL xs else nubL xs ++ [x] := by unfold nubL; rw [List.foldl_append]; rfl
theorem nubL_ind (Pr : List K → List K → Prop) (h0 : Pr [] []) (h1 : ∀ xs x, Pr xs (nubL xs) → Pr (xs ++ [x]) (nubL (xs ++ [x]))) : ∀ (n : Nat) (xs : List K), xs.length = n → Pr xs (nubL xs)
  | 0, xs, h => by rw [List.length_eq_zero_iff.mp h]; exact h0
  | n + 1, xs, h => by
    have hne : xs ≠ [] := fun e => by rw [e] at h; cases h
    rw [← List.dropLast_concat_getLast hne]
    exact h1 _ _ (nubL_ind Pr h0 h1 n _ (by rw [List.length_dropLast]; omega))
theorem nubL_mem {xs : List K} {k : K} : k ∈ nubL xs ↔ k ∈ xs := nubL_ind (fun xs ys => k ∈ ys ↔ k ∈ xs) Iff.rfl (fun xs x ih => by
  rw [nubL_snoc]
  split
  · rename_i h
    rw [ih, List.mem_append, List.mem_singleton]
    refine ⟨.inl, fun z => z.elim id fun e => ?_⟩
    subst e; exact ih.mp h
  · rw [List.mem_append, List.mem_append, ih]) _ xs rfl
theorem nubL_nodup {xs : List K} : (nubL xs).Nodup := nubL_ind (fun _ ys => ys.Nodup) List.nodup_nil (fun xs x ih => by
  rw [nubL_snoc]
  split
  · exact ih
  · rename_i h
    rw [List.nodup_append]
    exact ⟨ih, by simp, fun b hb c hc e => h (by rw [List.mem_singleton.mp hc] at e; exact e ▸ hb)⟩) _ xs rfl
end
section
open L2 L3 RZ
variable {C : Ct} {Γ Γ1 : List Mk} {a : Expr} {ma : Mo U} {md : List Nat} {ra : Rk} {p p2 q pos : Pos}
theorem intsU_map : ∀ (xs : List Int), intsU (xs.map U.int) = some xs
  | [] => rfl
  | x :: xs => by show (intsU (xs.map U.int)).map (x :: ·) = _; rw [intsU_map xs]; rfl
end
end V4
namespace V4
open PySem PySem.Spec PyProof.Rows L2 HT
end V4
namespace V4
open PySem PySem.Spec PyProof.Rows L2 L3 RZ
def uCutA (u : U) (lo hi : Option Int) : Option U := match u with
  | .tuple ds => some (.tuple (L3.cutU ds lo hi))
  | u => uCut u lo hi
section
variable {C : Ct} {Γ Γ1 : List Mk} {a : Expr} {pos p2 : Pos} {md : List Nat} {ra : Rk} {ma : Mo U}
def slaM (m : Mo U) (l h : Mo (Option Int)) : Mo U := .bind m fun x => .bind l fun l => .bind h fun h => .ofOpt (uCutA x l h)
end
end V4
namespace V4
open PySem PySem.Spec PyProof.Rows L2 L3 RZ
def lateM (i : Nat) (ms : Mo (List U)) : Mo (List U) := .bind ms fun us s => match s[i]? with
  | some u => .ok (u :: us) s
  | none => .stuck
end V4
namespace V4
open PySem PySem.Spec PyProof.Rows L2 L3 RZ
end V4
namespace V4
open PySem PySem.Spec PyProof.Rows L2 L3 RZ
def offM {β : Type} : Mo β := fun _ => .stuck
theorem nn_off : NoNx offM := fun s s' h => by cases h
section
variable {C : Ct} {R : Rt} {Γ : List Mk} {st : Stmt}
theorem soff_ : SJ C R Γ st offM [] Γ := ⟨.refl, fun B A G H σ s hB at_ D q => (show False from q).elim⟩
end
end V4
namespace V4
open PySem PySem.Spec PyProof.Rows L2 L3 RZ
/-- one after another taken out: by these places in what is left -/
def permF {α : Type} : List Nat → List α → List α
  | [], l => l
  | n :: ns, l => match l[n]? with
    | some x => x :: permF ns (l.eraseIdx n)
    | none => l
theorem permF_vals : ∀ (ns : List Nat) {vs : List V} {us : List Value}, Vals vs us → Vals (permF ns vs) (permF ns us)
  | [], _, _, h => h
  | n :: ns, vs, us, h => by
    unfold permF
    cases e : vs[n]? with
    | none => rw [h.none_of e]; exact h
    | some x =>
      obtain ⟨u, e2, r⟩ := h.get e
      rw [e2]
      refine .cons r (permF_vals ns ?_)
      rw [List.eraseIdx_eq_take_drop_succ, List.eraseIdx_eq_take_drop_succ]
      exact (h.take n).append (h.drop (n + 1))
section
variable {K : PySem.W.Frag} {FM : FMap} {A A' : Foot} {G H G' H' : Hp} {σ : L2.St} {s' : S} {md : List Nat}
theorem PendAll.swap2 {r1 r2 : Rk} {rs : List Rk} {v1 v2 : V} {vs : List V} {u1 u2 : U} {us : List U} {T : Fp} (h : PendAll K FM md A H A' G' H' σ s' (r1 :: r2 :: rs) (v1 :: v2 :: vs) (u1 :: u2 :: us) T) : PendAll K FM md A H A' G' H' σ s' (r2 :: r1 :: rs) (v2 :: v1 :: vs) (u2 :: u1 :: us) T := by
  cases r1 with
  | val k1 =>
    obtain ⟨F1, T1, o1, t1, p1, d1, e1⟩ := h
    cases r2 with
    | val k2 =>
      obtain ⟨F2, T2, o2, t2, p2, d2, e2⟩ := p1
      refine ⟨F2, fun a => F1 a ∨ T2 a, o2, t2, ⟨F1, T2, o1, t1, p2, fun a z w => d1 a z ((e2 a).mpr (.inr w)), fun a => Iff.rfl⟩, fun a z w => ?_, fun a => ?_⟩
      · rcases w with w | w
        · exact d1 a w ((e2 a).mpr (.inl z))
        · exact d2 a z w
      · rw [e1, e2]
        exact ⟨fun h => h.elim (fun h => .inr (.inl h)) (fun h => h.elim .inl fun h => .inr (.inr h)), fun h => h.elim (fun h => .inr (.inl h)) (fun h => h.elim .inl fun h => .inr (.inr h))⟩
    | view i k => exact ⟨p1.1, F1, T1, o1, t1, p1.2, d1, e1⟩
    | slot i k => exact ⟨p1.1, F1, T1, o1, t1, p1.2, d1, e1⟩
  | view i k =>
    obtain ⟨q, p1⟩ := h
    cases r2 with
    | val k2 =>
      obtain ⟨F2, T2, o2, t2, p2, d2, e2⟩ := p1
      exact ⟨F2, T2, o2, t2, ⟨q, p2⟩, d2, e2⟩
    | view i k => exact ⟨p1.1, q, p1.2⟩
    | slot i k => exact ⟨p1.1, q, p1.2⟩
  | slot i k =>
    obtain ⟨q, p1⟩ := h
    cases r2 with
    | val k2 =>
      obtain ⟨F2, T2, o2, t2, p2, d2, e2⟩ := p1
      exact ⟨F2, T2, o2, t2, ⟨q, p2⟩, d2, e2⟩
    | view i k => exact ⟨p1.1, q, p1.2⟩
    | slot i k => exact ⟨p1.1, q, p1.2⟩
/-- the rest of a list changed -/
theorem PendAll.rest {r : Rk} {rs rs2 : List Rk} {v : V} {vs vs2 : List V} {u : U} {us us2 : List U} (k : ∀ T, PendAll K FM md A H A' G' H' σ s' rs vs us T → PendAll K FM md A H A' G' H' σ s' rs2 vs2 us2 T) {T : Fp} (h : PendAll K FM md A H A' G' H' σ s' (r :: rs) (v :: vs) (u :: us) T) : PendAll K FM md A H A' G' H' σ s' (r :: rs2) (v :: vs2) (u :: us2) T := by
  cases r with
  | val k1 =>
    obtain ⟨F1, T1, o1, t1, p1, d1, e1⟩ := h
    exact ⟨F1, T1, o1, t1, k _ p1, d1, e1⟩
  | view i k1 => exact ⟨h.1, k _ h.2⟩
  | slot i k1 => exact ⟨h.1, k _ h.2⟩
theorem PendAll.pull : ∀ {n : Nat} {rs : List Rk} {vs : List V} {us : List U} {T : Fp} {r : Rk}, PendAll K FM md A H A' G' H' σ s' rs vs us T → rs[n]? = some r → ∃ v u, vs[n]? = some v ∧ us[n]? = some u ∧ PendAll K FM md A H A' G' H' σ s' (r :: rs.eraseIdx n) (v :: vs.eraseIdx n) (u :: us.eraseIdx n) T
  | 0, r :: rs, v :: vs, u :: us, T, _, h, e => by cases e; exact ⟨v, u, rfl, rfl, h⟩
  | n + 1, r :: rs, v :: vs, u :: us, T, r2, h, e => by
    have e : rs[n]? = some r2 := by simpa using e
    have hl := h.len
    simp only [List.length_cons] at hl
    have hn := (List.getElem?_eq_some_iff.mp e).1
    obtain ⟨v2, e2⟩ : ∃ v2, vs[n]? = some v2 := ⟨_, List.getElem?_eq_getElem (by omega)⟩
    obtain ⟨u2, e3⟩ : ∃ u2, us[n]? = some u2 := ⟨_, List.getElem?_eq_getElem (by omega)⟩
    refine ⟨v2, u2, by simpa using e2, by simpa using e3, ?_⟩
    have step := PendAll.rest (rs2 := r2 :: rs.eraseIdx n) (vs2 := v2 :: vs.eraseIdx n) (us2 := u2 :: us.eraseIdx n) (fun T p => by
      obtain ⟨v3, u3, e4, e5, p2⟩ := PendAll.pull p e
      rw [e2] at e4; cases e4
      rw [e3] at e5; cases e5
      exact p2) h
    simpa using step.swap2
  | _, [], [], [], _, _, _, e => by simp at e
  | _, [], _ :: _, _, _, _, h, _ => h.elim
  | _, [], [], _ :: _, _, _, h, _ => h.elim
  | _, .val _ :: _, [], _, _, _, h, _ => h.elim
  | _, .view _ _ :: _, [], _, _, _, h, _ => h.elim
  | _, .slot _ _ :: _, [], _, _, _, h, _ => h.elim
  | _, .val _ :: _, _ :: _, [], _, _, h, _ => h.elim
  | _, .view _ _ :: _, _ :: _, [], _, _, h, _ => h.elim
  | _, .slot _ _ :: _, _ :: _, [], _, _, h, _ => h.elim
theorem PendAll.perm : ∀ (ns : List Nat) {rs : List Rk} {vs : List V} {us : List U} {T : Fp}, PendAll K FM md A H A' G' H' σ s' rs vs us T → PendAll K FM md A H A' G' H' σ s' (permF ns rs) (permF ns vs) (permF ns us) T
  | [], _, _, _, _, h => h
  | n :: ns, rs, vs, us, T, h => by
    unfold permF
    cases e : rs[n]? with
    | none =>
      have hl := h.len
      have hn : rs.length ≤ n := by simpa using e
      rw [show vs[n]? = none by simp; omega, show us[n]? = none by simp; omega]
      exact h
    | some r =>
      obtain ⟨v, u, e2, e3, p⟩ := h.pull e
      rw [e2, e3]
      exact PendAll.rest (fun T p => PendAll.perm ns p) p
end
def permM (ns : List Nat) (ms : Mo (List U)) : Mo (List U) := .bind ms fun us => .pure (permF ns us)
section
variable {X : Cx}
def SK (X : Cx) (kws : List Keyword) : TA := fun σ H Q => ∀ (pos : Pos) (pins : List (Addr × Obj)) (s : Shared), Inv X pins σ H s → wpAny (model X.prog X.w) X.A (evalAll ((backToKw pos (keywordEach kws X.env)).map (·.2))) (AP X pins σ Q) X.xe s
theorem pk_sk {kws : List Keyword} : L2.PK X kws (SK X kws) := ⟨fun pos pins s _ _ _ I h => h pos pins s I⟩
theorem SK.of {kws : List Keyword} {t : TA} {σ : L2.St} {H : Hp} {Q : List V → Hp → Prop} (h : L2.PK X kws t) (q : t σ H Q) : SK X kws σ H Q := fun pos pins s I => h.run pos pins s σ H Q I q
theorem SK.mono {kws : List Keyword} {σ : L2.St} {H : Hp} {Q Q2 : List V → Hp → Prop} (h : SK X kws σ H Q) (k : ∀ zs H1, Q zs H1 → Q2 zs H1) : SK X kws σ H Q2 := fun pos pins s I => wpAny_mono (h pos pins s I) (fun us s' ⟨xs, H', a, b, q⟩ => ⟨xs, H', a, b, k _ _ q⟩) fun _ _ e => e
theorem SA.mono {es : List Expr} {σ : L2.St} {H : Hp} {Q Q2 : List V → Hp → Prop} (h : SA X es σ H Q) (k : ∀ zs H1, Q zs H1 → Q2 zs H1) : SA X es σ H Q2 := fun pos pins s I => wpAny_mono (h pos pins s I) (fun us s' ⟨xs, H', a, b, q⟩ => ⟨xs, H', a, b, k _ _ q⟩) fun _ _ e => e
theorem SE.mono {e : Expr} {σ : L2.St} {H : Hp} {Q Q2 : VK} (h : SE X e σ H Q) (k : ∀ x H1, Q x H1 → Q2 x H1) : SE X e σ H Q2 := fun pins s I => wpAny_mono (h pins s I) (fun u s' ⟨x, H', a, b, q⟩ => ⟨x, H', a, b, k _ _ q⟩) fun _ _ e => e
/-- the names alone, how many -/
def SKn (X : Cx) (kws : List Keyword) : TA := fun σ H Q => SK X kws σ H fun zs H2 => zs.length = kws.length ∧ Q zs H2
end
section
variable {C : Ct} {Γ Γ1 Γ2 : List Mk} {a : Expr} {es : List Expr} {kws : List Keyword} {md md2 : List Nat} {ra : Rk} {rs : List Rk} {ma : Mo U} {ms : Mo (List U)} {t t2 : TA} {nm : Option Str} {kp : Pos}
theorem GJ.imp (h : GJ C Γ t ms md rs Γ1) (k : ∀ σ H Q, t σ H Q → t2 σ H Q) : GJ C Γ t2 ms md rs Γ1 := ⟨h.1, fun B A G H σ s hB at_ Q q => k σ H Q (h.2 B A G H σ s hB at_ Q q)⟩
theorem knil_ : GJ C Γ (SKn C.X []) nilM [] [] Γ := gnil_.imp fun σ H Q q => SK.of (Q := fun zs H2 => zs.length = 0 ∧ Q zs H2) pk_nil ⟨rfl, q⟩
theorem kcons_ (h : EJ C Γ a ma md ra Γ1) (k : GJ C Γ1 (SKn C.X kws) ms md2 rs Γ2) (ho : ra.off md2 = true := by rfl) : GJ C Γ (SKn C.X (⟨nm, a, kp⟩ :: kws)) (consM ma ms) (md ++ md2) (ra :: rs) Γ2 := (gcons_ h k ho).imp fun σ H Q q =>
  SK.of (pk_cons pe_se pk_sk) (SE.mono q fun x H' k => SK.mono k fun zs H1 k => ⟨by simp [k.1], k.2⟩)
theorem perm_ (ns : List Nat) (h : GJ C Γ t ms md rs Γ1) : GJ C Γ (fun σ H Q => t σ H fun vs H1 => Q (permF ns vs) H1) (permM ns ms) md (permF ns rs) Γ1 := ⟨h.1, fun B A G H σ s hB at_ Q q =>
  h.2 B A G H σ s hB at_ _ (wp_mono (wp_bind.mp q) (fun us s1 q1 vs A1 G1 H1 T at1 st1 p1 => q1 (permF ns vs) A1 G1 H1 T at1 st1 (p1.perm ns)) fun _ _ e => e)⟩
end
/-- n by place, the others by these names -/
abbrev KwB (K : PySem.W.Frag) (fd : FuncData) (ps : List Str) (n : Nat) (ks : List Str) (ns : List Nat) : Prop := KBn K fd ps n ks (fun us ws => permF ns (us ++ ws)) (fun vs zs => permF ns (vs ++ zs))
theorem kwB_mk {K : PySem.W.Frag} {x qual : Str} {st : Stmt} {f : Addr} {fd : FuncData} {ps : List Str} {n : Nat} {ks : List Str} {ns : List Nat} (F : Fun K x qual st f fd)
    (h : ∀ (kV doc pm : Value) (an : Option Addr) (cdv ct : Value) (us ws : List Value), us.length = n → ws.length = ks.length → bindArgs (PySem.W.fnOf x qual (defArgs st) (defBody st) (defScope st) .none kV doc pm an cdv ct) ⟨us, ks.zip ws⟩ = pure (ps.zip (permF ns (us ++ ws)))) : KwB K fd ps n ks ns := by
  obtain ⟨oc, od, kV, doc, pm, an, cdv, ct, osl, rfl, lk, hcd⟩ := F.ex
  exact ⟨fun s us ws _ h1 h2 => .of_eq (h kV doc pm an cdv ct us ws h1 h2), fun r1 r2 => permF_vals ns (r1.append r2)⟩
section
variable {X : Cx} {CX : CXT} {k n : Nat} {f C : Addr} {fd : FuncData} {ps ks : List Str} {sp : Sp} {E : L2.St → XK} {x : Str} {p pos : Pos} {e : Expr} {es : List Expr} {kws : List Keyword} {ns : List Nat} {w : Env1} {g : List Value → List Value → List Value} {gV : List V → List V → List V}
theorem run_kw {pins : List (Addr × Obj)} {σ : L2.St} {H : Hp} {s : Shared} {Q : VK} {us ws : List Value} {vs zs : List V} (F : FnG X.prog X.w X.K X.mg X.base CX k f fd ps sp) (hr : RoomG k X.A) (hb : KBn X.K fd ps n ks g gV) (hx : PassesAt CX X σ (E σ))
    (I : Inv X pins σ H s) (r : Vals vs us) (rz : Vals zs ws) (l1 : vs.length = n) (l2 : zs.length = ks.length) (h : sp (gV vs zs) H Q (E σ)) : wpAny (model X.prog X.w) X.A (call (.ref f) us (ks.zip ws)) (EP X pins σ Q) X.xe s := by
  refine wpAny_call (codeAny_mono (F.run X.A X.stack s H ⟨us, ks.zip ws⟩ (g us ws) (gV vs zs) Q (E σ) hr I.env0 (hb.to s us ws I.kIn (r.length.symm.trans l1) (rz.length.symm.trans l2)) (hb.rel r rz) h) fun r s' hq => ?_)
  cases r with
  | error e => exact hx pins H s e s' I hq
  | ok fl => cases fl <;> first | exact I.after hq | exact False.elim hq
theorem rule_kw0 (tk : Takes X w.W) (F : FnG X.prog X.w X.K X.mg X.base (L2.CX X.prog X.w) k f fd ps sp) (hr : RoomG k X.A) (hm : X.mg x = some (Value.ref f)) (hk : PySem.W.keepIn X.K (Value.ref f) = true) (hb : KwB X.K fd ps 0 ks ns) (hg : Gl X x) (hdb : (x == ("__debug__" : Str)) = false)
    (hl : kws.length = ks.length) (hall : (backToKw pos (keywordEach kws X.env)).all (·.1.isSome) = true) (hks : (backToKw pos (keywordEach kws X.env)).filterMap (·.1) = ks)
    (hpl : ((backTo pos (starEach [] X.env)).any (·.1) || (backToKw pos (keywordEach kws X.env)).any (·.1.isNone)) = false) :
    ∀ σ H (Q : VK), SKn X kws σ H (fun vs H1 => sp (permF ns vs) H1 Q fun c d H' => w.W c d σ H') → SE X (.Call (.Name x p) [] kws pos) σ H Q := fun σ H Q h pins s I => by
  refine wpAny_Call_Name_kw (ld_glob I hg hm ?_ hdb)
  refine PySem.W.callWith_KW0 (h₀ := X.base) I.ok.mod.kin hk hall ?_ hpl
  refine thn (h pos pins s I) fun ws s2 ⟨zs, H2, I2, rz, l2, q2⟩ => ⟨I2.kIn, ?_⟩
  rw [hks]
  exact run_kw (us := []) (vs := []) (E := fun σ c d H' => w.W c d σ H') F hr hb (passAt tk σ) I2 .nil rz rfl (l2.trans hl) q2
end
section
variable {C : Ct} {Γ Γ1 : List Mk} {e : Expr} {es : List Expr} {kws : List Keyword} {md : List Nat} {rs : List Rk} {ms : Mo (List U)} {sg : Sig} {fn : Fn} {x cn : Str} {p pos : Pos} {k n : Nat} {kr : Mk} {f : Addr} {fd : FuncData} {ps ks : List Str}
theorem fnk0_ (ns : List Nat) (tk : Takes C.X C.W) (F : FnG C.X.prog C.X.w C.X.K C.X.mg C.X.base (L2.CX C.X.prog C.X.w) k f fd ps (SpOf C.X.K C.FM sg fn)) (hr : RoomG k C.X.A) (hm : C.X.mg x = some (Value.ref f)) (hk : PySem.W.keepIn C.X.K (Value.ref f) = true) (hb : KwB C.X.K fd ps 0 ks ns)
    (ha : GJ C Γ (SKn C.X kws) ms md rs Γ1) (L : LL) (hL : callB (permF ns rs) sg L Γ1 = true := by rfl) (hg : Gl C.X x := by rfl) (hdb : (x == ("__debug__" : Str)) = false := by decide) (hl : kws.length = ks.length := by rfl)
    (hall : (backToKw pos (keywordEach kws C.X.env)).all (·.1.isSome) = true := by rfl) (hks : (backToKw pos (keywordEach kws C.X.env)).filterMap (·.1) = ks := by rfl)
    (hpl : ((backTo pos (starEach [] C.X.env)).any (·.1) || (backToKw pos (keywordEach kws C.X.env)).any (·.1.isNone)) = false := by rfl) (hret : sg.ret = kr := by rfl) :
    EJ C Γ (.Call (.Name x p) [] kws pos) (callM fn L (permM ns ms)) (md ++ L.map fun t => t.2.2) (.val kr) Γ1 := hret ▸ call_ (rule_kw0 (w := ⟨C.W, clsAt C.X.K⟩) tk F hr hm hk hb hg hdb hl hall hks hpl) (perm_ ns ha) L hL
end
section
variable {X : Cx} {CX : CXT} {k n : Nat} {f C : Addr} {fd : FuncData} {ps ks : List Str} {sp : Sp} {mth : Str} {pos apos : Pos} {o : Expr} {kws : List Keyword} {ns : List Nat} {w : Env1}
/-- o.m(k = v, ..) -/
theorem rule_mkw0 {pl : Sem Bool} (tk : Takes X w.W) (c : Cls X.K C) (hm : Meth X.K C mth f) (F : FnG X.prog X.w X.K X.mg X.base (L2.CX X.prog X.w) k f fd ps sp) (hr : RoomG k X.A) (hb : KwB X.K fd ps 1 ks (0 :: ns))
    (hl : kws.length = ks.length) (hall : (backToKw pos (keywordEach kws X.env)).all (·.1.isSome) = true) (hks : (backToKw pos (keywordEach kws X.env)).filterMap (·.1) = ks)
    (hpl : ((backTo pos (starEach [] X.env)).any (·.1) || (backToKw pos (keywordEach kws X.env)).any (·.1.isNone)) = false)
    (h3 : eval (.Call (.Attribute o mth apos) [] kws pos) X.env = (do
      let ov ← eval o X.env
      standAt apos.atName
      let (f, first) ← holding [ov] (getMethod ov mth pl)
      callWith pos f first (backTo pos (starEach [] X.env)) (backToKw pos (keywordEach kws X.env)))) :
    ∀ σ H (Q : VK), tRecv X C mth o (fun σ H Q => SKn X kws σ H fun vs H1 => Q (permF ns vs) H1) σ H (fun vs H1 => sp vs H1 Q fun c d H' => w.W c d σ H') → SE X (.Call (.Attribute o mth apos) [] kws pos) σ H Q := fun σ H Q h pins s I => by
  apply PySem.W.methodCall_KW (pl := pl) (thn (h pins s I) fun u s1 hh => ?_) h3
  obtain ⟨x, H1, I1, rx, a, dx, fs, ex, ea, l, q⟩ := hh
  subst ex
  have eu : u = Value.ref a := rx
  subst eu
  apply getmeth_ok I1 ea c hm l
  refine PySem.W.callWith_KW0 (h₀ := X.base) (first := [Value.ref a]) I1.ok.mod.kin hm.kp hall ?_ hpl
  refine thn (q pos pins s1 I1) fun ws s2 ⟨zs, H2, I2, rz, l2, q2⟩ => ⟨I2.kIn, ?_⟩
  rw [hks]
  exact run_kw (us := [Value.ref a]) (vs := [V.ref a]) (E := fun σ c d H' => w.W c d σ H') F hr hb (passAt tk σ) I2 (.cons rfl .nil) rz rfl (l2.trans hl) q2
end
section
variable {C : Ct} {Γ Γ1 Γ2 : List Mk} {o : Expr} {kws : List Keyword} {md md2 : List Nat} {r : Rk} {rs : List Rk} {mo : Mo U} {ms : Mo (List U)} {sg : Sig} {fn : Fn} {cn mth : Str} {pos apos : Pos} {k : Nat} {kr : Mk} {f : Addr} {fd : FuncData} {ps ks : List Str}
theorem mek0_ {pl : Sem Bool} (ns : List Nat) (tk : Takes C.X C.W) (c : Cls C.X.K (clsAt C.X.K cn)) (hm : Meth C.X.K (clsAt C.X.K cn) mth f) (F : FnG C.X.prog C.X.w C.X.K C.X.mg C.X.base (L2.CX C.X.prog C.X.w) k f fd ps (SpOf C.X.K C.FM sg fn)) (hr : RoomG k C.X.A) (hb : KwB C.X.K fd ps 1 ks (0 :: ns))
    (ho : EJ C Γ o mo md r Γ1) (ha : GJ C Γ1 (SKn C.X kws) ms md2 rs Γ2) (L : LL) (hof : r.off md2 = true := by rfl) (hL : callB (r :: permF ns rs) sg L Γ2 = true := by rfl) (hl : kws.length = ks.length := by rfl)
    (hall : (backToKw pos (keywordEach kws C.X.env)).all (·.1.isSome) = true := by rfl) (hks : (backToKw pos (keywordEach kws C.X.env)).filterMap (·.1) = ks := by rfl)
    (hpl : ((backTo pos (starEach [] C.X.env)).any (·.1) || (backToKw pos (keywordEach kws C.X.env)).any (·.1.isNone)) = false := by rfl)
    (h3 : eval (.Call (.Attribute o mth apos) [] kws pos) C.X.env = (do
      let ov ← eval o C.X.env
      standAt apos.atName
      let (f, first) ← holding [ov] (getMethod ov mth pl)
      callWith pos f first (backTo pos (starEach [] C.X.env)) (backToKw pos (keywordEach kws C.X.env))) := by rfl) (hret : sg.ret = kr := by rfl) :
    EJ C Γ (.Call (.Attribute o mth apos) [] kws pos) (callM fn L (recvM cn mth mo (permM ns ms))) ((md ++ md2) ++ L.map fun t => t.2.2) (.val kr) Γ2 := hret ▸ call_ (rule_mkw0 (w := ⟨C.W, clsAt C.X.K⟩) tk c hm F hr hb hl hall hks hpl h3) (recv_ ho (perm_ ns ha) hof) L hL
end
section
variable {α : Type} {a b c d : α} {l : List α} {ns : List Nat}
theorem permF_e : permF [] l = l := rfl
theorem permF_0 : permF (0 :: ns) (a :: l) = a :: permF ns l := rfl
theorem permF_1 : permF (1 :: ns) (a :: b :: l) = b :: permF ns (a :: l) := rfl
theorem permF_2 : permF (2 :: ns) (a :: b :: c :: l) = c :: permF ns (a :: b :: l) := rfl
theorem permF_3 : permF (3 :: ns) (a :: b :: c :: d :: l) = d :: permF ns (a :: b :: c :: l) := rfl
end
theorem ok_permM {ns : List Nat} {ms : Mo (List U)} {s : S} {P : List U → S → Prop} : Ok (permM ns ms s) P ↔ Ok (ms s) fun us s' => P (permF ns us) s' := by unfold permM; simp
end V4
namespace V4
open PySem PySem.Spec PyProof.Rows L2 L3 RZ
section
variable {P : Program} {wd : World} {K : PySem.W.Frag} {mg : Str → Option Value} {base : Heap} {FM : FMap} {x qual : Str} {st : Stmt} {f : Addr} {fd : FuncData} {N ps : List Str} {k : Nat} {sg : Sig} {m : Mo (Option U)} {md : List Nat} {Γ' : List Mk} {sp : Sp} {cx0 : CXT}
abbrev cxN (P : Program) (wd : World) (K : PySem.W.Frag) (mg : Str → Option Value) (base : Heap) (N : List Str) (qual : Str) (st : Stmt) (f : Addr) (cdv : Value) (A : Around) (outer : List PySem.Env) (s : Shared) (H : Hp) (E : XK) : Cx := cxOf (L2N.CX P wd) P wd K mg base N qual (defScope st) f cdv A outer s H E
abbrev bodyCN (P : Program) (wd : World) (K : PySem.W.Frag) (mg : Str → Option Value) (base : Heap) (N : List Str) (qual : Str) (st : Stmt) (f : Addr) (cdv : Value) (A : Around) (outer : List PySem.Env) (s : Shared) (H : Hp) (E : XK) (FM : FMap) (sg : Sig) : Ct :=
  ⟨cxN P wd K mg base N qual st f cdv A outer s H E, FM, fun c d _ H => E c d H, sg.lents, fun _ => True⟩
theorem okC (F : Fun K x qual st f fd) (S : FnScope N ps (defScope st)) (len : ∀ vs H Q E, sp vs H Q E → vs.length = ps.length)
    (hbody : ∀ (cdv : Value) (A : Around) (outer : List PySem.Env) (s : Shared) (H : Hp) (vs : List V) (Q : VK) (E : XK), RoomG k (A.deeper (envOfC qual (defScope st) s.heap.objs.size f cdv)) → sp vs H Q E →
      ∃ t, PSs (cxOf cx0 P wd K mg base N qual (defScope st) f cdv A outer s H E) (defBody st) t ∧ t { nx := fun _ H' => Q .non H', rt := Q } (start N vs) H) : FnG P wd K mg base cx0 (k + 1) f fd ps sp := by
  obtain ⟨oc, od, kV, doc, pm, an, cdv, ct, osl, rfl, lk, hcd⟩ := F.ex
  exact fn_ofG lk hcd S len fun A outer s H vs Q E hr hsp => hbody cdv A outer s H vs Q E hr hsp
theorem fn_okN (F : Fun K x qual st f fd) (Sc : FnScope N ps (defScope st)) (hlen : sg.ps.length = ps.length) (hend : (lok sg.lentM Γ' && decide (sg.ret = .f)) = true ∨ ∀ us, ∀ s', m us ≠ .ok none s')
    (hb : ∀ (cdv : Value) (A : Around) (outer : List PySem.Env) (s : Shared) (H : Hp) (E : XK), RoomG k (cxN P wd K mg base N qual st f cdv A outer s H E).A →
      SsJ (bodyCN P wd K mg base N qual st f cdv A outer s H E FM sg) ⟨sg.ret, sg.lentM⟩ (sg.Γ (N.length - ps.length)) (defBody st) m md Γ') :
    FnG P wd K mg base (L2N.CX P wd) (k + 1) f fd ps (SpOf K FM sg (runF sg (N.length - ps.length) m)) := by
  refine okC F Sc (fun vs H Q E h => ?_) (fun cdv A outer s H vs Q E hr h => ?_)
  · obtain ⟨us, G, A, en, _⟩ := h
    exact en.lv.trans hlen
  · obtain ⟨us, G, A0, en, q⟩ := h
    refine ⟨_, pss_sb, ?_⟩
    let B : Bs := ⟨fun a => ∃ i, A0 i a, G, H, sg.lents.filterMap fun i => (vs[i]?).map fun v => (i, v)⟩
    have hB : ∀ p ∈ B.pin, p.1 ∈ sg.lents ∧ vs[p.1]? = some p.2 := fun p hp => by
      obtain ⟨i, hi, e⟩ := List.mem_filterMap.mp hp
      obtain ⟨v, ev, e2⟩ := Option.map_eq_some_iff.mp e
      cases e2
      exact ⟨hi, ev⟩
    have hst : (start N vs) = vs.map some ++ List.replicate (N.length - ps.length) none := by
      rw [start_eq, en.lv.trans hlen]
    have lv := en.lv
    have lu := en.lu
    have low : ∀ i, i < sg.ps.length → (vs.map some ++ List.replicate (N.length - ps.length) none)[i]? = vs[i]?.map some ∧ (us ++ List.replicate (N.length - ps.length) U.none)[i]? = us[i]? ∧ (sg.Γ (N.length - ps.length))[i]? = sg.ps[i]?.map (·.1) := fun i hi => by
      refine ⟨?_, ?_, ?_⟩
      · rw [List.getElem?_append_left (by simp; omega), List.getElem?_map]
      · rw [List.getElem?_append_left (by omega)]
      · unfold Sig.Γ; rw [List.getElem?_append_left (by simp; omega), List.getElem?_map]
    have at0 : At K FM B (sg.Γ (N.length - ps.length)) A0 G H (start N vs) (us ++ List.replicate (N.length - ps.length) U.none) := by
      rw [hst]
      refine ⟨by simp [Sig.Γ, lv], by simp [Sig.Γ, lu], en.sub, .refl, fun i mk e hn => ?_, fun i a z => ?_, en.dis, fun p hp => ?_, en.glk⟩
      · by_cases hi : i < sg.ps.length
        · obtain ⟨e1, e2, e3⟩ := low i hi
          rw [e3] at e
          obtain ⟨p, hp, rfl⟩ := Option.map_eq_some_iff.mp e
          have hv : vs[i]? = some vs[i] := List.getElem?_eq_getElem (by omega)
          have hu : us[i]? = some us[i] := List.getElem?_eq_getElem (by omega)
          exact ⟨vs[i], us[i], by rw [e1, hv]; rfl, by rw [e2, hu], en.own i p _ _ hp hv hu⟩
        · unfold Sig.Γ at e
          rw [List.getElem?_append_right (by simp; omega), List.getElem?_replicate] at e
          split at e
          · cases e; exact absurd rfl hn
          · cases e
      · obtain ⟨hg, hi⟩ := en.g i a z
        have hp : sg.ps[i]? = some sg.ps[i] := List.getElem?_eq_getElem hi
        have o := en.own i _ _ _ hp (List.getElem?_eq_getElem (by omega)) (List.getElem?_eq_getElem (by omega))
        exact ⟨hg, o.live a z, .inl ⟨i, z⟩⟩
      · obtain ⟨h1, h2⟩ := hB p hp
        have hi : p.1 < vs.length := (List.getElem?_eq_some_iff.mp h2).1
        rw [(low p.1 (by omega)).1, h2]; rfl
    have fin : ∀ {Γ2 : List Mk} {A' : Foot} {G' H' : Hp} {σ' : L2.St} {s' : S} {r : U} {v : V} {F : Fp}, At K FM B Γ2 A' G' H' σ' s' → (∀ p ∈ sg.lentM, Γ2[p.1]? = some p.2) → Own K FM G' H' sg.ret v r F → (∀ a, F a → G' a = none ∧ (∀ i, ¬ A' i a) ∧ (B.M a ∨ B.H0 a = none)) →
        ExiOk K FM sg vs A0 G H r (sg.lents.map fun i => s'.getD i .none) v (fun i a => A' i a ∧ i ∈ sg.lents) F G' H' := fun {Γ2 A' G' H' σ' s' r v F} a hl o hF => by
      refine ⟨a.sub, a.glk, a.post, fun n i e => ?_, fun i b z => ⟨(a.own i b z.1).1, (a.own i b z.1).2.2⟩, fun i j b z w => a.dis i j b z.1 w.1, o, fun b z => ⟨(hF b z).1, fun i w => (hF b z).2.1 i w.1, (hF b z).2.2⟩⟩
      obtain ⟨kk, hk⟩ := Sig.lents_get e
      have him : i ∈ sg.lents := List.mem_of_getElem? e
      have hi : i < sg.ps.length := (List.getElem?_eq_some_iff.mp hk).1
      have hv : vs[i]? = some vs[i] := List.getElem?_eq_getElem (by omega)
      have hu : us[i]? = some us[i] := List.getElem?_eq_getElem (by omega)
      have hpin := a.pin (i, vs[i]) (List.mem_filterMap.mpr ⟨i, him, by rw [hv]; rfl⟩)
      have hne : kk ≠ .n := by
        rintro rfl
        exact own_n (en.own i _ _ _ hk hv hu)
      obtain ⟨v', u', e1, e2, o'⟩ := a.slot i kk (hl _ (Sig.lentM_mem him hk)) hne
      rw [hpin] at e1
      cases e1
      refine ⟨kk, _, u', hk, hv, ?_, o'.fp fun b => ⟨fun z => z.1, fun z => ⟨z, him⟩⟩⟩
      rw [List.getElem?_map, e]
      show some (s'.getD i .none) = _
      rw [List.getD_eq_getElem?_getD, e2]; rfl
    have ent := (hb cdv A outer s H E hr).2 B A0 G H (start N vs) _ ⟨fun p hp => (hB p hp).1, trivial⟩ at0 { nx := fun _ H' => Q .non H', rt := Q }
    refine ent ?_
    unfold runF at q
    cases hm : m (us ++ List.replicate (N.length - ps.length) U.none) with
    | stuck => rw [hm] at q; exact q.elim
    | exc er s' =>
      rw [hm] at q
      intro c d σ' G' H' xs _ _ eo
      exact q c d G' H' xs.sub xs.nd ⟨xs.ex, fun b o e hn => xs.keep b o e fun i _ z => hn ⟨i, z⟩⟩ eo
    | ok o s' =>
      rw [hm] at q
      cases o with
      | some r => exact fun v F Γ2 A' G' H' σ' a hl o hF => q v _ F G' H' (fin a hl o hF)
      | none =>
        intro A' G' H' σ' a st hs
        rcases hend with he | he
        · simp only [Bool.and_eq_true, decide_eq_true_eq] at he
          exact q .non _ (fun _ => False) G' H' (fin a (fun p hp => by simpa using List.all_eq_true.mp he.1 p hp) (by rw [he.2]; exact .f .non fun _ z => z) fun _ z => z.elim)
        · exact absurd hm (he _ _)
theorem tk0N {cdv : Value} {A : Around} {outer : List PySem.Env} {s : Shared} {H : Hp} {E : XK} : L2N.Takes (bodyCN P wd K mg base N qual st f cdv A outer s H E FM sg).X (bodyCN P wd K mg base N qual st f cdv A outer s H E FM sg).W := L2N.takes_of rfl rfl rfl rfl
end
theorem takes_noN {X : Cx} : L2N.Takes X fun _ _ _ _ => False := fun u s' ⟨_, _, _, _, _, _, _, _, _, _, _, _, _, _, _, _, z⟩ => z.elim
section
variable {X : Cx} {w : Env1} {k : Nat} {f C : Addr} {fd : FuncData} {ps : List Str} {x mth : Str} {p pos apos : Pos} {e o : Expr} {es : List Expr} {sp : Sp}
theorem rule_fnN {sp : Sp} (tk : L2N.Takes X w.W) (F : FnG X.prog X.w X.K X.mg X.base (L2N.CX X.prog X.w) k f fd ps sp) (hr : RoomG k X.A) (hm : X.mg x = some (Value.ref f)) (hk : PySem.W.keepIn X.K (Value.ref f) = true) (hb : Binds X.K fd ps []) (hg : Gl X x := by rfl) (hdb : (x == ("__debug__" : Str)) = false := by decide)
    (he : starEach (e :: es) X.env = (false, eval e X.env) :: starEach es X.env := by rfl) (hpl : (backTo pos (starEach es X.env)).any (·.1) = false := by rfl) :
    ∀ σ H (Q : VK), SA X (e :: es) σ H (fun vs H1 => sp vs H1 Q fun c d H' => w.W c d σ H') → SE X (.Call (.Name x p) (e :: es) [] pos) σ H Q := fun σ H Q h =>
  SE.of (pe_callG (E := fun σ c d H' => w.W c d σ H') F hr hg hm hk hb (fun σ => L2N.passAt tk σ) pa_sa hdb he hpl) h
theorem rule_mkN (tk : L2N.Takes X w.W) (M : L2.Mk X.K C f) (F : FnG X.prog X.w X.K X.mg X.base (L2N.CX X.prog X.w) k f fd ps sp) (hr : RoomG (k + 1) X.A) (hm : X.mg x = some (.ref C)) (hb : Binds X.K fd ps []) (hg : Gl X x := by rfl) (hdb : (x == ("__debug__" : Str)) = false := by decide)
    (he : starEach (e :: es) X.env = (false, eval e X.env) :: starEach es X.env := by rfl) (hpl : (backTo pos (starEach es X.env)).any (·.1) = false := by rfl) :
    ∀ σ H (Q : VK), SpMk C sp w (SA X (e :: es)) σ H Q → SE X (.Call (.Name x p) (e :: es) [] pos) σ H Q := fun σ H Q h =>
  SE.of (pe_makeS (E := fun σ c d H' => w.W c d σ H') M F hr hg hm hb (fun σ => L2N.passAt tk σ) pa_sa hdb he hpl) h
end
section
variable {C : Ct} {Γ Γ1 Γ2 : List Mk} {e o : Expr} {es : List Expr} {md md2 : List Nat} {r : Rk} {rs : List Rk} {mo : Mo U} {ms : Mo (List U)} {sg : Sig} {fn : Fn} {x mth cn : Str} {p pos apos : Pos} {k : Nat} {kr : Mk} {f : Addr} {fd : FuncData} {ps : List Str}
theorem fn1N_ (tk : L2N.Takes C.X C.W) (F : FnG C.X.prog C.X.w C.X.K C.X.mg C.X.base (L2N.CX C.X.prog C.X.w) k f fd ps (SpOf C.X.K C.FM sg fn)) (hr : RoomG k C.X.A) (hm : C.X.mg x = some (Value.ref f)) (hk : PySem.W.keepIn C.X.K (Value.ref f) = true) (hb : Binds C.X.K fd ps [])
    (ha : GJ C Γ (SA C.X (e :: es)) ms md rs Γ1) (L : LL) (hL : callB rs sg L Γ1 = true := by rfl) (hg : Gl C.X x := by rfl) (hdb : (x == ("__debug__" : Str)) = false := by decide) (he : starEach (e :: es) C.X.env = (false, eval e C.X.env) :: starEach es C.X.env := by rfl) (hpl : (backTo pos (starEach es C.X.env)).any (·.1) = false := by rfl) (hret : sg.ret = kr := by rfl) :
    EJ C Γ (.Call (.Name x p) (e :: es) [] pos) (callM fn L ms) (md ++ L.map fun t => t.2.2) (.val kr) Γ1 := hret ▸ call_ (rule_fnN (w := ⟨C.W, clsAt C.X.K⟩) tk F hr hm hk hb hg hdb he hpl) ha L hL
theorem mk1N_ (tk : L2N.Takes C.X C.W) (M : L2.Mk C.X.K (clsAt C.X.K cn) f) (F : FnG C.X.prog C.X.w C.X.K C.X.mg C.X.base (L2N.CX C.X.prog C.X.w) k f fd ps (SpOf C.X.K C.FM sg fn)) (hr : RoomG (k + 1) C.X.A) (hm : C.X.mg cn = some (.ref (clsAt C.X.K cn))) (hb : Binds C.X.K fd ps [])
    (ha : GJ C Γ (SA C.X (e :: es)) ms md rs Γ1) (hs : decide (sg.ps = (.i cn, true) :: List.replicate rs.length (.f, false)) = true := by rfl) (hret : decide (sg.ret = .f) = true := by rfl) (hrs : rs.all (fun r => match r with | .val .f => true | _ => false) = true := by rfl)
    (hg : Gl C.X cn := by rfl) (hdb : (cn == ("__debug__" : Str)) = false := by decide) (he : starEach (e :: es) C.X.env = (false, eval e C.X.env) :: starEach es C.X.env := by rfl) (hpl : (backTo pos (starEach es C.X.env)).any (·.1) = false := by rfl) :
    EJ C Γ (.Call (.Name cn p) (e :: es) [] pos) (mkM cn fn ms) md (.val (.i cn)) Γ1 := mk_ (fun σ H Q h => rule_mkN (w := ⟨C.W, clsAt C.X.K⟩) tk M F hr hm hb hg hdb he hpl σ H Q h) ha hs hret hrs
end
section
variable {X : Cx} {x m : Str} {j : Nat} {p p2 pos : Pos}
theorem mk_errN (T : ExOwn X.K X.mg x) (hg : Gl X x := by rfl) (hdb : (x == ("__debug__" : Str)) = false := by decide) : L2N.PMk X (.Call (.Name x p) [.Constant (.str m) j p2] [] pos) (fun _ H Q => Q (.ref (clsAt X.K x)) none H) :=
  L2N.pmk_own PySem.F.excBase_ValueError T.q T.g T.k (raises_own T.b T.t) hg hdb
end
section
variable {C : Ct} {R : Rt} {Γ Γ1 Γ2 : List Mk} {e : Expr} {x n cn dn : Str} {c : Value} {body : List Stmt} {pos pos' np rpos : Pos} {md md2 : List Nat} {m mb : Mo (Option U)}
theorem sraiseN_ (hc : C.X.calm = true) (tk : L2N.Takes C.X C.W) (hm : L2N.PMk C.X e fun _ H Q => Q (.ref (clsAt C.X.K cn)) none H) : SJ C R Γ (.Raise (some e) none pos) (raiseM cn) [] Γ := ⟨.refl, fun B A G H σ s hB at_ D q =>
  SS.of (L2N.ps_raise hc tk hm) (q _ none σ G H ⟨Ex.refl _, at_.sub, fun a o e _ => ⟨e, rfl⟩, at_.glk⟩ (fun _ _ => rfl) rfl ⟨rfl, rfl⟩)⟩
/-- try: .. except x: raise d(..) -/
def tryRM (tbl : List (Str × Bool)) (mb : Mo (Option U)) (d : Str) : Mo (Option U) := fun s => match mb s with
  | .ok o s' => .ok o s'
  | .exc er _ => (match tbl.lookup er.cls with
    | some true => .exc ⟨d, none⟩ s
    | some false => .exc er s
    | none => .stuck)
  | .stuck => .stuck
theorem strR_ (tbl : List (Str × Bool)) (hs : C.X.stack = C.X.env :: C.X.outer) (hf : C.X.env.frame = some C.X.env.locals) (tk : Takes C.X C.W) (hc : Names C.X x c)
    (htbl : ∀ cn b, tbl.lookup cn = some b → PySem.W.exmOne C.X.K (.ref (clsAt C.X.K cn)) c = some b)
    (hb : ∀ (W : WX) (pn : List (Addr × Obj)) (xe : Value → Shared → Prop), L2N.Takes (C.X.tr pn xe) W → PassesOwn (model C.X.prog C.X.w) C.X.A C.X.env xe → SsJ (C.tr pn xe W) R Γ body mb md Γ1)
    (hm : ∀ (a : Addr) (oe : Obj) (pn : List (Addr × Obj)), L2N.PMk (L2H.suiteX C.X a ((a, oe) :: pn)) e fun _ H Q => Q (.ref (clsAt C.X.K dn)) none H)
    (Γ' : List Mk) (h1 : wkB Γ1 Γ' = true := by rfl) (ha : agrB md Γ Γ' = true := by rfl) (hpi : C.pn.all (fun j => !md.contains j) = true := by rfl) (hpa : ∀ hd : Option Value, PassesOwnAt (model C.X.prog C.X.w) (C.X.A.mark hd) C.X.A C.X.env C.X.xe := by exact fun hd => L2H.passesAt_of rfl hd) :
    SJ C R Γ (.Try body [.ExceptHandler (some (.Name x np)) none [.Raise (some e) none rpos] pos'] [] [] pos) (tryRM tbl mb dn) md Γ' := ⟨agr_of ha, fun B A G H σ s hB at_ D q => by
  have hpi : ∀ p ∈ B.pin, p.1 ∉ md := fun p h => by simpa using List.all_eq_true.mp hpi p.1 (hB.1 p h)
  refine SS.of (L2H.ps_try_onlyX (tb := fun W D σ H => ∀ (pn : List (Addr × Obj)) (xe : Value → Shared → Prop), L2N.Takes (C.X.tr pn xe) W → PassesOwn (model C.X.prog C.X.w) C.X.A C.X.env xe → SB (C.X.tr pn xe) body D σ H)
    (ts := fun a cls d D σ H => C.W (.ref (clsAt C.X.K dn)) none σ H) hs hf hc hpa tk
    (fun W pn xe tk2 _ po => ⟨fun pins s σ H D I h => h pn xe tk2 po pins s I⟩) (fun a oe cls d pn hz hf tkS hot => pss_one (L2H.ps_raiseH hot tkS (hm a oe pn)))) ?_
  intro pn xe tk2 po
  refine (hb _ pn xe tk2 po).2 B A G H σ s hB at_ D ?_
  unfold tryRM at q
  unfold Out.wp at q ⊢
  cases hm : mb s with
  | stuck => rw [hm] at q; exact q.elim
  | ok o s' =>
    rw [hm] at q
    cases o with
    | none => exact fun A' G' H' σ' a' st hσ => q A' G' H' σ' (a'.weak (wk_of h1)) st hσ
    | some r => exact q
  | exc er s' =>
    rw [hm] at q
    intro cv d σ' G' H' xs hσ' hl' hE
    cases htl : tbl.lookup er.cls with
    | none => simp only [htl] at q
    | some b =>
      simp only [htl] at q
      refine ⟨b, by rw [hE.1]; exact htbl _ _ htl, fun hbt a haN => ?_, fun hbf => ?_⟩
      · subst hbt
        exact q (.ref (clsAt C.X.K dn)) none σ' G' H' xs hσ' hl' ⟨rfl, rfl⟩
      · subst hbf
        exact q cv d σ' G' H' xs hσ' hl' hE⟩
end
end V4
namespace V4
open PySem PySem.Spec PyProof.Rows L2 L3 RZ
end V4
namespace V4
open PySem PySem.Spec PyProof.Rows L2 L3 RZ
end V4
namespace V4
open PySem PySem.Spec PyProof.Rows L2 L3 RZ
def chM3 (f g h : U → U → Option U) (a b c d : Mo U) : Mo Bool := .bind a fun x => .bind b fun y => .bind (.ofOpt (f x y)) fun e => .bind (asB e) fun k => if k = true then .bind c fun z => .bind (.ofOpt (g y z)) fun e2 => .bind (asB e2) fun k2 => if k2 = true then .bind d fun v => .bind (.ofOpt (h z v)) asB else .pure false else .pure false
end V4
namespace V4
open PySem PySem.Spec PyProof.Rows L2 L3 RZ
end V4
namespace V4
open PySem PySem.Spec PyProof.Rows L2 L3 RZ
def pxtM (i : Nat) (pm : Mo (List PK)) (j : Int) : Mo (List PK) := .bind pm fun p s => match s[i]? with
  | some u => match getP (.ix (.int j) :: p) u with
    | some _ => .ok (.ix (.int j) :: p) s
    | none => .stuck
  | none => .stuck
end V4
namespace V4
open PySem PySem.Spec PyProof.Rows L2 L3 RZ
end V4
namespace V4
open PySem PySem.Spec PyProof.Rows L2 L3 RZ
end V4
namespace V4
open PySem PySem.Spec PyProof.Rows L2 L3 RZ
abbrev Ct.nx (C : Ct) : Ct := ⟨C.X.nox, C.FM, fun _ _ _ _ => False, C.pn, C.bp⟩
end V4
namespace V4
open PySem PySem.Spec PyProof.Rows L2 L3 RZ
end V4
namespace RT2
open PySem PySem.Spec PyProof.Rows RT
end RT2
namespace V4
open PySem PySem.Spec PyProof.Rows L2 L3 RZ RT RT2
end V4
namespace V4
open PySem PySem.Spec PyProof.Rows L2 L3 RZ
end V4
namespace PySem.W
open Lean Elab Tactic Meta PySem PySem.Calls PyProof.Rows PyProof.V PySem.Spec
end PySem.W
namespace V4
open PySem PySem.Spec PyProof.Rows L2 L3 RZ
end V4
namespace V4
open PySem PySem.Spec PyProof.Rows L2 L3 RZ
end V4
namespace V4
open PySem PySem.Spec PyProof.Rows L2 L3 RZ
section
variable {C : Ct} {Γ Γ1 : List Mk} {k : Nat} {f : Addr} {fd : FuncData} {ps : List Str} {sg : Sig} {fn : Fn} {x : Str} {p pos : Pos} {e : Expr} {es : List Expr} {ms : Mo (List U)} {md : List Nat} {rs : List Rk} {kr : Mk}
/-- a def as a thing -/
theorem gfn_ {f : Addr} (hm : C.X.mg x = some (Value.ref f)) (hf : clsAt C.X.K x = f) (hg : Gl C.X x := by rfl) (hd : (x == ("__debug__" : Str)) = false := by decide) : EJ C Γ (.Name x pos) (.pure (.fn x)) [] (.val .f) Γ :=
  glob_ (v := .ref f) ⟨_, hm, rfl⟩ (fun G => hf ▸ .fn x) hg hd
end
end V4
namespace V4
open PySem PySem.Spec PyProof.Rows L2 L3 RZ
end V4
namespace V4
open PySem PySem.Spec PyProof.Rows L2 L3 RZ
end V4
namespace L2
open PySem PySem.Spec PyProof.Rows L3
end L2
namespace V4
open PySem PySem.Spec PyProof.Rows L2 L3 RZ
/-- a clause: which classes it takes, the slot of its name, its suite -/
abbrev Cl := List (Str × Bool) × Option Nat × Mo (Option U)
section
variable {C : Ct} {R : Rt} {Γ Γ1 Γ2 Γ' : List Mk} {body : List Stmt} {pos : Pos} {mb : Mo (Option U)} {md mdx : List Nat} {h₀ : ExceptHandler} {hds : List ExceptHandler} {l : List Cl}
def putS (oi : Option Nat) (a : Addr) (σ : L2.St) : L2.St := match oi with | some i => σ.set i (some (V.ref a)) | none => σ
end
section
variable {C : Ct} {R : Rt} {Γ Γ1 Γ2 : List Mk} {a : Expr} {ma mb : Mo U} {md md2 : List Nat} {ra rb : Rk} {p p1 p2 pos pos2 pp : Pos} {y f g : Str} {kt : Nat} {ts : List Expr} {tbl : List (Str × Bool)}
theorem fs_look {K : PySem.W.Frag} {G : Hp} : ∀ {fvs : List (Str × V)} {fs : List (Str × U)} {u : U}, DqFs K G fvs fs → fs.lookup f = some u → ∃ v, fvs.lookup f = some v ∧ Dq K G v u
  | _, [], _, _, h => by cases h
  | _, (x', u') :: fs, u, h, e => by
    cases h with
    | cons hd k =>
      rw [List.lookup_cons] at e ⊢
      cases c : f == x' with
      | true => rw [c] at e; cases e; exact ⟨_, rfl, hd⟩
      | false => rw [c] at e; exact fs_look k e
variable {b : Expr} {cn x q s' : Str} {fI : Addr} {k : Nat} {fd : FuncData}
end
end V4
namespace V4
open PySem PySem.Spec PyProof.Rows L2 L3 RZ
end V4
namespace V4
open PySem PySem.Spec PyProof.Rows L2 L3 RZ
structure RoomQ (k : Nat) (A : Around) : Prop where
  dp : A.depth + 3 * k + 5 < recursionLimit
  un : A.units + 16 * k + 200 < cLine
  gd : A.guards = some []
theorem RoomQ.mono {j k : Nat} {A : Around} (r : RoomQ k A) (h : j ≤ k) : RoomQ j A := ⟨by have := r.dp; omega, by have := r.un; omega, r.gd⟩
theorem RoomQ.deeper {k : Nat} {A : Around} (r : RoomQ (k + 1) A) (env : PySem.Env) : RoomQ k (A.deeper env) :=
  ⟨by have := r.dp; show A.depth + 1 + 3 * k + 5 < _; omega, by have := r.un; show A.units + 3 + 16 * k + 200 < _; omega, r.gd⟩
theorem RoomQ.depth {k : Nat} {A : Around} (r : RoomQ k A) : A.depth < recursionLimit := by have := r.dp; omega
theorem RoomQ.units {k : Nat} {A : Around} (r : RoomQ k A) : A.units + 64 < cLine := by have := r.un; omega
end V4
namespace V4
open PySem PySem.Spec PyProof.Rows L2 L3 RZ
end V4
namespace V4
open PySem PySem.Spec PyProof.Rows L2 L3 RZ
section
variable {C : Ct} {Γ Γ1 : List Mk} {e : Expr} {md : List Nat} {rs : List Rk} {ms : Mo (List U)} {t : TA} {sg : Sig} {f : Fn} {L : LL} {cn : Str}
def mkLM (cn : Str) (f : Fn) (L : LL) (ms : Mo (List U)) : Mo U := .bind ms fun us s => match f (.ins cn [] :: us) with
  | .ok .none (u :: fin) => .ok u (wrL (u :: fin) L s)
  | .ok _ _ => .stuck
  | .exc e _ => .exc e s
  | .stuck => .stuck
end
def uStrI : U → Option U
  | .int i => if i.natAbs.log2 < 1920 ∧ PyData.strOk (toString i) = true then some (.str (toString i)) else none
  | _ => none
theorem pr_strI {K : PySem.W.Frag} : Pr K (dU K) (fun xs H Q => ∃ i, xs = [.int i] ∧ i.natAbs.log2 < 1920 ∧ Q (.str (toString i)) H) (a1 uStrI) := pr1 fun u d e G H v Q ex b q => by
  unfold uStrI at e
  split at e
  · split at e
    · rename_i hz
      cases e
      cases bow_int b
      exact ⟨_, rfl, hz.1, q _ G H (Grow.refl ex) (.str _ hz.2)⟩
    · cases e
  · cases e
theorem repB_ok {K : PySem.W.Frag} {h : Heap} {mg : Str → Option Value} {a b x y : Str} (X : K.In h) (Gn : h.Ns mainGlobals mg) (e : repB K a b x y = true) : ∃ t u, mg a = some (.str x t) ∧ mg b = some (.str y u) ∧ t ≠ 0 ∧ u ≠ 0 ∧ t ≠ u := by
  unfold repB at e
  split at e
  · rename_i x' t y' u h1 h2
    simp only [Bool.and_eq_true, decide_eq_true_eq] at e
    obtain ⟨⟨⟨⟨rfl, rfl⟩, e1⟩, e2⟩, e3⟩ := e
    exact ⟨t, u, PySem.W.mg_of X Gn h1, PySem.W.mg_of X Gn h2, e1, e2, e3⟩
  · cases e
def uRepl (y z : Str) : U → Option U
  | .str x => if x.length + (x.length + 1) * z.length ≤ 16777216 ∧ PyData.strOk (Txt.replace x y z) = true then some (.str (Txt.replace x y z)) else none
  | _ => none
section
variable {C : Ct} {Γ Γ1 : List Mk} {a : Expr} {ma : Mo U} {md : List Nat}
theorem pe_replG {X : Cx} {o : Expr} {to : TE} {g1 g2 y z : Str} {p1 p2 apos pos : Pos} (ho : PE X o to) (hm : ∃ t u, X.mg g1 = some (.str y t) ∧ X.mg g2 = some (.str z u) ∧ t ≠ 0 ∧ u ≠ 0 ∧ t ≠ u) (hg1 : Gl X g1) (hg2 : Gl X g2) (hd1 : (g1 == ("__debug__" : Str)) = false) (hd2 : (g2 == ("__debug__" : Str)) = false) (hyz : (y == z) = false)
    (hst : starEach [.Name g1 p1, .Name g2 p2] X.env = [(false, eval (.Name g1 p1) X.env), (false, eval (.Name g2 p2) X.env)])
    (hbase : attributeBase o "replace" X.env (eval o X.env) = eval o X.env) (hline : (apos.endLine == pos.line) = true) :
    PE X (.Call (.Attribute o "replace" apos) [.Name g1 p1, .Name g2 p2] [] pos) (tM0 (fun x xs H Q => ∃ a, x = .str a ∧ xs = [] ∧ a.length + (a.length + 1) * z.length ≤ 16777216 ∧ Q (.str (Txt.replace a y z)) H) to) := by
  obtain ⟨t1, t2, m1, m2, n1, n2, n3⟩ := hm
  refine ⟨fun pins s σ H Q I h => ?_⟩
  refine PySem.Call_method2 hbase hst hline (thn (ho.run pins s σ H _ I h) fun v s1 ⟨v', H1, I1, r1, ⟨x, e1⟩, a, e2, _, hb, q⟩ => ?_)
  subst e1
  cases e2
  obtain ⟨tx, e2⟩ := r1
  subst e2
  refine ⟨"str", _, PySem.F.plainAttrs_str, PySem.F.slot_str_replace, PySem.F.type_str_replace, typeIs_str _ _ _, (fun _ e => nomatch e), Calls.callWith_builtin rfl (Calls.evalArgs_plain (Calls.spliced_cons ?_))⟩
  refine ld_glob I1 hg1 m1 (Calls.spliced_cons (ld_glob I1 hg2 m2 (Calls.spliced_nil ?_) hd2)) hd1
  exact PySem.SC.replace n1 n2 n3 hyz hb fun t' k => ⟨.str (Txt.replace x y z), H1, I1.tok k, ⟨t', rfl⟩, q⟩
theorem replG_ {g1 g2 y z : Str} {p1 p2 apos pos : Pos} (hm : ∃ t u, C.X.mg g1 = some (.str y t) ∧ C.X.mg g2 = some (.str z u) ∧ t ≠ 0 ∧ u ≠ 0 ∧ t ≠ u) (ha : EJ C Γ a ma md (.val .f) Γ1) (hg1 : Gl C.X g1 := by rfl) (hg2 : Gl C.X g2 := by rfl) (hd1 : (g1 == ("__debug__" : Str)) = false := by decide) (hd2 : (g2 == ("__debug__" : Str)) = false := by decide) (hyz : (y == z) = false := by decide)
    (hst : starEach [.Name g1 p1, .Name g2 p2] C.X.env = [(false, eval (.Name g1 p1) C.X.env), (false, eval (.Name g2 p2) C.X.env)] := by rfl)
    (hbase : attributeBase a "replace" C.X.env (eval a C.X.env) = eval a C.X.env := by rfl) (hline : (apos.endLine == pos.line) = true := by rfl) :
    EJ C Γ (.Call (.Attribute a "replace" apos) [.Name g1 p1, .Name g2 p2] [] pos) (op1M (uRepl y z) ma) md (.val .f) Γ1 :=
  sm0_ (pe_replG pe_se hm hg1 hg2 hd1 hd2 hyz hst hbase hline) (fun u d h => by
    unfold uRepl at h
    split at h
    · rfl
    · cases h) (pr1 fun u d e G H v Q ex b q => by
    unfold uRepl at e
    split at e
    · split at e
      · rename_i hz
        cases e
        obtain ⟨rfl, hok⟩ := bow_str b
        exact ⟨_, rfl, rfl, hz.1, q _ G H (Grow.refl ex) (.str _ hz.2)⟩
      · cases e
    · cases e) ha
end
end V4
namespace V4
open PySem PySem.Spec PyProof.Rows L2 L3 RZ
end V4
namespace V4
open PySem PySem.Spec PyProof.Rows L2 L3 RZ
section
variable {C : Ct} {R : Rt} {Γ Γ1 Γ2 Γ3 : List Mk} {e a b c : Expr} {pos p q : Pos} {x : Str} {md md2 md3 : List Nat} {m ma mb mc : Mo U} {i j : Nat} {k : Mk}
def nolM (m : Mo U) : Mo U := .bind m fun u => if lstU0 u = true then .fail else .pure u
def unpM (i : Nat) (pm : Mo (List PK)) : Mo (List PK) := .bind pm fun p s => match s[i]? with
  | some u0 => match getP p u0 with
    | some u => if lstU0 u = true then .ok p s else .stuck
    | none => .stuck
  | none => .stuck
end
section
variable {i : Nat} {pm : Mo (List PK)} {mb m : Mo U} {ms : Mo (List U)} {s : S}
theorem ok_nolM {P : U → S → Prop} : Ok (nolM m s) P ↔ Ok (m s) fun u s1 => lstU0 u = false ∧ P u s1 := by
  unfold nolM
  simp only [ok_bind]
  refine ⟨fun h => ok_mono h fun u s1 h => ?_, fun h => ok_mono h fun u s1 h => ?_⟩
  · by_cases hf : lstU0 u = true
    · simp only [if_pos hf] at h; exact h.elim
    · simp only [if_neg hf] at h; exact ⟨by simpa using hf, h⟩
  · rw [if_neg (by rw [h.1]; exact Bool.false_ne_true)]; exact h.2
theorem ok_unpM {P : List PK → S → Prop} : Ok (unpM i pm s) P ↔ Ok (pm s) fun p s1 => ∃ u, s1[i]? = some u ∧ ∃ w, getP p u = some w ∧ lstU0 w = true ∧ P p s1 := by
  unfold unpM
  simp only [ok_bind]
  refine ⟨fun h => ok_mono h fun p s1 h => ?_, fun h => ok_mono h fun p s1 h => ?_⟩
  · cases e : s1[i]? with
    | none => simp only [e] at h; exact h.elim
    | some u =>
      simp only [e] at h
      cases e1 : getP p u with
      | none => simp only [e1] at h; exact h.elim
      | some w =>
        simp only [e1] at h
        by_cases hf : lstU0 w = true
        · rw [if_pos hf] at h; exact ⟨u, rfl, w, e1, hf, h⟩
        · rw [if_neg hf] at h; exact h.elim
  · obtain ⟨u, e, w, e1, hf, h⟩ := h
    simp only [e, e1, if_pos hf]
    exact h
theorem ok_pix0 {al : Bool} {P : List PK → S → Prop} : Ok (pixM i (.pure []) mb al s) P ↔ Ok (mb s) fun k s1 => ∃ u, s1[i]? = some u ∧ ∃ w, getK (.ix k) u = some w ∧ P [.ix k] s1 := by
  unfold pixM
  simp only [ok_bind, ok_pure]
  refine ⟨fun h => ok_mono h fun k s1 h => ?_, fun h => ok_mono h fun k s1 h => ?_⟩
  · cases e : s1[i]? with
    | none => simp only [e] at h; exact h.elim
    | some u =>
      simp only [e, getP, Option.bind_some] at h
      cases e1 : getK (.ix k) u with
      | none => simp only [e1] at h; exact h.elim
      | some w => simp only [e1] at h; exact ⟨u, rfl, w, e1, h⟩
  · obtain ⟨u, e, w, e1, h⟩ := h
    simp only [e, getP, Option.bind_some, e1]
    exact h
theorem ok_at1 {k : U} {h : U → Option (U × U)} {P : U → S → Prop} : Ok (atM i [PK.ix k] h s) P ↔ ∃ u0, s[i]? = some u0 ∧ ∃ u1, getK (.ix k) u0 = some u1 ∧ ∃ u' d, h u1 = some (u', d) ∧ ∃ r, setK (.ix k) u0 u' = some r ∧ P d (s.set i r) := by
  unfold atM
  cases e0 : s[i]? with
  | none => exact ⟨False.elim, fun ⟨_, h, _⟩ => by cases h⟩
  | some u0 =>
    simp only [getP, Option.bind_some, Option.some.injEq, exists_eq_left']
    cases e1 : getK (.ix k) u0 with
    | none => exact ⟨False.elim, fun ⟨_, h, _⟩ => by cases h⟩
    | some u1 =>
      simp only [Option.some.injEq, exists_eq_left']
      cases e2 : h u1 with
      | none => exact ⟨False.elim, fun ⟨_, _, h, _⟩ => by cases h⟩
      | some z =>
        obtain ⟨u', d⟩ := z
        simp only [setP, getP, Option.bind_some]
        cases e3 : setK (.ix k) u0 u' with
        | none => exact ⟨False.elim, fun ⟨_, _, h, _, h2, _⟩ => by cases h; rw [e3] at h2; cases h2⟩
        | some r => exact ⟨fun p => ⟨u', d, rfl, r, e3, p⟩, fun ⟨_, _, h, _, h2, p⟩ => by cases h; rw [e3] at h2; cases h2; exact p⟩
theorem ok_mutU {al : Bool} {h : U → List U → Option (U × U)} {P : U → S → Prop} : Ok (mutM i (unpM i (pixM i (.pure []) mb al)) ms h s) P ↔ Ok (mb s) fun k s1 => ∃ u, s1[i]? = some u ∧ ∃ w, getK (.ix k) u = some w ∧ lstU0 w = true ∧ Ok (ms s1) fun us s2 => ∃ u0, s2[i]? = some u0 ∧ ∃ u1, getK (.ix k) u0 = some u1 ∧ ∃ u' d, h u1 us = some (u', d) ∧ ∃ r, setK (.ix k) u0 u' = some r ∧ P d (s2.set i r) := by
  unfold mutM
  simp only [ok_bind, ok_unpM, ok_pix0, ok_at1]
  refine ⟨fun h => ok_mono h fun k s1 h => ?_, fun h => ok_mono h fun k s1 h => ?_⟩
  · obtain ⟨u, e, w, e1, u', e', w', e1', hf, h⟩ := h
    rw [e] at e'
    cases e'
    have e1' : getK (.ix k) u = some w' := e1'
    rw [e1] at e1'
    cases e1'
    exact ⟨u, e, w, e1, hf, h⟩
  · obtain ⟨u, e, w, e1, hf, h⟩ := h
    exact ⟨u, e, w, e1, u, e, w, e1, hf, h⟩
theorem ok_rdU {al : Bool} {P : U → S → Prop} : Ok (rdM i (unpM i (pixM i (.pure []) mb al)) s) P ↔ Ok (mb s) fun k s1 => ∃ u, s1[i]? = some u ∧ ∃ w, getK (.ix k) u = some w ∧ lstU0 w = true ∧ P w s1 := by
  unfold rdM
  simp only [ok_bind, ok_unpM, ok_pix0]
  refine ⟨fun h => ok_mono h fun k s1 h => ?_, fun h => ok_mono h fun k s1 h => ?_⟩
  · obtain ⟨u, e, w, e1, u', e', w', e1', hf, h⟩ := h
    rw [e] at e'
    cases e'
    have e1' : getK (.ix k) u = some w' := e1'
    rw [e1] at e1'
    cases e1'
    have h : Ok (match s1[i]? with | some u => (match getK (.ix k) u with | some w => (.ok w s1 : Out S U) | none => .stuck) | none => .stuck) P := h
    simp only [e, e1] at h
    exact ⟨u, e, w, e1, hf, h⟩
  · obtain ⟨u, e, w, e1, hf, h⟩ := h
    refine ⟨u, e, w, e1, u, e, w, e1, hf, ?_⟩
    show Ok (match s1[i]? with | some u => (match getK (.ix k) u with | some w => (.ok w s1 : Out S U) | none => .stuck) | none => .stuck) P
    simp only [e, e1]
    exact h
end
end V4
namespace V4
open PySem PySem.Spec PyProof.Rows L2 L3 RZ
def vcallM (f : Fn) (ms : Mo (List U)) : Mo U := .bind ms fun us s => match f us with
  | .ok r _ => if flatU r = true then .ok r s else .stuck
  | _ => .stuck
theorem ok_vcall {f : Fn} {ms : Mo (List U)} {s : S} {P : U → S → Prop} : Ok (vcallM f ms s) P ↔ Ok (ms s) fun us s1 => Ok (f us) fun r _ => flatU r = true ∧ P r s1 := by
  unfold vcallM
  simp only [ok_bind]
  refine ⟨fun h => ok_mono h fun us s1 h => ?_, fun h => ok_mono h fun us s1 h => ?_⟩
  · cases e : f us with
    | ok r fin =>
      rw [e] at h
      by_cases hf : flatU r = true
      · simp only [if_pos hf] at h; exact ⟨hf, h⟩
      · simp only [if_neg hf] at h; exact h.elim
    | exc e fin => rw [e] at h; exact h.elim
    | stuck => rw [e] at h; exact h.elim
  · cases e : f us with
    | ok r fin =>
      rw [e] at h
      have h : flatU r = true ∧ P r s1 := h
      simp only [if_pos h.1]
      exact h.2
    | exc e fin => rw [e] at h; exact h.elim
    | stuck => rw [e] at h; exact h.elim
end V4
namespace L2
open PySem PySem.Spec PyProof.Rows
end L2
namespace V4
open PySem PySem.Spec PyProof.Rows L2 L3 RZ
end V4
namespace L2
open PySem PySem.Spec PyProof.Rows V4
def putB (kvs : List (List Key × V)) (k : List Key) (bs : List Addr) (b : Addr) : List Addr := if (kvs.any fun kv => decide (kv.1 = k)) = true then bs else bs ++ [b]
end L2
namespace L2
open PySem PySem.Spec PyProof.Rows V4
end L2
namespace V4
open PySem PySem.Spec PyProof.Rows L2 L3 RZ
section
variable {K : PySem.W.Frag} {FM : FMap} {G H : Hp} {vs : List (List Key × V)} {us : List (List Key × U)} {bs : List Addr} {ks : List Kid} {k : List Key} {v : V} {u : U} {b : Addr}
def AllF (K : PySem.W.Frag) (G : Hp) (ks : List Kid) : Prop := ∀ kid ∈ ks, kid.1 = Mk.f ∧ Dq K G kid.2.1 kid.2.2
theorem KE.marks : ∀ {vs : List (List Key × V)} {us : List (List Key × U)} {bs : List Addr} {ks : List Kid}, KE vs us bs ks → ∀ kid ∈ ks, kid.1 = Mk.f
  | _, _, _, _, .cons h, kid, hk => by
    rcases List.mem_cons.mp hk with rfl | hk
    · rfl
    · rcases List.mem_cons.mp hk with rfl | hk
      · rfl
      · exact KE.marks h kid hk
theorem KE.len : ∀ {vs : List (List Key × V)} {us : List (List Key × U)} {bs : List Addr} {ks : List Kid}, KE vs us bs ks → vs.length = us.length
  | _, _, _, _, .nil => rfl
  | _, _, _, _, .cons h => by simp [KE.len h]
theorem KE.any : ∀ {vs : List (List Key × V)} {us : List (List Key × U)} {bs : List Addr} {ks : List Kid}, KE vs us bs ks → (vs.any fun kv => decide (kv.1 = k)) = us.any fun kv => decide (kv.1 = k)
  | _, _, _, _, .nil => rfl
  | _, _, _, _, .cons h => by rw [List.any_cons, List.any_cons, KE.any h]
theorem KE.repl : ∀ {vs : List (List Key × V)} {us : List (List Key × U)} {bs : List Addr} {ks : List Kid}, KE vs us bs ks → ∃ ks', KE (vs.map fun kv => if kv.1 = k then (kv.1, v) else kv) (us.map fun kv => if kv.1 = k then (kv.1, u) else kv) bs ks' ∧ ∀ kid ∈ ks', kid ∈ ks ∨ kid = (.f, v, u)
  | _, _, _, _, .nil => ⟨[], .nil, fun _ h => nomatch h⟩
  | _, _, _, _, .cons (k := k0) (v := v0) (u := u0) (b := b0) h => by
    obtain ⟨ks', h1, h2⟩ := KE.repl h
    rw [List.map_cons, List.map_cons]
    by_cases c : k0 = k
    · rw [if_pos c, if_pos c]
      refine ⟨_, .cons h1, fun kid hk => ?_⟩
      rcases List.mem_cons.mp hk with rfl | hk
      · exact .inl List.mem_cons_self
      · rcases List.mem_cons.mp hk with rfl | hk
        · exact .inr rfl
        · exact (h2 kid hk).imp (fun h => List.mem_cons_of_mem _ (List.mem_cons_of_mem _ h)) id
    · rw [if_neg c, if_neg c]
      refine ⟨_, .cons h1, fun kid hk => ?_⟩
      rcases List.mem_cons.mp hk with rfl | hk
      · exact .inl List.mem_cons_self
      · rcases List.mem_cons.mp hk with rfl | hk
        · exact .inl (List.mem_cons_of_mem _ List.mem_cons_self)
        · exact (h2 kid hk).imp (fun h => List.mem_cons_of_mem _ (List.mem_cons_of_mem _ h)) id
theorem KE.snoc : ∀ {vs : List (List Key × V)} {us : List (List Key × U)} {bs : List Addr} {ks : List Kid}, KE vs us bs ks → ∃ ks', KE (vs ++ [(k, v)]) (us ++ [(k, u)]) (bs ++ [b]) ks' ∧ ∀ kid ∈ ks', kid ∈ ks ∨ kid = (.f, .ref b, .tuple (k.map keyE)) ∨ kid = (.f, v, u)
  | _, _, _, _, .nil => ⟨_, .cons .nil, fun kid h => by
    rcases List.mem_cons.mp h with rfl | h
    · exact .inr (.inl rfl)
    · exact .inr (.inr (List.mem_singleton.mp h))⟩
  | _, _, _, _, .cons h => by
    obtain ⟨ks', h1, h2⟩ := KE.snoc h
    refine ⟨_, .cons h1, fun kid hk => ?_⟩
    rcases List.mem_cons.mp hk with rfl | hk
    · exact .inl List.mem_cons_self
    · rcases List.mem_cons.mp hk with rfl | hk
      · exact .inl (List.mem_cons_of_mem _ List.mem_cons_self)
      · exact (h2 kid hk).imp (fun h => List.mem_cons_of_mem _ (List.mem_cons_of_mem _ h)) id
theorem KE.put (h : KE vs us bs ks) : ∃ ks', KE (putK vs k v) (putU us k u) (putB vs k bs b) ks' ∧ ∀ kid ∈ ks', kid ∈ ks ∨ kid = (.f, .ref b, .tuple (k.map keyE)) ∨ kid = (.f, v, u) := by
  unfold putK putU putB
  rw [← h.any]
  by_cases c : (vs.any fun kv => decide (kv.1 = k)) = true
  · rw [if_pos c, if_pos c, if_pos c]
    obtain ⟨ks', h1, h2⟩ := h.repl (k := k) (v := v) (u := u)
    exact ⟨ks', h1, fun kid hk => (h2 kid hk).imp id .inr⟩
  · rw [if_neg c, if_neg c, if_neg c]
    exact h.snoc
end
end V4
namespace V4
open PySem PySem.Spec PyProof.Rows L2 L3 RZ
def ck2M (p : U → Bool) (f : U → U → U → Option U) (ma mb mc : Mo U) : Mo U := .bind ma fun u => .bind (if p u then .pure () else .fail) fun _ => .bind mb fun k => .bind mc fun d => .ofOpt (f u k d)
theorem KE.get {K : PySem.W.Frag} {G : Hp} {k : List Key} : ∀ {vs : List (List Key × V)} {us : List (List Key × U)} {bs : List Addr} {ks : List Kid}, KE vs us bs ks → AllF K G ks → (valU us k = none ∧ valV vs k = none) ∨ ∃ u v, valU us k = some u ∧ valV vs k = some v ∧ Dq K G v u
  | _, _, _, _, .nil, _ => .inl ⟨rfl, rfl⟩
  | _, _, _, _, .cons (k := k0) (v := v0) (u := u0) h, hall => by
    by_cases c : k0 = k
    · exact .inr ⟨u0, v0, by simp [valU, List.find?_cons, c], valV_pos c, (hall _ (List.mem_cons_of_mem _ List.mem_cons_self)).2⟩
    · rcases KE.get h (fun kid hk => hall kid (List.mem_cons_of_mem _ (List.mem_cons_of_mem _ hk))) with ⟨h1, h2⟩ | ⟨u, v, h1, h2, h3⟩
      · exact .inl ⟨by unfold valU at *; rw [List.find?_cons_of_neg (by simpa using c)]; exact h1, by rw [valV_neg c]; exact h2⟩
      · exact .inr ⟨u, v, by unfold valU at *; rw [List.find?_cons_of_neg (by simpa using c)]; exact h1, by rw [valV_neg c]; exact h2, h3⟩
theorem ok_ck2 {p : U → Bool} {f : U → U → U → Option U} {ma mb mc : Mo U} {s : S} {P : U → S → Prop} : Ok (ck2M p f ma mb mc s) P ↔ Ok (ma s) fun u s1 => p u = true ∧ Ok (mb s1) fun k s2 => Ok (mc s2) fun d s3 => ∃ r, f u k d = some r ∧ P r s3 := by
  unfold ck2M
  simp only [ok_bind]
  refine ⟨fun h => ok_mono h fun u s1 h => ?_, fun h => ok_mono h fun u s1 h => ?_⟩
  · by_cases hp : p u = true
    · rw [if_pos hp] at h
      exact ⟨hp, by simpa using h⟩
    · rw [if_neg hp] at h; exact h.elim
  · rw [if_pos h.1]
    simpa using h.2
end V4
namespace L3
open PySem PySem.Spec PyProof.Rows L2
end L3
namespace V4
open PySem PySem.Spec PyProof.Rows L2 L3 RZ
end V4
namespace L2
open PySem PySem.Spec PyProof.Rows V4
end L2
namespace V4
open PySem PySem.Spec PyProof.Rows L2 L3 RZ
end V4
namespace V4
open PySem PySem.Spec PyProof.Rows L2 L3 RZ
section
variable {X : Cx} {K : PySem.W.Frag}
def uLtT (u v : U) : Option U := match u, v with
  | .tuple xs, .tuple ys => if shp (.tuple xs) && shp (.tuple ys) && PySem.W.alike (U.tuple xs).py (U.tuple ys).py then some (.bool (PySem.W.dataLt (U.tuple xs).py (U.tuple ys).py)) else none
  | _, _ => none
def uLtA (u v : U) : Option U := (uLt u v).or (uLtT u v)
end
end V4
namespace V4
open PySem PySem.Spec PyProof.Rows L2 L3 RZ
end V4
namespace V4
end V4
namespace PySem.W
open PySem PySem.SeqAt PyProof.Rows PySem.Calls
end PySem.W
namespace V4
open PySem PySem.Spec PyProof.Rows L2 L3 RZ
end V4
namespace V4
open PySem PySem.Spec PyProof.Rows L2 L3 RZ
end V4
namespace V4
open PySem PySem.Spec PyProof.Rows L2 L3 RZ
end V4
namespace V4
open PySem PySem.Spec PyProof.Rows L2 L3 RZ
end V4
namespace V4
open PySem PySem.Spec PyProof.Rows L2 L3 RZ
end V4
namespace V4
open PySem PySem.Spec PyProof.Rows L2 L3 RZ
end V4
namespace V4
open PySem PySem.Spec PyProof.Rows L2 L3 RZ
end V4
namespace LZ
open PySem PySem.Spec PyProof.Rows
open PySem.Sem (wp)
section
variable {prog : Program} {w : World} {A : Around} {E : Value → Shared → Prop} {s : Shared}
abbrev IsZipB (h : Heap) (z TI TO : Addr) (f0 : Value) (b : Bool) : Prop :=
  h.get? z = some { cls := .type "zip", dict := none, data := .fields #[f0, .bool b, .bool false, .ref TI, .ref TO], slots := #[] }
/-- what stands while a list is filled from a zip -/
def ZSt (z TI TO i1 i2 l1 l2 : Addr) (xs ys : Array Value) (i : Nat) (h : Heap) : Prop :=
  IsPair h TI (.ref i1) (.ref i2) ∧ h.IsListIter i1 l1 i ∧ h.IsListIter i2 l2 i ∧ h.IsList l1 xs ∧ h.IsList l2 ys ∧
  ((IsZip h z TI TO .none ∧ ∃ a b, IsPair h TO a b) ∨ ∃ (T : Addr) (b : Bool) (oT : Obj), IsZipB h z TI TO (rawInt T) b ∧ h.get? T = some oT ∧ T ≠ z ∧ T ≠ TO ∧ T ≠ i1 ∧ T ≠ i2)
/-- the tuples told so far -/
structure Tld (B0 : Nat) (xs ys : Array Value) (Ts : List Addr) (h : Heap) : Prop where
  up : Ts.Pairwise (· < ·)
  rng : ∀ T ∈ Ts, B0 ≤ T ∧ h.objs.size > T
  at_ : ∀ (j : Nat) T x y, Ts[j]? = some T → xs[j]? = some x → ys[j]? = some y → IsPair h T x y
theorem Tld.mono {B0 : Nat} {xs ys : Array Value} {Ts : List Addr} {h h' : Heap} (t : Tld B0 xs ys Ts h) (hs : h.objs.size ≤ h'.objs.size) (k : ∀ c o, B0 ≤ c → h.get? c = some o → h'.get? c = some o) : Tld B0 xs ys Ts h' :=
  ⟨t.up, fun T hT => ⟨(t.rng T hT).1, Nat.lt_of_lt_of_le (t.rng T hT).2 hs⟩, fun j T x y e1 e2 e3 => k _ _ (t.rng T (List.mem_of_getElem? e1)).1 (t.at_ j T x y e1 e2 e3)⟩
theorem ZSt.frame {z TI TO i1 i2 l1 l2 : Addr} {xs ys : Array Value} {i : Nat} {h h' : Heap} {S : Addr} (t : ZSt z TI TO i1 i2 l1 l2 xs ys i h) (hS : ∀ c ∈ [z, TI, TO, i1, i2, l1, l2], c ≠ S)
    (hTS : ∀ T b oT, IsZipB h z TI TO (rawInt (T : Addr)) b → h.get? T = some oT → ∃ o, h'.get? T = some o) (k : ∀ c o, c ≠ S → h.get? c = some o → h'.get? c = some o) : ZSt z TI TO i1 i2 l1 l2 xs ys i h' := by
  obtain ⟨a1, a2, a3, a4, a5, a6⟩ := t
  refine ⟨k _ _ (hS _ (by simp)) a1, a2.at fun o e => k _ o (hS _ (by simp)) e, a3.at fun o e => k _ o (hS _ (by simp)) e, a4.at fun o e => k _ o (hS _ (by simp)) e, a5.at fun o e => k _ o (hS _ (by simp)) e, ?_⟩
  rcases a6 with ⟨a6, a, b, a7⟩ | ⟨T, b, oT, a6, a7, t1, t2, t3, t4⟩
  · exact .inl ⟨k _ _ (hS _ (by simp)) a6, a, b, k _ _ (hS _ (by simp)) a7⟩
  · obtain ⟨o, e⟩ := hTS T b oT a6 a7
    exact .inr ⟨T, b, o, k _ _ (hS _ (by simp)) a6, e, t1, t2, t3, t4⟩
end
end LZ
namespace V4
open PySem PySem.Spec PyProof.Rows L2 L3 RZ RT RT2
end V4
namespace V4
open PySem PySem.Spec PyProof.Rows L2 L3 RZ
end V4
namespace V4
open PySem PySem.Spec PyProof.Rows L2 L3 RZ
structure Good {α : Type} (f : α → U) (d : Nat) : Prop where
  nd : ∀ a, noDct (f a) = true
  dp : ∀ a, (f a).py.depth ≤ d
  inj : ∀ a b, eqD (f a) (f b) = true ↔ a = b
  alk : ∀ a b, PySem.W.alike (f a).py (f b).py = true
section
variable {α β : Type} {f : α → U} {g : β → U} {d d2 : Nat}
theorem good_str : Good U.str 0 := ⟨fun _ => rfl, fun _ => by simp [U.py, PyData.depth], fun a b => by simp, fun a b => by simp [U.py, PySem.W.alike]⟩
theorem good_int : Good U.int 0 := ⟨fun _ => rfl, fun _ => by simp [U.py, PyData.depth], fun a b => by simp, fun a b => by simp [U.py, PySem.W.alike]⟩
theorem good_pair (h : Good f d) (k : Good g d) : Good (fun p : α × β => .tuple [f p.1, g p.2]) (d + 1) :=
  ⟨fun a => by simp [noDct, noDcts, h.nd, k.nd], fun a => by
    have h1 := h.dp a.1
    have h2 := k.dp a.2
    simp [U.py, U.pys, PyData.depth, PyData.depthAll]; omega, fun a b => by
    have h1 := h.inj a.1 b.1
    have h2 := k.inj a.2 b.2
    unfold eqD at h1 h2
    simp [eqD, U.py, U.pys, PyData.eqv, PyData.eqvAll, h1, h2, Prod.ext_iff], fun a b => by simp [U.py, U.pys, PySem.W.alike, PySem.W.alikeAll, h.alk, k.alk]⟩
theorem pys_eqv (h : Good f d) : ∀ {xs ys : List α}, PyData.eqvAll (U.pys (xs.map f)) (U.pys (ys.map f)) = true ↔ xs = ys
  | [], [] => by simp [U.pys, PyData.eqvAll]
  | [], _ :: _ => by simp [U.pys, PyData.eqvAll]
  | _ :: _, [] => by simp [U.pys, PyData.eqvAll]
  | x :: xs, y :: ys => by
    have h1 := h.inj x y
    unfold eqD at h1
    simp [U.pys, PyData.eqvAll, h1, pys_eqv h (xs := xs) (ys := ys)]
theorem pys_alike (h : Good f d) : ∀ {xs ys : List α}, PySem.W.alikeAll (U.pys (xs.map f)) (U.pys (ys.map f)) = true
  | [], [] => by simp [U.pys, PySem.W.alikeAll]
  | [], _ :: _ => by simp [U.pys, PySem.W.alikeAll]
  | _ :: _, [] => by simp [U.pys, PySem.W.alikeAll]
  | x :: xs, y :: ys => by simp [U.pys, PySem.W.alikeAll, h.alk, pys_alike h (xs := xs) (ys := ys)]
theorem nds_map (h : Good f d) {xs : List α} : noDcts (xs.map f) = true := noDcts_of fun x hx => by
  obtain ⟨a, _, rfl⟩ := List.mem_map.mp hx
  exact h.nd a
theorem dps_map (h : Good f d) {xs : List α} : PyData.depthAll (U.pys (xs.map f)) ≤ d := depths_of fun x hx => by
  obtain ⟨a, _, rfl⟩ := List.mem_map.mp hx
  exact h.dp a
theorem good_list (h : Good f d) : Good (fun xs : List α => .list (xs.map f)) (d + 1) :=
  ⟨fun a => by simp [noDct, nds_map h], fun a => by
    have := dps_map h (xs := a)
    simp [U.py, PyData.depth]; omega, fun a b => by
    simp only [eqD, U.py, PyData.eqv]; exact pys_eqv h, fun a b => by simp [U.py, PySem.W.alike, pys_alike h]⟩
theorem good_tup (h : Good f d) : Good (fun xs : List α => .tuple (xs.map f)) (d + 1) :=
  ⟨fun a => by simp [noDct, nds_map h], fun a => by
    have := dps_map h (xs := a)
    simp [U.py, PyData.depth]; omega, fun a b => by
    simp only [eqD, U.py, PyData.eqv]; exact pys_eqv h, fun a b => by simp [U.py, PySem.W.alike, pys_alike h]⟩
theorem Good.up (h : Good f d) (k : d ≤ d2) : Good f d2 := ⟨h.nd, fun a => Nat.le_trans (h.dp a) k, h.inj, h.alk⟩
theorem Good.shp (h : Good f d) (k : d ≤ 64 := by decide) (a : α) : shp (f a) = true := by
  have := h.dp a
  simp [L3.shp, h.nd]; omega
theorem Good.eqd [DecidableEq α] (h : Good f d) (a b : α) : eqD (f a) (f b) = decide (a = b) := by
  rw [Bool.eq_iff_iff, h.inj]; simp
theorem good_eq [DecidableEq α] (h : Good f d) (a b : α) (k : d ≤ 64 := by decide) : uEq (f a) (f b) = some (.bool (decide (a = b))) := by simp [uEq, h.shp k, h.eqd]
theorem good_ne [DecidableEq α] (h : Good f d) (a b : α) (k : d ≤ 64 := by decide) : uNe (f a) (f b) = some (.bool (!decide (a = b))) := by simp [uNe, h.shp k, h.eqd]
theorem good_in [DecidableEq α] (h : Good f d) (a : α) (xs : List α) (k : d ≤ 60 := by decide) : uIn (f a) (.list (xs.map f)) = some (.bool (decide (a ∈ xs))) := by
  have h1 : L3.shp (.list (xs.map f)) = true := shp_list fun x hx => by
    obtain ⟨a, _, rfl⟩ := List.mem_map.mp hx
    exact ⟨h.nd a, Nat.le_trans (h.dp a) k⟩
  have e : ((xs.map f).any fun z => eqD z (f a)) = decide (a ∈ xs) := by
    rw [Bool.eq_iff_iff]; simp [h.inj]
  simp only [uIn, h.shp (show d ≤ 64 by omega) a, h1, Bool.and_self, if_true, e]
theorem good_notin [DecidableEq α] (h : Good f d) (a : α) (xs : List α) (k : d ≤ 60 := by decide) : uNotIn (f a) (.list (xs.map f)) = some (.bool (!decide (a ∈ xs))) := by
  unfold uNotIn; rw [good_in h a xs k]
def leG (f : α → U) (a b : α) : Bool := PySem.W.dataLe false U.py (f a) (f b)
def srt (f : α → U) (xs : List α) : List α := xs.mergeSort (leG f)
theorem leG_trans (a b c : α) (h : leG f a b = true) (k : leG f b c = true) : leG f a c = true := (PySem.W.sortLe_total (listOrd itemOrd) false fun b : U => PySem.W.keyToks b.py).trans _ _ _ h k
theorem leG_total (a b : α) : (leG f a b || leG f b a) = true := by
  rw [Bool.or_eq_true]
  exact (PySem.W.sortLe_total (listOrd itemOrd) false fun b : U => PySem.W.keyToks b.py).total _ _
theorem leG_lt (a b : α) : leG f a b = !PySem.W.dataLt (f b).py (f a).py := rfl
theorem leG_anti (hf : Good f d) {a b : α} (h : leG f a b = true) (k : leG f b a = true) : a = b := by
  rw [leG_lt, Bool.not_eq_true'] at h k
  have e : PySem.W.keyToks (f b).py = PySem.W.keyToks (f a).py := lex_total _ _ h k
  have t := PySem.W.toks_eqv _ _ (hf.alk b a)
  cases c : PyData.eqv (f b).py (f a).py with
  | true => exact ((hf.inj b a).mp c).symm
  | false =>
    have t2 := t.2 c [] [.inl 0]
    rw [e, PySem.W.lex_pre, lex_irrefl] at t2
    cases t2
theorem srt_perm (xs : List α) : (srt f xs).Perm xs := List.mergeSort_perm xs _
theorem srt_pw (xs : List α) : (srt f xs).Pairwise fun a b => leG f a b = true := List.pairwise_mergeSort leG_trans leG_total xs
@[simp] theorem srt_mem {xs : List α} {a : α} : a ∈ srt f xs ↔ a ∈ xs := (srt_perm xs).mem_iff
@[simp] theorem srt_length {xs : List α} : (srt f xs).length = xs.length := (srt_perm xs).length_eq
theorem pw_uniq (hf : Good f d) {ys xs : List α} (h : ys.Perm xs) (k : ys.Pairwise fun a b => leG f a b = true) (k2 : xs.Pairwise fun a b => leG f a b = true) : ys = xs :=
  h.eq_of_pairwise (fun a b _ _ h k => leG_anti hf h k) k k2
theorem srt_uniq (hf : Good f d) {ys xs : List α} (h : ys.Perm xs) (k : ys.Pairwise fun a b => leG f a b = true) : ys = srt f xs :=
  pw_uniq hf (h.trans (srt_perm xs).symm) k (srt_pw xs)
theorem srt_eq (hf : Good f d) {ys xs : List α} (h : ys.Perm xs) : srt f ys = srt f xs := srt_uniq hf ((srt_perm ys).trans h) (srt_pw ys)
/-- two lists without repetition and the same members are sorted alike -/
theorem srt_same [DecidableEq α] (hf : Good f d) {ys xs : List α} (hy : ys.Nodup) (hx : xs.Nodup) (h : ∀ a, a ∈ ys ↔ a ∈ xs) : srt f ys = srt f xs :=
  srt_eq hf ((List.perm_ext_iff_of_nodup hy hx).mpr h)
theorem sortU_map (xs : List α) : sortU (xs.map f) = (srt f xs).map f := by
  unfold sortU srt
  exact (List.map_mergeSort (f := f) (l := xs) (r := leG f) (s := PySem.W.dataLe false U.py) fun a _ b _ => rfl).symm
theorem sortOk_map (hf : Good f d) {xs : List α} (k : (∀ a ∈ xs, tupNe (f a).py = true) ∨ ∀ a ∈ xs, plainKey (f a).py = true) (hd : d ≤ 60 := by decide) : sortOk (xs.map f) = true := by
  unfold sortOk
  simp only [Bool.and_eq_true, Bool.or_eq_true, List.all_eq_true, List.mem_map, forall_exists_index, and_imp, forall_apply_eq_imp_iff₂, decide_eq_true_eq]
  exact ⟨⟨fun a _ => ⟨hf.nd a, Nat.le_trans (hf.dp a) hd⟩, fun a _ b _ => hf.alk a b⟩, k⟩
theorem good_sort (hf : Good f d) {xs : List α} (k : (∀ a ∈ xs, tupNe (f a).py = true) ∨ ∀ a ∈ xs, plainKey (f a).py = true) (hd : d ≤ 60 := by decide) : uSorted (.list (xs.map f)) = some (.list ((srt f xs).map f)) := by
  show (if sortOk (xs.map f) = true then some (U.list (sortU (xs.map f))) else none) = _
  rw [if_pos (sortOk_map hf k hd), sortU_map]
end
theorem leG_str {a b : Str} : leG U.str a b = leS a b := by
  rw [leG_lt, show (U.str b).py = .str b by simp [U.py], show (U.str a).py = .str a by simp [U.py], PySem.W.dataLt_str, Bool.eq_iff_iff, leS_iff]
  simp
theorem srt_str {xs : List Str} : srt U.str xs = sortS xs := by
  unfold srt sortS
  congr 1
  funext a b
  exact leG_str
@[simp] theorem uSorted_strs {xs : List Str} : uSorted (.list (xs.map U.str)) = some (.list ((sortS xs).map U.str)) := by
  rw [good_sort good_str (.inr fun a _ => by simp [U.py, plainKey]), srt_str]
abbrev tieU (p : Str × Str) : U := .tuple [.str p.1, .str p.2]
theorem good_tie : Good tieU 1 := good_pair good_str good_str
theorem good_strs : Good (fun xs : List Str => .list (xs.map U.str)) 1 := good_list good_str
theorem good_ints : Good (fun xs : List Int => .list (xs.map U.int)) 1 := good_list good_int
abbrev cutU (xs : List Str) : U := .tuple (xs.map U.str)
theorem good_cut : Good cutU 1 := good_tup good_str
@[simp] theorem uEq_str {a b : Str} : uEq (.str a) (.str b) = some (.bool (decide (a = b))) := good_eq good_str a b
@[simp] theorem uNe_str {a b : Str} : uNe (.str a) (.str b) = some (.bool (!decide (a = b))) := good_ne good_str a b
@[simp] theorem uNe_int {a b : Int} : uNe (.int a) (.int b) = some (.bool (!decide (a = b))) := good_ne good_int a b
@[simp] theorem uEq_strs {a b : List Str} : uEq (.list (a.map U.str)) (.list (b.map U.str)) = some (.bool (decide (a = b))) := good_eq good_strs a b
@[simp] theorem uNe_strs {a b : List Str} : uNe (.list (a.map U.str)) (.list (b.map U.str)) = some (.bool (!decide (a = b))) := good_ne good_strs a b
@[simp] theorem uEq_ints {a b : List Int} : uEq (.list (a.map U.int)) (.list (b.map U.int)) = some (.bool (decide (a = b))) := good_eq good_ints a b
@[simp] theorem uNe_ints {a b : List Int} : uNe (.list (a.map U.int)) (.list (b.map U.int)) = some (.bool (!decide (a = b))) := good_ne good_ints a b
@[simp] theorem uEq_ties {a b : List (Str × Str)} : uEq (.list (a.map tieU)) (.list (b.map tieU)) = some (.bool (decide (a = b))) := good_eq (good_list good_tie) a b
@[simp] theorem uNe_ties {a b : List (Str × Str)} : uNe (.list (a.map tieU)) (.list (b.map tieU)) = some (.bool (!decide (a = b))) := good_ne (good_list good_tie) a b
@[simp] theorem uIn_str {z : Str} {ts : List Str} : uIn (.str z) (.list (ts.map U.str)) = some (.bool (decide (z ∈ ts))) := uIn_strs
@[simp] theorem uNotIn_str {z : Str} {ts : List Str} : uNotIn (.str z) (.list (ts.map U.str)) = some (.bool (!decide (z ∈ ts))) := uNotIn_strs
@[simp] theorem uIn_int {z : Int} {ts : List Int} : uIn (.int z) (.list (ts.map U.int)) = some (.bool (decide (z ∈ ts))) := good_in good_int z ts
@[simp] theorem uNotIn_int {z : Int} {ts : List Int} : uNotIn (.int z) (.list (ts.map U.int)) = some (.bool (!decide (z ∈ ts))) := good_notin good_int z ts
theorem idx_map {α : Type} {f : α → U} {xs : List α} {i : Int} {n : Nat} {a : α} (e : i = (n : Int)) (h : xs[n]? = some a) : uIdx (.list (xs.map f)) (.int i) = some (f a) := idx_at e (by rw [List.getElem?_map, h]; rfl)
theorem idx_in {α : Type} {f : α → U} {xs : List α} {d : Int} (h0 : 0 ≤ d) (h : d < xs.length) : ∃ a, a ∈ xs ∧ xs[d.toNat]? = some a ∧ uIdx (.list (xs.map f)) (.int d) = some (f a) := by
  have hd : d.toNat < xs.length := by omega
  exact ⟨xs[d.toNat], List.getElem_mem hd, List.getElem?_eq_getElem hd, idx_map (n := d.toNat) (by omega) (List.getElem?_eq_getElem hd)⟩
@[simp] theorem uAppend_map {α : Type} {f : α → U} {xs : List α} {a : U} : uAppend (.list (xs.map f)) [a] = if xs.length < sizeLine then some (.list (xs.map f ++ [a]), .none) else none := by simp [uAppend]
theorem append_map {α : Type} {f : α → U} {xs : List α} {a : α} {u : U} (h : xs.length < 1000000) (e : u = f a) : uAppend (.list (xs.map f)) [u] = some (.list ((xs ++ [a]).map f), .none) := by
  have : sizeLine = 16777216 := sizeLine_eq
  subst e
  rw [uAppend_map, if_pos (by omega)]
  simp
section
variable {α : Type} {s : S} {mt : U → S → Option S} {b : Mo (Option U)} {ft : Mo Bool} {fe : Mo U} {vs : List Nat} {w : Mo (List U)} {f : α → U}
theorem ok_forL {xs : List α} {I : List α → S → Prop} {R : U → S → Prop} (hf : ∀ p x q s, xs = p ++ x :: q → I p s → ∃ s1, mt (f x) s = some s1 ∧ Ok (b s1) fun o s2 => match o with | none => I (p ++ [x]) s2 | some r => R r s2) (h0 : I [] s) :
    Ok (forS mt b (xs.map f) s) fun o s' => match o with | none => I xs s' | some r => R r s' := by
  have key : ∀ q p s, xs = p ++ q → I p s → Ok (forS mt b (q.map f) s) fun o s' => match o with | none => I xs s' | some r => R r s' := by
    intro q
    induction q with
    | nil => intro p s e h; rw [List.append_nil] at e; subst e; exact h
    | cons x q ih =>
      intro p s e h
      obtain ⟨s1, e1, h1⟩ := hf p x q s e h
      rw [List.map_cons]
      unfold forS
      simp only [e1]
      rw [ok_bind]
      refine ok_mono h1 fun o s2 h2 => ?_
      cases o with
      | some r => exact h2
      | none => exact ih (p ++ [x]) s2 (by rw [e, List.append_assoc]; rfl) h2
  exact key xs [] s rfl h0
/-- .. as the end of what comes before -/
theorem ok_forP {xs : List α} (I : List α → S → Prop) {P : Option U → S → Prop} (hf : ∀ p x q s, xs = p ++ x :: q → I p s → ∃ s1, mt (f x) s = some s1 ∧ Ok (b s1) fun o s2 => match o with | none => I (p ++ [x]) s2 | some r => P (some r) s2) (h0 : I [] s) (h1 : ∀ s, I xs s → P none s) :
    Ok (forS mt b (xs.map f) s) P :=
  ok_mono (ok_forL (R := fun r s => P (some r) s) hf h0) fun o s' h => by
    cases o with
    | none => exact h1 _ h
    | some r => exact h
theorem ok_lcL {xs : List α} {I : List α → List U → S → Prop} (hf : ∀ p x q acc s, xs = p ++ x :: q → I p acc s → ∃ s1, mt (f x) s = some s1 ∧ Ok (ft s1) fun b s2 => if b = true then Ok (fe s2) fun y s3 => I (p ++ [x]) (acc ++ [y]) (rst s vs s3) else I (p ++ [x]) acc (rst s vs s2)) (h0 : I [] [] s) :
    Ok (lcS vs mt ft fe (xs.map f) [] s) fun u s' => ∃ ys, u = .list ys ∧ I xs ys s' := by
  have key : ∀ q p acc s, xs = p ++ q → I p acc s → Ok (lcS vs mt ft fe (q.map f) acc s) fun u s' => ∃ ys, u = .list ys ∧ I xs ys s' := by
    intro q
    induction q with
    | nil => intro p acc s e h; rw [List.append_nil] at e; subst e; exact ⟨acc, rfl, h⟩
    | cons x q ih =>
      intro p acc s e h
      obtain ⟨s1, e1, h1⟩ := hf p x q acc s e h
      have e2 : xs = (p ++ [x]) ++ q := by rw [e, List.append_assoc]; rfl
      rw [List.map_cons]
      unfold lcS
      simp only [e1]
      rw [ok_bind]
      refine ok_mono h1 fun b s2 h2 => ?_
      cases b with
      | true =>
        rw [if_pos rfl] at h2 ⊢
        rw [ok_bind]
        exact ok_mono h2 fun y s3 h3 => ih _ _ _ e2 h3
      | false =>
        rw [if_neg Bool.false_ne_true] at h2 ⊢
        exact ih _ _ _ e2 h2
  exact key xs [] [] s rfl h0
/-- a comprehension by what holds at each turn -/
theorem ok_lcI {P : U → S → Prop} (hw : Ok (w s) fun us s0 => ∃ (xs : List α) (f : α → U), us = xs.map f ∧ ∃ I : List α → List U → S → Prop, I [] [] s0 ∧ (∀ p x q acc s, xs = p ++ x :: q → I p acc s → ∃ s1, mt (f x) s = some s1 ∧ Ok (ft s1) fun b s2 => if b = true then Ok (fe s2) fun y s3 => I (p ++ [x]) (acc ++ [y]) (rst s vs s3) else I (p ++ [x]) acc (rst s vs s2)) ∧ ∀ ys s', I xs ys s' → P (.list ys) s') : Ok (lcM vs w mt ft fe s) P := by
  unfold lcM
  rw [ok_bind]
  refine ok_mono hw fun us s0 ⟨xs, f, e, I, h0, hf, h1⟩ => ok_noX.mpr ?_
  subst e
  exact ok_mono (ok_lcL hf h0) fun u s' ⟨ys, e, h⟩ => by subst e; exact h1 ys s' h
/-- one that changes nothing -/
theorem ok_lcT {P : U → S → Prop} (hw : Ok (w s) fun us s0 => ∃ (xs : List α) (f : α → U), us = xs.map f ∧ ∃ (c : α → Bool) (g : α → U), (∀ x ∈ xs, ∃ s1, mt (f x) s0 = some s1 ∧ rst s0 vs s1 = s0 ∧ Ok (ft s1) (fun b s2 => b = c x ∧ s2 = s1) ∧ (c x = true → Ok (fe s1) fun u s2 => u = g x ∧ s2 = s1)) ∧ P (.list ((xs.filter c).map g)) s0) : Ok (lcM vs w mt ft fe s) P := by
  unfold lcM
  rw [ok_bind]
  refine ok_mono hw fun us s0 ⟨xs, f, e, c, g, h, p⟩ => ok_noX.mpr ?_
  subst e
  have key : ∀ (q : List α) acc, (∀ x ∈ q, x ∈ xs) → lcS vs mt ft fe (q.map f) acc s0 = .ok (.list (acc ++ (q.filter c).map g)) s0 := by
    intro q
    induction q with
    | nil => intro acc _; simp [lcS, StM.pure]
    | cons x q ih =>
      intro acc hm
      obtain ⟨s1, e1, er, ec, eg⟩ := h x (hm x List.mem_cons_self)
      have ih := fun acc => ih acc fun y hy => hm y (List.mem_cons_of_mem _ hy)
      rw [List.map_cons]
      unfold lcS
      simp only [e1]
      unfold StM.bind
      rw [ok_eq ec]
      cases hc : c x with
      | true =>
        simp only [if_true]
        rw [ok_eq (eg hc)]
        simp only [er]
        rw [ih, List.filter_cons_of_pos hc]
        simp
      | false =>
        simp only [Bool.false_eq_true, if_false, er]
        rw [ih, List.filter_cons_of_neg (by simp [hc])]
  rw [key xs [] fun _ h => h]
  exact p
/-- .. and takes all -/
theorem ok_lcA {P : U → S → Prop} (hw : Ok (w s) fun us s0 => ∃ (xs : List α) (f : α → U), us = xs.map f ∧ ∃ g : α → U, (∀ x ∈ xs, ∃ s1, mt (f x) s0 = some s1 ∧ rst s0 vs s1 = s0 ∧ Ok (fe s1) fun u s2 => u = g x ∧ s2 = s1) ∧ P (.list (xs.map g)) s0) : Ok (lcM vs w mt (.pure true) fe s) P :=
  ok_lcT (ok_mono hw fun us s0 ⟨xs, f, e, g, h, p⟩ => ⟨xs, f, e, fun _ => true, g, fun x hx => by
    obtain ⟨s1, a, b, c⟩ := h x hx
    exact ⟨s1, a, b, ⟨rfl, rfl⟩, fun _ => c⟩, by rw [List.filter_eq_self.mpr fun _ _ => rfl]; exact p⟩)
end
end V4
namespace V4
open PySem PySem.Spec PyProof.Rows L2 L3 RZ
section
variable {α : Type} {ts ts2 : List (α × α)} {a b c : α}
inductive Reach (ts : List (α × α)) (a : α) : α → Prop
  | refl : Reach ts a a
  | step {b c : α} : Reach ts a b → (b, c) ∈ ts → Reach ts a c
theorem Reach.one (h : (a, b) ∈ ts) : Reach ts a b := .step .refl h
theorem Reach.trans (h : Reach ts a b) (k : Reach ts b c) : Reach ts a c := by
  induction k with
  | refl => exact h
  | step _ e ih => exact .step ih e
theorem Reach.mono (h : Reach ts a b) (k : ∀ e ∈ ts, e ∈ ts2) : Reach ts2 a b := by
  induction h with
  | refl => exact .refl
  | step _ e ih => exact .step ih (k _ e)
/-- a set closed under the ties has all that is reached from it -/
theorem Reach.closed {p : α → Prop} (h : Reach ts a b) (ha : p a) (k : ∀ x y, (x, y) ∈ ts → p x → p y) : p b := by
  induction h with
  | refl => exact ha
  | step _ e ih => exact k _ _ e ih
theorem nodup_le [BEq α] [LawfulBEq α] : ∀ {xs ys : List α}, xs.Nodup → (∀ x ∈ xs, x ∈ ys) → xs.length ≤ ys.length
  | [], _, _, _ => Nat.zero_le _
  | x :: xs, ys, h, k => by
    obtain ⟨h1, h2⟩ := List.nodup_cons.mp h
    have hx := k x List.mem_cons_self
    have := nodup_le (ys := ys.erase x) h2 fun y hy => (List.mem_erase_of_ne fun e : y = x => h1 (e ▸ hy)).mpr (k y (List.mem_cons_of_mem _ hy))
    have l := List.length_erase_of_mem hx
    have : 0 < ys.length := List.length_pos_of_mem hx
    simp only [List.length_cons]
    omega
theorem nodup_snoc {xs : List α} {x : α} (h : xs.Nodup) (k : x ∉ xs) : (xs ++ [x]).Nodup := by
  rw [List.nodup_append]
  exact ⟨h, by simp, fun a ha b hb => by rw [List.mem_singleton.mp hb]; exact fun e => k (e ▸ ha)⟩
end
open Classical in
/-- those of some that are reached -/
noncomputable def reachIn {α : Type} (ts : List (α × α)) (ps : List α) (a : α) : List α := ps.filter fun b => decide (Reach ts a b)
theorem mem_reachIn {α : Type} {ts : List (α × α)} {ps : List α} {a b : α} : b ∈ reachIn ts ps a ↔ b ∈ ps ∧ Reach ts a b := by
  unfold reachIn; simp
/-- flooding found all: closed under the ties, has a, only what is reached -/
structure Flood {α : Type} (ts : List (α × α)) (a : α) (fs : List α) : Prop where
  nd : fs.Nodup
  r : ∀ x ∈ fs, Reach ts a x
  a : a ∈ fs
theorem Flood.snoc {α : Type} {ts : List (α × α)} {a x y : α} {fs : List α} (h : Flood ts a fs) (hx : x ∈ fs) (e : (x, y) ∈ ts) (hy : y ∉ fs) : Flood ts a (fs ++ [y]) :=
  ⟨nodup_snoc h.nd hy, fun z hz => by
    rcases List.mem_append.mp hz with h1 | h1
    · exact h.r z h1
    · rw [List.mem_singleton.mp h1]; exact .step (h.r x hx) e, List.mem_append_left _ h.a⟩
theorem Flood.all {α : Type} {ts : List (α × α)} {a : α} {fs : List α} (h : Flood ts a fs) (k : ∀ x y, (x, y) ∈ ts → x ∈ fs → y ∈ fs) (z : α) : z ∈ fs ↔ Reach ts a z :=
  ⟨h.r z, fun hz => hz.closed (p := (· ∈ fs)) h.a k⟩
theorem Flood.len {α : Type} [BEq α] [LawfulBEq α] {ts : List (α × α)} {a : α} {fs : List α} (h : Flood ts a fs) : fs.length ≤ ts.length + 1 := by
  have := nodup_le (ys := a :: ts.map (·.2)) h.nd fun x hx => by
    have := h.r x hx
    cases this with
    | refl => exact List.mem_cons_self
    | step _ e => exact List.mem_cons_of_mem _ (List.mem_map.mpr ⟨_, e, rfl⟩)
  simpa using this
structure Wb where
  pl : List Str
  ties : List (Str × Str)
structure Wb.Ok (w : Wb) : Prop where
  nd : w.pl.Nodup
  srt : sortS w.pl = w.pl
  nm : ∀ z ∈ w.pl, nameB z = true
  one : 1 ≤ w.pl.length
  most : w.pl.length ≤ 12
  few : w.ties.length ≤ 30
  inn : ∀ e ∈ w.ties, e.1 ∈ w.pl ∧ e.2 ∈ w.pl
def webU (w : Wb) : U := .ins "Web" [("names", .list (w.pl.map U.str)), ("pairs", .list (w.ties.map tieU))]
/-- what is handed in for a web -/
structure Hand (names : List Str) (ties : List (Str × Str)) : Prop where
  nd : names.Nodup
  nm : ∀ z ∈ names, nameB z = true
  one : 1 ≤ names.length
  most : names.length ≤ 12
  few : ties.length ≤ 30
  inn : ∀ e ∈ ties, e.1 ∈ names ∧ e.2 ∈ names
theorem sortS_mem {ks : List Str} {z : Str} : z ∈ sortS ks ↔ z ∈ ks := (sortS_perm ks).mem_iff
theorem sortS_len {ks : List Str} : (sortS ks).length = ks.length := (sortS_perm ks).length_eq
theorem sortS_sortS {ks : List Str} : sortS (sortS ks) = sortS ks := (sortS_uniq (List.Perm.refl _) (sortS_pw ks)).symm
theorem sortS_nodup {ks : List Str} (h : ks.Nodup) : (sortS ks).Nodup := (sortS_perm ks).nodup_iff.mpr h
theorem sortS_same {xs ys : List Str} (hx : xs.Nodup) (hy : ys.Nodup) (h : ∀ a, a ∈ xs ↔ a ∈ ys) : sortS xs = sortS ys := by
  rw [← srt_str, ← srt_str]; exact srt_same good_str hx hy h
/-- what is sorted stays so when some are left out -/
theorem sortS_filter {xs : List Str} {p : Str → Bool} (h : sortS xs = xs) : sortS (xs.filter p) = xs.filter p :=
  (sortS_uniq (List.Perm.refl _) ((h ▸ sortS_pw xs : xs.Pairwise _).filter p)).symm
theorem Hand.ok {names : List Str} {ties : List (Str × Str)} (h : Hand names ties) : Wb.Ok ⟨sortS names, ties⟩ :=
  ⟨sortS_nodup h.nd, sortS_sortS, fun z hz => h.nm z (sortS_mem.mp hz), by simp only [sortS_len]; exact h.one, by simp only [sortS_len]; exact h.most, h.few, fun e he => ⟨sortS_mem.mpr (h.inn e he).1, sortS_mem.mpr (h.inn e he).2⟩⟩
noncomputable def Wb.far (w : Wb) (a : Str) : List Str := reachIn w.ties w.pl a
theorem Wb.Ok.reach {w : Wb} (h : w.Ok) {a b : Str} (ha : a ∈ w.pl) (r : Reach w.ties a b) : b ∈ w.pl := r.closed (p := (· ∈ w.pl)) ha fun x y e _ => (h.inn _ e).2
theorem Wb.Ok.mem_far {w : Wb} (h : w.Ok) {a b : Str} (ha : a ∈ w.pl) : b ∈ w.far a ↔ Reach w.ties a b := by
  unfold Wb.far
  rw [mem_reachIn]
  exact ⟨fun h => h.2, fun r => ⟨h.reach ha r, r⟩⟩
theorem Wb.Ok.far_nodup {w : Wb} (h : w.Ok) {a : Str} : (w.far a).Nodup := h.nd.filter _
theorem Wb.Ok.far_sorted {w : Wb} (h : w.Ok) {a : Str} : sortS (w.far a) = w.far a := sortS_filter h.srt
/-- a list of just what is reached, sorted -/
theorem Wb.Ok.far_of {w : Wb} (h : w.Ok) {a : Str} (ha : a ∈ w.pl) {fs : List Str} (hf : fs.Nodup) (k : ∀ z, z ∈ fs ↔ Reach w.ties a z) : sortS fs = w.far a := by
  rw [← h.far_sorted]
  exact sortS_same hf h.far_nodup fun z => (k z).trans (h.mem_far ha).symm
theorem nameB_len {z : Str} (h : nameB z = true) : 1 ≤ z.length ∧ z.length ≤ 8 := by
  unfold nameB at h; simp at h; exact ⟨h.1.1, h.1.2⟩
theorem nameB_low {z : Str} (h : nameB z = true) : ∀ c ∈ z.cps.toList, lowC c = true := by
  unfold nameB at h
  rw [Bool.and_eq_true] at h
  exact List.all_eq_true.mp h.2
end V4
namespace V4
open PySem PySem.Spec PyProof.Rows L2 L3 RZ
section
variable {s : S} {m ma mb mc : Mo U} {n na nb : Mo Bool} {i j : Nat} {f : U → Option U} {g g2 : U → U → Option U} {ms : Mo (List U)} {bm bn : Mo (Option U)}
theorem okF {β : Type} {o : Out S β} {P : β → S → Prop} (h : Ok o P) : ∃ b s', o = .ok b s' ∧ P b s' := by
  cases o with
  | ok b s' => exact ⟨b, s', rfl, h⟩
  | exc e s' => exact h.elim
  | stuck => exact h.elim
@[simp] theorem ok_ok {β : Type} {b : β} {s' : S} {P : β → S → Prop} : Ok (.ok b s' : Out S β) P ↔ P b s' := Iff.rfl
@[simp] theorem ok_exc {β : Type} {e : Err} {s' : S} {P : β → S → Prop} : Ok (.exc e s' : Out S β) P ↔ False := Iff.rfl
@[simp] theorem ok_stuck {β : Type} {P : β → S → Prop} : Ok (.stuck : Out S β) P ↔ False := Iff.rfl
@[simp] theorem ok_sm1 {P : U → S → Prop} : Ok (sm1M g ma mb s) P ↔ Ok (ma s) fun x s1 => isStrU x = true ∧ Ok (mb s1) fun y s2 => ∃ d, g x y = some d ∧ P d s2 := by
  unfold sm1M
  simp only [ok_bind]
  refine ⟨fun h => ok_mono h fun x s1 h => ?_, fun h => ok_mono h fun x s1 h => ?_⟩
  · cases e : isStrU x with
    | true => rw [e] at h; simp at h; exact ⟨rfl, h⟩
    | false => rw [e] at h; simp at h
  · obtain ⟨e, h⟩ := h
    rw [e]; simp; exact h
@[simp] theorem ok_recv {cn mth : Str} {P : List U → S → Prop} : Ok (recvM cn mth m ms s) P ↔ Ok (m s) fun u s1 => isInsB cn mth u = true ∧ Ok (ms s1) fun us s2 => P (u :: us) s2 := by
  unfold recvM
  simp only [ok_bind]
  refine ⟨fun h => ok_mono h fun x s1 h => ?_, fun h => ok_mono h fun x s1 h => ?_⟩
  · split at h
    · rename_i e; rw [ok_bind] at h; exact ⟨e, h⟩
    · exact h.elim
  · rw [if_pos h.1, ok_bind]; exact h.2
@[simp] theorem ok_mk {cn : Str} {fn : Fn} {P : U → S → Prop} : Ok (mkM cn fn ms s) P ↔ Ok (ms s) fun us s1 => Ok (fn (.ins cn [] :: us)) fun r fin => r = .none ∧ ∃ u, fin.head? = some u ∧ P u s1 := by
  unfold mkM
  rw [ok_bind]
  refine ⟨fun h => ok_mono h fun us s1 h => ?_, fun h => ok_mono h fun us s1 h => ?_⟩
  · have h : Ok (match fn (.ins cn [] :: us) with | .ok .none (u :: _) => Out.ok u s1 | .ok _ _ => .stuck | .exc e _ => .exc e s1 | .stuck => .stuck) P := h
    split at h
    · rename_i e; rw [e]; exact ⟨rfl, _, rfl, h⟩
    · exact h.elim
    · exact h.elim
    · exact h.elim
  · show Ok (match fn (.ins cn [] :: us) with | .ok .none (u :: _) => Out.ok u s1 | .ok _ _ => .stuck | .exc e _ => .exc e s1 | .stuck => .stuck) P
    obtain ⟨r, fin, e, e1, u, e2, h⟩ := okF h
    cases fin with
    | nil => cases e2
    | cons u' us' =>
      cases e2
      subst e1
      rw [e]; exact h
@[simp] theorem ok_fld {cn fl : Str} {P : Option U → S → Prop} : Ok (fldM cn fl i (.pure []) m s) P ↔ Ok (m s) fun v s1 => ∃ fs, s1[i]? = some (.ins cn fs) ∧ fs.length < 1000 ∧ P none (s1.set i (.ins cn (putUF fl v fs))) := by
  unfold fldM
  simp only [ok_bind, ok_pure, ok_at0]
  refine ⟨fun h => ok_mono h fun v s1 h => ?_, fun h => ok_mono h fun v s1 h => ?_⟩
  · obtain ⟨u, e, u', d, e2, p⟩ := h
    split at e2
    · rename_i c fs
      split at e2
      · rename_i hc
        obtain ⟨rfl, hl⟩ := hc
        cases e2
        exact ⟨fs, e, hl, p⟩
      · cases e2
    · cases e2
  · obtain ⟨fs, e, hl, p⟩ := h
    exact ⟨_, e, _, (), if_pos ⟨rfl, hl⟩, p⟩
@[simp] theorem ok_aug {P : Option U → S → Prop} : Ok (augM i g m s) P ↔ ∃ x, s[i]? = some x ∧ Ok (m s) fun y s1 => ∃ z, g x y = some z ∧ P none (s1.set i z) := by
  unfold augM
  simp only [ok_bind, ok_v, ok_opt]
  exact Iff.rfl
@[simp] theorem ok_en {P : List U → S → Prop} : Ok (enM m s) P ↔ Ok (m s) fun u s1 => ∃ xs, enumU u = some xs ∧ P xs s1 := by unfold enM; simp
@[simp] theorem ok_zp {P : List U → S → Prop} : Ok (zpM ma mb s) P ↔ Ok (ma s) fun u s1 => Ok (mb s1) fun v s2 => ∃ xs, zipU u v = some xs ∧ P xs s2 := by unfold zpM; simp
@[simp] theorem ok_pt {P : Option Int → S → Prop} : Ok (ptM m s) P ↔ Ok (m s) fun u s1 => ∃ k, u = .int k ∧ P (some k) s1 := by
  unfold ptM
  rw [ok_bind]
  refine ⟨fun h => ok_mono h fun u s1 h => ?_, fun h => ok_mono h fun u s1 h => ?_⟩
  · cases u <;> first | exact ⟨_, rfl, h⟩ | exact h.elim
  · obtain ⟨k, rfl, h⟩ := h; exact h
@[simp] theorem ok_sl {l h : Mo (Option Int)} {P : U → S → Prop} : Ok (slM m l h s) P ↔ Ok (m s) fun x s1 => Ok (l s1) fun a s2 => Ok (h s2) fun b s3 => ∃ d, uCut x a b = some d ∧ P d s3 := by unfold slM; simp
@[simp] theorem ok_dct {c : Mo (List (Key × U))} {P : U → S → Prop} : Ok (dctM c s) P ↔ Ok (c s) fun us s1 => P (.dict (mergeU [] us)) s1 := by unfold dctM; simp
@[simp] theorem ok_prc {c : Mo (List (Key × U))} {P : List (Key × U) → S → Prop} : Ok (prcM ma mb c s) P ↔ Ok (ma s) fun u s1 => Ok (mb s1) fun v s2 => ∃ k, keyU u = some k ∧ Ok (c s2) fun r s3 => P ((k, v) :: r) s3 := by unfold prcM; simp
@[simp] theorem ok_prn {P : List (Key × U) → S → Prop} : Ok (prnM s) P ↔ P [] s := Iff.rfl
/-- what comes behind a statement -/
def Thn (bn : Mo (Option U)) (P : Option U → S → Prop) (o : Option U) (s' : S) : Prop := match o with | none => Ok (bn s') P | some r => P (some r) s'
theorem ok_seqT {P : Option U → S → Prop} : Ok (seqM bm bn s) P ↔ Ok (bm s) (Thn bn P) := ok_seq
@[simp] theorem thn_none {P : Option U → S → Prop} : Thn bn P none s ↔ Ok (bn s) P := Iff.rfl
@[simp] theorem thn_some {P : Option U → S → Prop} {r : U} : Thn bn P (some r) s ↔ P (some r) s := Iff.rfl
theorem ok_rng2 {P : List U → S → Prop} : Ok (rngM ma mb s) P ↔ Ok (ma s) fun x s1 => Ok (mb s1) fun y s2 => ∃ i, x = .int i ∧ ∃ j, y = .int j ∧ (-16777216 ≤ i ∧ j ≤ 8388608 ∧ j - i ≤ 16777216 ∧ i ≤ 16777216 ∧ -16777216 ≤ j) ∧ P ((rangeL i j).map U.int) s2 := by
  rw [ok_rng]
  exact ⟨fun h => ok_mono h fun x s1 h => ok_mono h fun y s2 ⟨i, j, a, b, c⟩ => ⟨i, a, j, b, c⟩, fun h => ok_mono h fun x s1 h => ok_mono h fun y s2 ⟨i, a, j, b, c⟩ => ⟨i, j, a, b, c⟩⟩
theorem ok_mut0z {h : U → List U → Option (U × U)} {P : U → S → Prop} : Ok (mutM i (.pure []) ms h s) P ↔ Ok (ms s) fun us s1 => ∃ u, s1[i]? = some u ∧ ∃ z, h u us = some z ∧ P z.2 (s1.set i z.1) := by
  rw [ok_mut0]
  exact ⟨fun k => ok_mono k fun us s1 ⟨u, e, a, b, e2, q⟩ => ⟨u, e, (a, b), e2, q⟩, fun k => ok_mono k fun us s1 ⟨u, e, z, e2, q⟩ => ⟨u, e, z.1, z.2, e2, q⟩⟩
theorem ok_mutvz {h : U → List U → Option (U × U)} {P : U → S → Prop} : Ok (mutvM i ms h s) P ↔ Ok (ms s) fun us s1 => ∃ u, s1[i]? = some u ∧ ∃ z, h u us = some z ∧ P z.2 (s1.set i z.1) := by
  rw [ok_mutv]
  exact ⟨fun k => ok_mono k fun us s1 ⟨u, e, a, b, e2, q⟩ => ⟨u, e, (a, b), e2, q⟩, fun k => ok_mono k fun us s1 ⟨u, e, z, e2, q⟩ => ⟨u, e, z.1, z.2, e2, q⟩⟩
/-- an error of ours without fields -/
def Exc {β : Type} (o : Out S β) (c : Str) : Prop := ∃ s', o = .exc ⟨c, none⟩ s'
section
variable {β γ : Type} {c : Str}
theorem exc_bind {m : StM S β} {f : β → StM S γ} : Exc (StM.bind m f s) c ↔ Exc (m s) c ∨ Ok (m s) fun b s' => Exc (f b s') c := by
  unfold StM.bind
  cases e : m s with
  | ok b s' => simp only [Ok, Out.wp]; exact ⟨.inr, fun h => h.resolve_left fun ⟨_, h⟩ => by cases h⟩
  | exc e' s' => simp only [Ok, Out.wp]; exact ⟨fun ⟨_, h⟩ => .inl ⟨s', by cases h; rfl⟩, fun h => h.elim (fun ⟨_, h⟩ => ⟨s', by cases h; rfl⟩) False.elim⟩
  | stuck => simp only [Ok, Out.wp]; exact ⟨fun ⟨_, h⟩ => (by cases h), fun h => h.elim (fun ⟨_, h⟩ => by cases h) False.elim⟩
@[simp] theorem exc_raise {d : Str} : Exc (raiseM d s : Out S β) c ↔ d = c := ⟨fun ⟨_, h⟩ => (by cases h; rfl), fun h => (by subst h; exact ⟨s, rfl⟩)⟩
@[simp] theorem exc_pure {b : β} : Exc (StM.pure b s : Out S β) c ↔ False := ⟨fun ⟨_, h⟩ => (by cases h), False.elim⟩
@[simp] theorem exc_ok {b : β} : Exc (.ok b s : Out S β) c ↔ False := ⟨fun ⟨_, h⟩ => (by cases h), False.elim⟩
@[simp] theorem exc_v : Exc (vM i s) c ↔ False := ⟨fun ⟨_, h⟩ => (by unfold vM at h; split at h <;> cases h), False.elim⟩
@[simp] theorem exc_opt {o : Option β} : Exc ((StM.ofOpt o : StM S β) s) c ↔ False := ⟨fun ⟨_, h⟩ => (by cases o <;> cases h), False.elim⟩
@[simp] theorem exc_asg : Exc (asgM i m s) c ↔ Exc (m s) c := by
  unfold asgM
  rw [exc_bind]
  refine ⟨fun h => h.elim id fun h => ?_, .inl⟩
  obtain ⟨b, s', e, k⟩ := okF h
  obtain ⟨_, k⟩ := k; cases k
@[simp] theorem exc_ex : Exc (exM m s) c ↔ Exc (m s) c := by
  unfold exM
  rw [exc_bind]
  refine ⟨fun h => h.elim id fun h => ?_, .inl⟩
  obtain ⟨b, s', e, k⟩ := okF h
  obtain ⟨_, k⟩ := k; cases k
@[simp] theorem exc_ret : Exc (retM m s) c ↔ Exc (m s) c := by
  unfold retM
  rw [exc_bind]
  refine ⟨fun h => h.elim id fun h => ?_, .inl⟩
  obtain ⟨b, s', e, k⟩ := okF h
  obtain ⟨_, k⟩ := k; cases k
@[simp] theorem exc_ifM {a b : Mo β} : Exc (ifM n a b s) c ↔ Exc (n s) c ∨ Ok (n s) fun k s' => if k = true then Exc (a s') c else Exc (b s') c := by
  unfold ifM
  rw [exc_bind]
  have : ∀ (k : Bool) s', Exc ((if k = true then a else b) s') c ↔ if k = true then Exc (a s') c else Exc (b s') c := fun k s' => by split <;> exact Iff.rfl
  exact ⟨fun h => h.imp id fun h => ok_mono h fun o s' h => (this o s').mp h, fun h => h.imp id fun h => ok_mono h fun o s' h => (this o s').mpr h⟩
@[simp] theorem exc_call {fn : Fn} {L : LL} : Exc (callM fn L ms s) c ↔ Exc (ms s) c ∨ Ok (ms s) fun us s' => Exc (fn us) c := by
  unfold callM
  rw [exc_bind]
  have : ∀ us s', Exc ((match fn us with | .ok r fin => Out.ok r (wrL fin L s') | .exc e _ => .exc e s' | .stuck => .stuck : Out S U)) c ↔ Exc (fn us) c := fun us s' => by
    cases fn us with
    | ok r fin => exact ⟨fun ⟨_, h⟩ => (by cases h), fun ⟨_, h⟩ => by cases h⟩
    | exc e s2 => exact ⟨fun ⟨_, h⟩ => ⟨s2, by cases h; rfl⟩, fun ⟨_, h⟩ => ⟨s', by cases h; rfl⟩⟩
    | stuck => exact ⟨fun ⟨_, h⟩ => (by cases h), fun ⟨_, h⟩ => by cases h⟩
  exact ⟨fun h => h.imp id fun h => ok_mono h fun o s' h => (this o s').mp h, fun h => h.imp id fun h => ok_mono h fun o s' h => (this o s').mpr h⟩
@[simp] theorem exc_mk {cn : Str} {fn : Fn} : Exc (mkM cn fn ms s) c ↔ Exc (ms s) c ∨ Ok (ms s) fun us s' => Exc (fn (.ins cn [] :: us)) c := by
  unfold mkM
  rw [exc_bind]
  have : ∀ us s', Exc ((match fn (.ins cn [] :: us) with | .ok .none (u :: _) => Out.ok u s' | .ok _ _ => .stuck | .exc e _ => .exc e s' | .stuck => .stuck : Out S U)) c ↔ Exc (fn (.ins cn [] :: us)) c := fun us s' => by
    cases fn (.ins cn [] :: us) with
    | ok r fin => exact ⟨fun ⟨_, h⟩ => (by split at h <;> rename_i e <;> cases h <;> cases e), fun ⟨_, h⟩ => by cases h⟩
    | exc e s2 => exact ⟨fun ⟨_, h⟩ => ⟨s2, by cases h; rfl⟩, fun ⟨_, h⟩ => ⟨s', by cases h; rfl⟩⟩
    | stuck => exact ⟨fun ⟨_, h⟩ => (by cases h), fun ⟨_, h⟩ => by cases h⟩
  exact ⟨fun h => h.imp id fun h => ok_mono h fun o s' h => (this o s').mp h, fun h => h.imp id fun h => ok_mono h fun o s' h => (this o s').mpr h⟩
@[simp] theorem exc_op1 : Exc (op1M f m s) c ↔ Exc (m s) c := by
  unfold op1M
  rw [exc_bind]
  refine ⟨fun h => h.elim id fun h => ?_, .inl⟩
  obtain ⟨b, s', e, k⟩ := okF h
  exact (exc_opt.mp k).elim
@[simp] theorem ok_isE {tbl : List (Str × Bool)} {d : Str} {P : U → S → Prop} : Ok (isEM tbl ⟨d, none⟩ s) P ↔ ∃ b, tbl.lookup d = some b ∧ P (.bool b) s := by
  unfold isEM
  simp only
  cases tbl.lookup d with
  | none => exact ⟨False.elim, fun ⟨_, h, _⟩ => by cases h⟩
  | some b => exact ⟨fun h => ⟨b, rfl, h⟩, fun ⟨_, h, k⟩ => by cases h; exact k⟩
end
end
@[simp] theorem idx_l0 {a : U} {l : List U} : uIdx (.list (a :: l)) (.int 0) = some a := idx_at (n := 0) rfl rfl
@[simp] theorem idx_l1 {a b : U} {l : List U} : uIdx (.list (a :: b :: l)) (.int 1) = some b := idx_at (n := 1) rfl rfl
@[simp] theorem idx_l2 {a b c : U} {l : List U} : uIdx (.list (a :: b :: c :: l)) (.int 2) = some c := idx_at (n := 2) rfl rfl
theorem idx_atT {us : List U} {i : Int} {n : Nat} {u : U} (e : i = (n : Int)) (h : us[n]? = some u) : uIdx (.tuple us) (.int i) = some u := idx_at (us := us) e h
@[simp] theorem idx_t0 {a : U} {l : List U} : uIdx (.tuple (a :: l)) (.int 0) = some a := idx_atT (n := 0) rfl rfl
@[simp] theorem idx_t1 {a b : U} {l : List U} : uIdx (.tuple (a :: b :: l)) (.int 1) = some b := idx_atT (n := 1) rfl rfl
@[simp] theorem idx_t2 {a b c : U} {l : List U} : uIdx (.tuple (a :: b :: c :: l)) (.int 2) = some c := idx_atT (n := 2) rfl rfl
theorem cntS_nodup (xs : List Str) : (xs.Nodup → cntS xs = xs.length) ∧ (cntS xs = xs.length → xs.Nodup) := by
  have key : ∀ n (xs : List Str), xs.length = n → (xs.Nodup → cntS xs = xs.length) ∧ (cntS xs = xs.length → xs.Nodup) := by
    intro n
    induction n with
    | zero => intro xs h; rw [List.length_eq_zero_iff] at h; subst h; exact ⟨fun _ => rfl, fun _ => List.nodup_nil⟩
    | succ n ih =>
      intro xs h
      have hne : xs ≠ [] := fun e => by rw [e] at h; cases h
      obtain ⟨ys, y, rfl⟩ : ∃ ys y, xs = ys ++ [y] := ⟨xs.dropLast, xs.getLast hne, (List.dropLast_concat_getLast hne).symm⟩
      have hl : ys.length = n := by simp at h; omega
      have ih := ih ys hl
      have hle := cntS_le ys
      rw [cntS_snoc, List.length_append, List.length_singleton]
      constructor
      · intro nd
        rw [List.nodup_append] at nd
        rw [if_neg, ih.1 nd.1]
        intro c
        obtain ⟨z, hz, e⟩ := List.any_eq_true.mp c
        exact nd.2.2 z hz y (by simp) (by simpa using e)
      · intro c
        split at c
        · omega
        · rename_i hc
          exact nodup_snoc (ih.2 (by omega)) fun hy => hc (List.any_eq_true.mpr ⟨y, hy, by simp⟩)
  exact key _ xs rfl
theorem uLenSet_strs {xs : List Str} (h : xs.length ≤ 4000) : uLenSet (.list (xs.map U.str)) = some (.int (cntS xs : Nat)) := by
  simp [uLenSet, h]
theorem uLenSet_nd {xs : List Str} (h : xs.length ≤ 4000) (nd : xs.Nodup) : uLenSet (.list (xs.map U.str)) = some (.int xs.length) := by
  rw [uLenSet_strs h, (cntS_nodup xs).1 nd]
theorem all_trues {α : Type} {xs : List α} : (xs.map fun _ => true).all id = true := by simp
theorem uAdd_list {xs ys : List U} (h : xs.length + ys.length ≤ 1000000) : uAdd (.list xs) (.list ys) = some (.list (xs ++ ys)) := by
  have e : sizeLine = 16777216 := sizeLine_eq
  show (if xs.length + ys.length ≤ sizeLine then some (U.list (xs ++ ys)) else none) = _
  rw [if_pos (by omega)]
@[simp] theorem uList_list {us : List U} : uList (.list us) = some (.list us) := rfl
@[simp] theorem uList_tuple {us : List U} : uList (.tuple us) = some (.list us) := rfl
@[simp] theorem uTuple_list {us : List U} : uTuple (.list us) = some (.tuple us) := rfl
@[simp] theorem uTuple_tuple {us : List U} : uTuple (.tuple us) = some (.tuple us) := rfl
@[simp] theorem fld_names {w : Wb} : uFld "Web" "names" (webU w) = some (.list (w.pl.map U.str)) := rfl
@[simp] theorem fld_pairs {w : Wb} : uFld "Web" "pairs" (webU w) = some (.list (w.ties.map tieU)) := rfl
@[simp] theorem web_is_places {w : Wb} : isInsB "Web" "places" (webU w) = true := rfl
@[simp] theorem web_is_many {w : Wb} : isInsB "Web" "many" (webU w) = true := rfl
@[simp] theorem web_is_tie {w : Wb} : isInsB "Web" "tie" (webU w) = true := rfl
@[simp] theorem web_is_ties {w : Wb} : isInsB "Web" "ties" (webU w) = true := rfl
theorem str_ext {a b : Str} (h : a.cps.toList = b.cps.toList) : a = b := PySem.W.str_of_cps h
theorem str_cps {x y : Str} : (x ++ y).cps.toList = x.cps.toList ++ y.cps.toList := by
  show (x.cps ++ y.cps).toList = _
  simp
theorem join0_cps : ∀ ys : List Str, (Str.join ("" : Str) ys).cps.toList = (ys.map fun y => y.cps.toList).flatten
  | [] => rfl
  | [x] => by simp [Str.join]
  | x :: y :: r => by
    show (x ++ ("" : Str) ++ Str.join ("" : Str) (y :: r)).cps.toList = _
    rw [str_cps, str_cps, join0_cps (y :: r)]
    simp
    rfl
abbrev chS (c : Nat) : Str := ⟨#[c]⟩
theorem letters_list : ("abcdefghijklmnopqrstuvwxyz" : Str).cps.toList = List.range' 97 26 := by decide +kernel
theorem letter_idx {d : Int} (h0 : 0 ≤ d) (h : d < 26) : uIdx (.str "abcdefghijklmnopqrstuvwxyz") (.int d) = some (.str (chS (97 + d.toNat))) := by
  have e : sizeLine = 16777216 := sizeLine_eq
  have hl : ("abcdefghijklmnopqrstuvwxyz" : Str).length = 26 := by decide +kernel
  unfold uIdx
  simp only
  rw [if_pos (by rw [hl]; omega), letters_list]
  unfold atI ixN
  rw [if_pos h0, if_pos (by simp; omega)]
  simp
  rw [List.getElem?_range' (by omega)]
  simp
theorem low_ok {c : Nat} (h : lowC c = true) : PyData.strOk (chS c) = true := by
  unfold lowC at h
  simp at h
  have : ∀ k : Fin 26, PyData.strOk (chS (97 + k.val)) = true := by decide +kernel
  have := this ⟨c - 97, by omega⟩
  simp only at this
  rw [show 97 + (c - 97) = c by omega] at this
  exact this
/-- a text of low letters, joined from its letters -/
theorem join_letters {cs : List Nat} (h : ∀ c ∈ cs, lowC c = true) (hl : cs.length ≤ 1000) : ∃ z : Str, uJoin (.str "") (.list (cs.map fun c => U.str (chS c))) = some (.str z) ∧ z.cps.toList = cs := by
  have e : cs.map (fun c => U.str (chS c)) = (cs.map chS).map U.str := by rw [List.map_map]; rfl
  have hsum : ∀ cs : List Nat, ((cs.map chS).map (·.length)).sum = cs.length := fun cs => by
    induction cs with
    | nil => rfl
    | cons c cs ih => simp only [List.map_cons, List.sum_cons, ih, List.length_cons]; show 1 + _ = _; omega
  refine ⟨Str.join "" (cs.map chS), ?_, ?_⟩
  · rw [e, uJoin_ok (by decide +kernel) (fun y hy => by obtain ⟨c, hc, rfl⟩ := List.mem_map.mp hy; exact low_ok (h c hc)) (by rw [hsum, show ("" : Str).length = 0 from rfl]; omega)]
  · rw [join0_cps, List.map_map]
    show (cs.map fun c => [c]).flatten = cs
    induction cs with
    | nil => rfl
    | cons c cs ih => rw [List.map_cons, List.flatten_cons, ih (fun c hc => h c (List.mem_cons_of_mem _ hc)) (by simp at hl; omega) (by rw [List.map_map]; rfl)]; rfl
theorem nameB_of {z : Str} {cs : List Nat} (e : z.cps.toList = cs) (h1 : 1 ≤ cs.length) (h8 : cs.length ≤ 8) (h : ∀ c ∈ cs, lowC c = true) : nameB z = true := by
  have hl : z.length = cs.length := by rw [← e]; simp [Str.length]
  unfold nameB
  rw [e, hl, decide_eq_true h1, decide_eq_true h8, List.all_eq_true.mpr h]
  rfl
theorem nameB_ch {c : Nat} (h : lowC c = true) : nameB (chS c) = true := nameB_of (cs := [c]) rfl (by simp) (by simp) fun d hd => by rw [List.mem_singleton.mp hd]; exact h
/-- letters walked: the texts of one letter each -/
theorem signs_letters : L3.signs "abcdefghijklmnopqrstuvwxyz" = (List.range' 97 26).map chS := by
  unfold L3.signs
  rw [letters_list]
theorem chS_inj {c d : Nat} (h : chS c = chS d) : c = d := by
  have := congrArg (fun z : Str => z.cps.toList) h
  simpa using this
theorem chS_nodup {cs : List Nat} (h : cs.Nodup) : (cs.map chS).Nodup := List.Pairwise.map _ (fun _ _ hn e => hn (chS_inj e)) h
/-- of more letters than texts one is none of them -/
theorem fresh_letter {n : Nat} {taken : List Str} (h : taken.length < n) : ((((List.range' 97 n).map chS).filter fun z => !decide (z ∈ taken))) ≠ [] := fun e => by
  have hs : ∀ z ∈ (List.range' 97 n).map chS, z ∈ taken := fun z hz => by
    refine Classical.byContradiction fun hn => ?_
    have : z ∈ (((List.range' 97 n).map chS).filter fun z => !decide (z ∈ taken)) := List.mem_filter.mpr ⟨hz, by simp [hn]⟩
    rw [e] at this
    cases this
  have := nodup_le (chS_nodup List.nodup_range') hs
  simp at this
  omega
end V4
namespace V4
open PySem PySem.Spec PyProof.Rows L2 L3 RZ
section
variable {α : Type} [DecidableEq α] {e : α → Key} {ks : List α} {f : α → U} {k : α} {v : U}
def dU (e : α → Key) (ks : List α) (f : α → U) : U := .dict (ks.map fun k => (e k, f k))
def upd (f : α → U) (k : α) (v : U) : α → U := fun j => if j = k then v else f j
@[simp] theorem upd_same : upd f k v k = v := by simp [upd]
theorem upd_ne {j : α} (h : j ≠ k) : upd f k v j = f j := by simp [upd, h]
/-- keys that are unlike, laid unlike -/
def EInj (e : α → Key) : Prop := ∀ a b, e a = e b → a = b
theorem einj_str : EInj (α := Str) Sum.inr := fun a b h => by cases h; rfl
theorem einj_int : EInj (α := Int) Sum.inl := fun a b h => by cases h; rfl
theorem val_dU (he : EInj e) : valU (ks.map fun k => (e k, f k)) (e k) = if k ∈ ks then some (f k) else none := by
  unfold valU
  induction ks with
  | nil => rfl
  | cons j ks ih =>
    rw [List.map_cons, List.find?_cons]
    by_cases h : e j = e k
    · have := he _ _ h
      subst this
      simp
    · have hn : k ≠ j := fun c => h (by rw [c])
      have ih2 := ih
      rw [show decide ((e j, f j).fst = e k) = false by simp [h]]
      simp only [List.mem_cons, hn, false_or]
      exact ih
end
abbrev dS (ks : List Str) (f : Str → U) : U := dU Sum.inr ks f
abbrev dI (ks : List Int) (f : Int → U) : U := dU Sum.inl ks f
section
variable {ks : List Str} {f : Str → U} {k : Str} {v : U} {js : List Int} {g : Int → U} {j : Int}
@[simp] theorem keyU_str : keyU (.str k) = some (.inr k) := rfl
@[simp] theorem keyU_int : keyU (.int j) = some (.inl j) := rfl
@[simp] theorem in_dS : uDIn (.str k) (dS ks f) = some (.bool (decide (k ∈ ks))) := by
  show (some (Sum.inr k)).map (fun kk => U.bool (valU (ks.map fun k => (Sum.inr k, f k)) kk).isSome) = _
  rw [Option.map_some, val_dU einj_str]
  by_cases h : k ∈ ks <;> simp [h]
@[simp] theorem notin_dS : uDNotIn (.str k) (dS ks f) = some (.bool (!decide (k ∈ ks))) := by
  show (some (Sum.inr k)).map (fun kk => U.bool (!(valU (ks.map fun k => (Sum.inr k, f k)) kk).isSome)) = _
  rw [Option.map_some, val_dU einj_str]
  by_cases h : k ∈ ks <;> simp [h]
@[simp] theorem in_dI : uDIn (.int j) (dI js g) = some (.bool (decide (j ∈ js))) := by
  show (some (Sum.inl j)).map (fun kk => U.bool (valU (js.map fun k => (Sum.inl k, g k)) kk).isSome) = _
  rw [Option.map_some, val_dU einj_int]
  by_cases h : j ∈ js <;> simp [h]
@[simp] theorem notin_dI : uDNotIn (.int j) (dI js g) = some (.bool (!decide (j ∈ js))) := by
  show (some (Sum.inl j)).map (fun kk => U.bool (!(valU (js.map fun k => (Sum.inl k, g k)) kk).isSome)) = _
  rw [Option.map_some, val_dU einj_int]
  by_cases h : j ∈ js <;> simp [h]
end
section
variable {s : S} {i : Nat} {mb : Mo U} {ms : Mo (List U)} {v : U}
@[simp] theorem okS_pure {β : Type} {b : β} : okS ((StM.pure b : Mo β) s) = some (b, s) := rfl
@[simp] theorem okS_v : okS (vM i s) = (s[i]?).map fun u => (u, s) := by unfold vM; cases s[i]? <;> rfl
@[simp] theorem subM0 : subM i (.pure []) mb v s = (okS (mb s)).bind fun k => (k.2[i]?).bind fun u => (uSet u k.1 v).map fun u' => k.2.set i u' := by
  unfold subM
  show (okS (mb s)).bind _ = _
  congr 1
  funext k
  show (okS (atM i [] _ k.2)).map _ = _
  rw [atM_root]
  cases k.2[i]? with
  | none => rfl
  | some u =>
    simp only [Option.bind_some]
    cases uSet u k.1 v <;> rfl
@[simp] theorem subNM0 : subNM i (.pure []) mb v s = (okS (mb s)).bind fun k => (k.2[i]?).bind fun u => (uSetN u k.1 v).map fun u' => k.2.set i u' := by
  unfold subNM
  show (okS (mb s)).bind _ = _
  congr 1
  funext k
  show (okS (atM i [] _ k.2)).map _ = _
  rw [atM_root]
  cases k.2[i]? with
  | none => rfl
  | some u =>
    simp only [Option.bind_some]
    cases uSetN u k.1 v <;> rfl
@[simp] theorem ok_mutP {al : Bool} {h : U → List U → Option (U × U)} {P : U → S → Prop} : Ok (mutM i (pixM i (.pure []) mb al) ms h s) P ↔ Ok (mb s) fun k s1 => ∃ u, s1[i]? = some u ∧ ∃ w, getK (.ix k) u = some w ∧ Ok (ms s1) fun us s2 => ∃ u0, s2[i]? = some u0 ∧ ∃ u1, getK (.ix k) u0 = some u1 ∧ ∃ u' d, h u1 us = some (u', d) ∧ ∃ r, setK (.ix k) u0 u' = some r ∧ P d (s2.set i r) := by
  unfold mutM pixM
  simp only [ok_bind, ok_pure]
  have at1 : ∀ (k : U) (us : List U) (s2 : S), Ok (atM i [PK.ix k] (fun u => h u us) s2) P ↔ ∃ u0, s2[i]? = some u0 ∧ ∃ u1, getK (.ix k) u0 = some u1 ∧ ∃ u' d, h u1 us = some (u', d) ∧ ∃ r, setK (.ix k) u0 u' = some r ∧ P d (s2.set i r) := by
    intro k us s2
    unfold atM
    cases e0 : s2[i]? with
    | none => exact ⟨False.elim, fun ⟨_, h, _⟩ => by cases h⟩
    | some u0 =>
      simp only [getP, Option.bind_some, Option.some.injEq, exists_eq_left']
      cases e1 : getK (.ix k) u0 with
      | none => exact ⟨False.elim, fun ⟨_, h, _⟩ => by cases h⟩
      | some u1 =>
        simp only [Option.some.injEq, exists_eq_left']
        cases e2 : h u1 us with
        | none => exact ⟨False.elim, fun ⟨_, _, h, _⟩ => by cases h⟩
        | some z =>
          obtain ⟨u', d⟩ := z
          simp only [setP, getP, Option.bind_some]
          cases e3 : setK (.ix k) u0 u' with
          | none => exact ⟨False.elim, fun ⟨_, _, h, _, h2, _⟩ => by cases h; rw [e3] at h2; cases h2⟩
          | some r => exact ⟨fun p => ⟨u', d, rfl, r, e3, p⟩, fun ⟨_, _, h, _, h2, p⟩ => by cases h; rw [e3] at h2; cases h2; exact p⟩
  constructor
  · intro hh
    refine ok_mono hh fun k s1 h1 => ?_
    cases e : s1[i]? with
    | none => simp only [e] at h1; exact h1.elim
    | some u =>
      simp only [e, getP, Option.bind_some] at h1
      refine ⟨u, rfl, ?_⟩
      cases e1 : getK (.ix k) u with
      | none => simp only [e1] at h1; exact h1.elim
      | some w =>
        simp only [e1] at h1
        exact ⟨w, rfl, ok_mono h1 fun us s2 h2 => (at1 k us s2).mp h2⟩
  · intro hh
    refine ok_mono hh fun k s1 ⟨u, e, w, e1, h1⟩ => ?_
    simp only [e, getP, Option.bind_some, e1]
    change Ok (ms s1) fun us s2 => Ok (atM i [PK.ix k] (fun u => h u us) s2) P
    exact ok_mono h1 fun us s2 h2 => (at1 k us s2).mpr h2
theorem ok_mutPz {al : Bool} {h : U → List U → Option (U × U)} {P : U → S → Prop} : Ok (mutM i (pixM i (.pure []) mb al) ms h s) P ↔ Ok (mb s) fun k s1 => ∃ u, s1[i]? = some u ∧ ∃ w, getK (.ix k) u = some w ∧ Ok (ms s1) fun us s2 => ∃ u0, s2[i]? = some u0 ∧ ∃ u1, getK (.ix k) u0 = some u1 ∧ ∃ z, h u1 us = some z ∧ ∃ r, setK (.ix k) u0 z.1 = some r ∧ P z.2 (s2.set i r) := by
  rw [ok_mutP]
  exact ⟨fun k => ok_mono k fun k s1 ⟨u, e, w, e1, q⟩ => ⟨u, e, w, e1, ok_mono q fun us s2 ⟨u0, e0, u1, e1, a, b, e2, q⟩ => ⟨u0, e0, u1, e1, (a, b), e2, q⟩⟩, fun k => ok_mono k fun k s1 ⟨u, e, w, e1, q⟩ => ⟨u, e, w, e1, ok_mono q fun us s2 ⟨u0, e0, u1, e1, z, e2, q⟩ => ⟨u0, e0, u1, e1, z.1, z.2, e2, q⟩⟩⟩
end
section
variable {α β : Type} {xs : List α}
theorem enumL_length : (enumL xs).length = xs.length := by simp [enumL]
theorem enumL_iff {k : Int} {a : α} : (k, a) ∈ enumL xs ↔ ∃ i : Nat, k = i ∧ xs[i]? = some a := by
  rw [List.mem_iff_getElem?]
  constructor
  · rintro ⟨i, h⟩
    exact ⟨i, enumL_get h⟩
  · rintro ⟨i, rfl, h⟩
    have hl := (List.getElem?_eq_some_iff.mp h).1
    have hi : i < (enumL xs).length := by rw [enumL_length]; exact hl
    refine ⟨i, ?_⟩
    rw [List.getElem?_eq_getElem hi]
    have := enumL_get (List.getElem?_eq_getElem hi)
    rw [h] at this
    obtain ⟨a1, a2⟩ := this
    cases a2
    exact congrArg some (Prod.ext a1 rfl)
theorem enumL_mem {p : Int × α} (h : p ∈ enumL xs) : p.2 ∈ xs := by
  obtain ⟨i, _, h⟩ := enumL_iff.mp h
  exact List.mem_of_getElem? h
end
end V4
namespace V4
open PySem PySem.Spec PyProof.Rows L2 L3 RZ
section
variable {α : Type} [DecidableEq α]
abbrev Nt (α : Type) := List (Int × (α × α))
/-- the numbers of the ties that are gone, one behind another -/
inductive IsWay (ts : Nt α) (a : α) : α → List Int → Prop
  | nil : IsWay ts a a []
  | snoc {b c : α} {ks : List Int} {k : Int} : IsWay ts a b ks → (k, (b, c)) ∈ ts → IsWay ts a c (ks ++ [k])
theorem IsWay.reach {ts : Nt α} {a b : α} {ks : List Int} (h : IsWay ts a b ks) : Reach (ts.map (·.2)) a b := by
  induction h with
  | nil => exact .refl
  | snoc _ e ih => exact .step ih (List.mem_map.mpr ⟨_, e, rfl⟩)
theorem Reach.way {ts : Nt α} {a b : α} (h : Reach (ts.map (·.2)) a b) : ∃ ks, IsWay ts a b ks := by
  induction h with
  | refl => exact ⟨[], .nil⟩
  | step _ e ih =>
    obtain ⟨ks, h⟩ := ih
    obtain ⟨⟨k, p⟩, hp, e2⟩ := List.mem_map.mp e
    simp only at e2
    subst e2
    exact ⟨_, h.snoc hp⟩
structure Bfs (ts : Nt α) (a : α) (fs : List α) (ws : α → List Int) (i : Nat) : Prop where
  nd : fs.Nodup
  hd : fs[0]? = some a
  w0 : ws a = []
  way : ∀ z ∈ fs, IsWay ts a z (ws z)
  mono : fs.Pairwise fun x y => (ws x).length ≤ (ws y).length
  top : ∀ h, fs[i]? = some h → ∀ z ∈ fs, (ws z).length ≤ (ws h).length + 1
  done : ∀ x ∈ fs.take i, ∀ k y, (k, (x, y)) ∈ ts → y ∈ fs ∧ (ws y).length ≤ (ws x).length + 1
  le : ∀ j z, fs[j]? = some z → (ws z).length ≤ j
variable {ts : Nt α} {a h y : α} {fs : List α} {ws : α → List Int} {i : Nat} {k : Int}
theorem Bfs.a_mem (b : Bfs ts a fs ws i) : a ∈ fs := List.mem_of_getElem? b.hd
/-- the end: all that is reached, by ways with as few ties as any -/
theorem Bfs.least (b : Bfs ts a fs ws i) (hi : fs.length ≤ i) {z : α} {ks : List Int} (w : IsWay ts a z ks) : z ∈ fs ∧ (ws z).length ≤ ks.length := by
  have ht : fs.take i = fs := List.take_of_length_le hi
  induction w with
  | nil => exact ⟨b.a_mem, by rw [b.w0]; exact Nat.zero_le _⟩
  | snoc _ e ih =>
    obtain ⟨h1, h2⟩ := b.done _ (by rw [ht]; exact ih.1) _ _ e
    exact ⟨h1, by rw [List.length_append]; simp; omega⟩
theorem Bfs.mem_iff (b : Bfs ts a fs ws i) (hi : fs.length ≤ i) {z : α} : z ∈ fs ↔ Reach (ts.map (·.2)) a z :=
  ⟨fun h => (b.way z h).reach, fun h => by obtain ⟨ks, w⟩ := h.way; exact (b.least hi w).1⟩
end
end V4
namespace V4
open PySem PySem.Spec PyProof.Rows L2 L3 RZ
@[simp] theorem uReverse_list {us : List U} : uReverse (.list us) [] = some (.list us.reverse, .none) := rfl
@[simp] theorem uClear_list {us : List U} : uClear (.list us) [] = some (.list [], .none) := rfl
@[simp] theorem uAddI_int {i j : Int} : uAddI (.int i) (.int j) = some (.int (i + j)) := rfl
@[simp] theorem uSubI_int {i j : Int} : uSubI (.int i) (.int j) = some (.int (i - j)) := rfl
end V4
namespace V4
open PySem PySem.Spec PyProof.Rows L2 L3 RZ
theorem sIx_n {n d : Nat} {k : Int} (h : 0 ≤ k) : HT.sIx n d (some k) = min k.toNat n := by
  show (if k < 0 then (k + (n : Int)).toNat else min k.toNat n) = _
  rw [if_neg (by omega)]
theorem cutU_take {us : List U} {k : Int} (h : 0 ≤ k) : L3.cutU us none (some k) = us.take k.toNat := by
  unfold L3.cutU
  rw [sIx_n h]
  show (us.drop 0).take (min k.toNat us.length - 0) = _
  rw [List.drop_zero, Nat.sub_zero, List.take_eq_take_iff]
  omega
theorem cutU_drop {us : List U} {k : Int} (h : 0 ≤ k) : L3.cutU us (some k) none = us.drop k.toNat := by
  unfold L3.cutU
  rw [sIx_n h]
  show (us.drop (min k.toNat us.length)).take (us.length - min k.toNat us.length) = _
  rw [List.take_of_length_le (by rw [List.length_drop]; omega)]
  by_cases c : k.toNat ≤ us.length
  · rw [Nat.min_eq_left c]
  · rw [Nat.min_eq_right (by omega), List.drop_of_length_le (by omega), List.drop_of_length_le (by omega)]
theorem uCut_take {us : List U} {k : Int} (h : 0 ≤ k) : uCut (.list us) none (some k) = some (.list (us.take k.toNat)) := by
  show some (U.list (L3.cutU us none (some k))) = _
  rw [cutU_take h]
theorem uCut_drop {us : List U} {k : Int} (h : 0 ≤ k) : uCut (.list us) (some k) none = some (.list (us.drop k.toNat)) := by
  show some (U.list (L3.cutU us (some k) none)) = _
  rw [cutU_drop h]
/-- what can be asked whether it is a text -/
def AskS (d : U) : Prop := (∃ z : Str, d = .str z ∧ z.length ≤ 1000000) ∨ uIsi "str" d = some (.bool false)
theorem AskS.str {z : Str} (h : z.length ≤ 1000000) : AskS (.str z) := .inl ⟨z, rfl, h⟩
theorem AskS.name {z : Str} (h : nameB z = true) : AskS (.str z) := .str (by have := nameB_len h; omega)
end V4
namespace V4
open PySem PySem.Spec PyProof.Rows L2 L3 RZ
section
variable {s : S} {i : Nat} {m ma mb : Mo U} {ms : Mo (List U)} {p : U → Bool} {f : U → U → Option U} {g : U → List U → Option (U × U)}
theorem ok_dct1 {P : U → S → Prop} : Ok (dct1M ma mb s) P ↔ Ok (ma s) fun u s1 => Ok (mb s1) fun v s2 => ∃ k, keyU u = some k ∧ P (.dict [(k, v)]) s2 := by unfold dct1M; simp
theorem ok_atm {P : U → S → Prop} : Ok (atmM m s) P ↔ Ok (m s) fun u s1 => flatU u = true ∧ P u s1 := by
  unfold atmM
  rw [ok_bind]
  refine ⟨fun h => ok_mono h fun u s1 h => ?_, fun h => ok_mono h fun u s1 h => ?_⟩
  · split at h
    · rename_i e; exact ⟨e, h⟩
    · exact h.elim
  · rw [if_pos h.1]; exact h.2
theorem ok_ck1 {P : U → S → Prop} : Ok (ck1M p f ma mb s) P ↔ Ok (ma s) fun u s1 => p u = true ∧ Ok (mb s1) fun z s2 => ∃ d, f u z = some d ∧ P d s2 := by
  unfold ck1M
  simp only [ok_bind]
  refine ⟨fun h => ok_mono h fun u s1 h => ?_, fun h => ok_mono h fun u s1 h => ?_⟩
  · split at h
    · rename_i e; simp at h; exact ⟨e, h⟩
    · exact h.elim
  · rw [if_pos h.1]; simp; exact h.2
theorem ok_tmut {P : U → S → Prop} : Ok (tmutM ma ms g s) P ↔ Ok (ma s) fun u s1 => isLstU u = true ∧ Ok (ms s1) fun us s2 => ∃ z, g u us = some z ∧ P z.2 s2 := by
  unfold tmutM
  simp only [ok_bind]
  refine ⟨fun h => ok_mono h fun u s1 h => ?_, fun h => ok_mono h fun u s1 h => ?_⟩
  · split at h
    · rename_i e
      simp at h
      refine ⟨e, ok_mono h fun us s2 h => ?_⟩
      obtain ⟨b, ⟨a, e⟩, q⟩ := h
      exact ⟨(a, b), e, q⟩
    · exact h.elim
  · rw [if_pos h.1]
    simp
    refine ok_mono h.2 fun us s2 ⟨⟨a, b⟩, e, q⟩ => ⟨b, ⟨a, e⟩, q⟩
theorem ok_unq {P : Option U → S → Prop} : Ok (unqM i s) P ↔ ∃ u, s[i]? = some u ∧ flatU u = false ∧ P none s := by
  unfold unqM
  cases s[i]? with
  | none => exact ⟨False.elim, fun ⟨_, h, _⟩ => by cases h⟩
  | some u =>
    simp only
    by_cases h : flatU u = true
    · rw [if_pos h]; exact ⟨False.elim, fun ⟨_, e, h2, _⟩ => by cases e; rw [h] at h2; cases h2⟩
    · rw [if_neg h]; exact ⟨fun k => ⟨u, rfl, by simpa using h, k⟩, fun ⟨_, _, _, k⟩ => k⟩
theorem ok_rdP {al : Bool} {P : U → S → Prop} : Ok (rdM i (pixM i (.pure []) mb al) s) P ↔ Ok (mb s) fun k s1 => ∃ u, s1[i]? = some u ∧ ∃ w, getK (.ix k) u = some w ∧ P w s1 := by
  unfold rdM pixM
  simp only [ok_bind, ok_pure]
  refine ⟨fun h => ok_mono h fun k s1 h => ?_, fun h => ok_mono h fun k s1 h => ?_⟩
  · cases e : s1[i]? with
    | none => simp only [e] at h; exact h.elim
    | some u =>
      simp only [e, getP, Option.bind_some] at h
      cases e1 : getK (.ix k) u with
      | none => simp only [e1] at h; exact h.elim
      | some w =>
        simp only [e1] at h
        have h : Ok (match s1[i]? with | some u => (match getP [PK.ix k] u with | some w => (.ok w s1 : Out S U) | none => .stuck) | none => .stuck) P := h
        simp only [e, getP, Option.bind_some, e1] at h
        exact ⟨u, rfl, w, e1, h⟩
  · obtain ⟨u, e, w, e1, h⟩ := h
    simp only [e, getP, Option.bind_some, e1]
    show Ok (match s1[i]? with | some u => (match getP [PK.ix k] u with | some w => (.ok w s1 : Out S U) | none => .stuck) | none => .stuck) P
    simp only [e, getP, Option.bind_some, e1]
    exact h
end
theorem uGetD_dS {ks : List Str} {f : Str → U} {k : Str} : uGetD (dS ks f) (.str k) = some (if k ∈ ks then f k else .none) := by
  show (some (Sum.inr k)).map (fun kk => (valU (ks.map fun k => (Sum.inr k, f k)) kk).getD .none) = _
  rw [Option.map_some, val_dU einj_str]
  by_cases h : k ∈ ks <;> simp [h]
theorem isDic_dS {ks : List Str} {f : Str → U} : isDicU (dS ks f) = true := rfl
theorem isLst_list {us : List U} : isLstU (.list us) = true := rfl
theorem uNe_nil {xs : List Str} : uNe (.list (xs.map U.str)) (.list []) = some (.bool (!decide (xs = []))) := good_ne good_strs xs []
theorem uEq_nil {xs : List Str} : uEq (.list (xs.map U.str)) (.list []) = some (.bool (decide (xs = []))) := good_eq good_strs xs []
/-- the ties that lead from a place, with their numbers -/
def outs (ts : List (Int × (Str × Str))) (z : Str) : List (Int × Str) := (ts.filter fun t => decide (t.2.1 = z)).map fun t => (t.1, t.2.2)
/-- what first_ways tells -/
structure Firsts (w : Wb) (a : Str) (fs : List Str) (ws : Str → List Int) : Prop where
  nd : fs.Nodup
  mem : ∀ z, z ∈ fs ↔ Reach w.ties a z
  way : ∀ z ∈ fs, IsWay (enumL w.ties) a z (ws z)
  least : ∀ z ks, IsWay (enumL w.ties) a z ks → (ws z).length ≤ ks.length
  few : fs.length ≤ 12
  short : ∀ z ∈ fs, (ws z).length ≤ 12
theorem nameB_strOk {z : Str} (h : nameB z = true) : PyData.strOk z = true := by
  unfold PyData.strOk
  rw [← Array.all_toList]
  refine List.all_eq_true.mpr fun c hc => ?_
  have h1 := low_ok (nameB_low h c hc)
  unfold PyData.strOk at h1
  rw [← Array.all_toList] at h1
  exact List.all_eq_true.mp h1 c (by simp)
theorem Firsts.far {w : Wb} (h : w.Ok) {a : Str} (ha : a ∈ w.pl) {fs : List Str} {ws : Str → List Int} (f : Firsts w a fs ws) : sortS fs = w.far a := h.far_of ha f.nd f.mem
theorem ok_late {i : Nat} {ms : Mo (List U)} {s : S} {P : List U → S → Prop} : Ok (lateM i ms s) P ↔ Ok (ms s) fun us s1 => ∃ u, s1[i]? = some u ∧ P (u :: us) s1 := by
  unfold lateM
  rw [ok_bind]
  refine ⟨fun h => ok_mono h fun us s1 h => ?_, fun h => ok_mono h fun us s1 ⟨u, e, h⟩ => ?_⟩
  · cases e : s1[i]? with
    | none => simp only [e] at h; exact h.elim
    | some u => simp only [e] at h; exact ⟨u, rfl, h⟩
  · simp only [e]; exact h
theorem ok_sla {m : Mo U} {l h : Mo (Option Int)} {s : S} {P : U → S → Prop} : Ok (slaM m l h s) P ↔ Ok (m s) fun x s1 => Ok (l s1) fun a s2 => Ok (h s2) fun b s3 => ∃ d, uCutA x a b = some d ∧ P d s3 := by unfold slaM; simp
end V4
namespace V4
open PySem PySem.Spec PyProof.Rows L2 L3 RZ
def ltB (a b : Str) : Bool := decide (a.cps.toList < b.cps.toList)
def riseB (xs : List Str) : Bool := (xs.zip (xs.drop 1)).all fun p => ltB p.1 p.2
def partB (w : Wb) (xs : List Str) : Bool := decide (1 ≤ xs.length) && decide (xs.length < w.pl.length) && xs.all (fun z => decide (z ∈ w.pl)) && riseB xs
def outB (ties : List (Str × Str)) (xs : List Str) : Bool := ties.any fun e => decide (e.1 ∈ xs) && !decide (e.2 ∈ xs)
def cutB (w : Wb) (xs : List Str) : Bool := partB w xs && !outB w.ties xs
theorem rise_pw : ∀ {xs : List Str}, riseB xs = true → xs.Pairwise fun a b => a.cps.toList < b.cps.toList
  | [], _ => .nil
  | [x], _ => List.pairwise_singleton _ _
  | x :: y :: r, h => by
    have h : (ltB x y && riseB (y :: r)) = true := h
    rw [Bool.and_eq_true] at h
    have hxy : x.cps.toList < y.cps.toList := of_decide_eq_true h.1
    have ih := rise_pw h.2
    refine List.pairwise_cons.mpr ⟨fun z hz => ?_, ih⟩
    rcases List.mem_cons.mp hz with rfl | hz
    · exact hxy
    · exact List.lt_trans hxy ((List.pairwise_cons.mp ih).1 z hz)
theorem pw_rise : ∀ {xs : List Str}, (xs.Pairwise fun a b => a.cps.toList < b.cps.toList) → riseB xs = true
  | [], _ => rfl
  | [x], _ => rfl
  | x :: y :: r, h => by
    obtain ⟨h1, h2⟩ := List.pairwise_cons.mp h
    show (ltB x y && riseB (y :: r)) = true
    rw [Bool.and_eq_true]
    exact ⟨decide_eq_true (h1 y List.mem_cons_self), pw_rise h2⟩
theorem rise_iff {xs : List Str} : riseB xs = decide (xs = sortS (nubL xs)) := by
  rw [Bool.eq_iff_iff, decide_eq_true_iff]
  constructor
  · intro h
    have p := rise_pw h
    have nd : xs.Nodup := p.imp fun {a b} h e => by subst e; exact List.lt_irrefl _ h
    have pm : xs.Perm (nubL xs) := (List.perm_ext_iff_of_nodup nd nubL_nodup).mpr fun z => nubL_mem.symm
    exact sortS_uniq pm (p.imp fun {a b} h => leS_iff.mpr (List.le_of_lt h))
  · intro h
    have nd : xs.Nodup := by rw [h]; exact sortS_nodup nubL_nodup
    have pw : xs.Pairwise fun a b => leS a b = true := by rw [h]; exact sortS_pw _
    refine pw_rise (List.Pairwise.imp₂ (fun a b h1 (h2 : a ≠ b) => ?_) pw nd)
    by_cases c : a.cps.toList < b.cps.toList
    · exact c
    · exact (h2 (leS_anti h1 (leS_iff.mpr (List.not_lt.mp c)))).elim
theorem outB_iff {ties : List (Str × Str)} {xs : List Str} : outB ties xs = false ↔ ∀ e ∈ ties, e.1 ∈ xs → e.2 ∈ xs := by
  unfold outB
  rw [← Bool.not_eq_true, List.any_eq_true]
  constructor
  · intro h e he h1
    refine Decidable.byContradiction fun h2 => h ⟨e, he, by simp [h1, h2]⟩
  · rintro h ⟨e, he, k⟩
    rw [Bool.and_eq_true, Bool.not_eq_true', decide_eq_true_iff, decide_eq_false_iff_not] at k
    exact k.2 (h e he k.1)
noncomputable def Wb.least (w : Wb) (a b : Str) : U := if b ∈ w.far a then .none else cutU (w.far a)
section
variable {w : Wb} {a b : Str}
theorem Wb.Ok.far_filter (w : Wb) (a : Str) : w.far a = w.pl.filter fun z => decide (z ∈ w.far a) := by
  classical
  have e : w.far a = w.pl.filter fun z => decide (Reach w.ties a z) := by unfold Wb.far reachIn; rfl
  conv => lhs; rw [e]
  refine List.filter_congr fun z hz => decide_eq_decide.mpr ?_
  unfold Wb.far
  rw [mem_reachIn]
  exact ⟨fun r => ⟨hz, r⟩, fun r => r.2⟩
end
end V4
namespace V4
open PySem PySem.Spec PyProof.Rows L2 L3 RZ
section
variable {α : Type} [DecidableEq α] {ts : List (α × α)} {xs ys : List α} {a b c x y : α}
/-- ties between some, in either direction -/
def symL (ts : List (α × α)) (xs : List α) : List (α × α) := (ts ++ ts.map fun e => (e.2, e.1)).filter fun e => decide (e.1 ∈ xs) && decide (e.2 ∈ xs)
theorem symL_mem : (x, y) ∈ symL ts xs ↔ ((x, y) ∈ ts ∨ (y, x) ∈ ts) ∧ x ∈ xs ∧ y ∈ xs := by
  unfold symL
  rw [List.mem_filter, List.mem_append, List.mem_map]
  simp only [Bool.and_eq_true, decide_eq_true_eq]
  constructor
  · rintro ⟨h | ⟨e, h, k⟩, h2⟩
    · exact ⟨.inl h, h2⟩
    · obtain ⟨e1, e2⟩ := e
      cases k
      exact ⟨.inr h, h2⟩
  · rintro ⟨h | h, h2⟩
    · exact ⟨.inl h, h2⟩
    · exact ⟨.inr ⟨(y, x), h, rfl⟩, h2⟩
theorem symL_swap (h : (x, y) ∈ symL ts xs) : (y, x) ∈ symL ts xs := by
  rw [symL_mem] at h ⊢
  exact ⟨h.1.symm, h.2.2, h.2.1⟩
theorem join_symm (h : Reach (symL ts xs) a b) : Reach (symL ts xs) b a := by
  induction h with
  | refl => exact .refl
  | step _ e ih => exact (Reach.one (symL_swap e)).trans ih
noncomputable def compOf (ts : List (α × α)) (xs : List α) (a : α) : List α := reachIn (symL ts xs) xs a
theorem mem_comp : b ∈ compOf ts xs a ↔ b ∈ xs ∧ Reach (symL ts xs) a b := mem_reachIn
theorem comp_self (ha : a ∈ xs) : a ∈ compOf ts xs a := mem_comp.mpr ⟨ha, .refl⟩
/-- all hang together -/
def Conn (ts : List (α × α)) (xs : List α) : Prop := ∀ a ∈ xs, ∀ b ∈ xs, Reach (symL ts xs) a b
theorem conn_eq (h : Conn ts xs) (ha : a ∈ xs) : compOf ts xs a = xs := by
  classical
  unfold compOf reachIn
  exact List.filter_eq_self.mpr fun z hz => by simpa using h a ha z hz
/-- a list of just the pieces -/
structure IsPcs (ts : List (α × α)) (xs : List α) (L : List (List α)) : Prop where
  nd : L.Nodup
  mem : ∀ p, p ∈ L ↔ ∃ a ∈ xs, p = compOf ts xs a
theorem IsPcs.perm {L M : List (List α)} (h : IsPcs ts xs L) (k : IsPcs ts xs M) : L.Perm M := (List.perm_ext_iff_of_nodup h.nd k.nd).mpr fun p => (h.mem p).trans (k.mem p).symm
theorem IsPcs.one {L : List (List α)} (h : IsPcs ts xs L) : L.length = 1 ↔ xs ≠ [] ∧ Conn ts xs := by
  constructor
  · intro e
    obtain ⟨p, rfl⟩ := List.length_eq_one_iff.mp e
    obtain ⟨a, ha, rfl⟩ := (h.mem p).mp List.mem_cons_self
    refine ⟨fun e => by rw [e] at ha; (cases ha), fun x hx y hy => ?_⟩
    have e1 := List.mem_singleton.mp ((h.mem _).mpr ⟨x, hx, rfl⟩)
    have e2 := List.mem_singleton.mp ((h.mem _).mpr ⟨y, hy, rfl⟩)
    have := comp_self (ts := ts) hy
    rw [e2, ← e1] at this
    exact (mem_comp.mp this).2
  · rintro ⟨h1, h2⟩
    obtain ⟨a, ha⟩ := List.exists_mem_of_ne_nil _ h1
    have : L.Perm [xs] := (List.perm_ext_iff_of_nodup h.nd (by simp)).mpr fun p => by
      rw [h.mem, List.mem_singleton]
      constructor
      · rintro ⟨b, hb, rfl⟩; exact conn_eq h2 hb
      · rintro rfl; exact ⟨a, ha, (conn_eq h2 ha).symm⟩
    rw [this.length_eq]; rfl
theorem sub_filter : ∀ {xs P : List α}, xs.Sublist P → P.Nodup → xs = P.filter fun z => decide (z ∈ xs) := by
  intro xs P h
  induction h with
  | slnil => intro _; rfl
  | @cons l1 l2 a h ih =>
    intro nd
    obtain ⟨h1, h2⟩ := List.nodup_cons.mp nd
    rw [List.filter_cons_of_neg (by simp; exact fun k => h1 (h.subset k))]
    exact ih h2
  | @cons_cons l1 l2 a h ih =>
    intro nd
    obtain ⟨h1, h2⟩ := List.nodup_cons.mp nd
    rw [List.filter_cons_of_pos (by simp)]
    congr 1
    refine (ih h2).trans (List.filter_congr fun z hz => ?_)
    have : z ≠ a := fun k => h1 (k ▸ hz)
    simp [this]
def Closed (ts : List (α × α)) (C : List α) : Prop := ∀ e ∈ ts, e.1 ∈ C → e.2 ∈ C
end
end V4
namespace V4
open PySem PySem.Spec PyProof.Rows L2 L3 RZ
structure IsCut (w : Wb) (C : List Str) : Prop where
  sub : C.Sublist w.pl
  ne : C ≠ []
  lack : ∃ z ∈ w.pl, z ∉ C
  cl : Closed w.ties C
theorem sub_sorted {w : Wb} (W : w.Ok) {C : List Str} (h : C.Sublist w.pl) : sortS C = C := by
  rw [sub_filter h W.nd]; exact sortS_filter W.srt
theorem sub_rise {w : Wb} (W : w.Ok) {C : List Str} (h : C.Sublist w.pl) : riseB C = true := by
  have h1 := sub_sorted W h
  have nd := h.nodup W.nd
  rw [rise_iff, decide_eq_true_iff]
  have e : sortS (nubL C) = sortS C := sortS_same nubL_nodup nd fun a => nubL_mem
  rw [e, h1]
theorem IsCut.cutB {w : Wb} {C : List Str} (W : w.Ok) (h : IsCut w C) : cutB w C = true := by
  obtain ⟨z, hz, hn⟩ := h.lack
  have h1 : C.length < w.pl.length := by
    have h2 := nodup_le (xs := z :: C) (ys := w.pl) (List.nodup_cons.mpr ⟨hn, h.sub.nodup W.nd⟩) fun y hy => by
      rcases List.mem_cons.mp hy with rfl | hy
      · exact hz
      · exact h.sub.subset hy
    simp only [List.length_cons] at h2
    omega
  have h3 : 1 ≤ C.length := List.length_pos_iff.mpr h.ne
  have h4 : outB w.ties C = false := outB_iff.mpr h.cl
  unfold V4.cutB partB
  rw [sub_rise W h.sub, h4, decide_eq_true h3, decide_eq_true h1, List.all_eq_true.mpr fun z hz => decide_eq_true (h.sub.subset hz)]
  rfl
theorem IsCut.len {w : Wb} {C : List Str} (W : w.Ok) (h : IsCut w C) : 1 ≤ C.length ∧ C.length < w.pl.length := by
  have := h.cutB W
  unfold V4.cutB partB at this
  simp only [Bool.and_eq_true, decide_eq_true_eq] at this
  exact this.1.1.1
end V4
namespace V4
open PySem PySem.Spec PyProof.Rows L2 L3 RZ
section
variable {α β : Type} {ts ts2 : List (α × α)} {a b c : α} {n m : Nat}
inductive Walk (ts : List (α × α)) (a : α) : α → Nat → Prop
  | nil : Walk ts a a 0
  | snoc {b c : α} {n : Nat} : Walk ts a b n → (b, c) ∈ ts → Walk ts a c (n + 1)
theorem Walk.one (e : (a, b) ∈ ts) : Walk ts a b 1 := .snoc .nil e
theorem Walk.reach (h : Walk ts a b n) : Reach ts a b := by
  induction h with
  | nil => exact .refl
  | snoc _ e ih => exact .step ih e
theorem Reach.walk (h : Reach ts a b) : ∃ n, Walk ts a b n := by
  induction h with
  | refl => exact ⟨0, .nil⟩
  | step _ e ih => obtain ⟨n, w⟩ := ih; exact ⟨n + 1, .snoc w e⟩
theorem IsWay.walk {ks : List Int} (h : IsWay (enumL ts) a b ks) : Walk ts a b ks.length := by
  induction h with
  | nil => exact .nil
  | snoc _ e ih => rw [List.length_append]; exact .snoc ih (enumL_mem e)
theorem Walk.way (h : Walk ts a b n) : ∃ ks, IsWay (enumL ts) a b ks ∧ ks.length = n := by
  induction h with
  | nil => exact ⟨[], .nil, rfl⟩
  | snoc _ e ih =>
    obtain ⟨ks, h1, h2⟩ := ih
    obtain ⟨i, hi⟩ := List.mem_iff_getElem?.mp e
    exact ⟨ks ++ [(i : Int)], h1.snoc (enumL_iff.mpr ⟨i, rfl, hi⟩), by simp [h2]⟩
theorem Walk.mono (h : Walk ts a b n) (k : ∀ e ∈ ts, e ∈ ts2) : Walk ts2 a b n := by
  induction h with
  | nil => exact .nil
  | snoc _ e ih => exact .snoc ih (k _ e)
theorem Walk.map {f : α → β} (h : Walk ts a b n) : Walk (ts.map fun e => (f e.1, f e.2)) (f a) (f b) n := by
  induction h with
  | nil => exact .nil
  | @snoc b c n _ e ih => exact .snoc ih (List.mem_map.mpr ⟨(b, c), e, rfl⟩)
end
structure Iso (w w2 : Wb) (f : Str → Str) : Prop where
  pl : ∀ z, z ∈ w2.pl ↔ ∃ a ∈ w.pl, z = f a
  inj : ∀ a ∈ w.pl, ∀ b ∈ w.pl, f a = f b → a = b
  ties : ∀ e, e ∈ w2.ties ↔ ∃ d ∈ w.ties, e = (f d.1, f d.2)
section
variable {w w2 : Wb} {f : Str → Str} {a b : Str} {n : Nat}
theorem Iso.to (I : Iso w w2 f) (h : Walk w.ties a b n) : Walk w2.ties (f a) (f b) n := h.map.mono fun e he => by
  obtain ⟨d, hd, rfl⟩ := List.mem_map.mp he
  exact (I.ties _).mpr ⟨d, hd, rfl⟩
theorem Iso.back (I : Iso w w2 f) (hin : ∀ e ∈ w.ties, e.1 ∈ w.pl ∧ e.2 ∈ w.pl) (ha : a ∈ w.pl) {y : Str} (h : Walk w2.ties (f a) y n) : ∃ b ∈ w.pl, y = f b ∧ Walk w.ties a b n := by
  induction h with
  | nil => exact ⟨a, ha, rfl, .nil⟩
  | @snoc y z n _ e ih =>
    obtain ⟨b, hb, rfl, hw⟩ := ih
    obtain ⟨d, hd, e2⟩ := (I.ties _).mp e
    have e3 := congrArg Prod.fst e2
    have e4 := congrArg Prod.snd e2
    simp only at e3 e4
    have h1 := hin d hd
    have : b = d.1 := I.inj b hb d.1 h1.1 e3
    exact ⟨d.2, h1.2, e4, .snoc hw (this ▸ hd)⟩
theorem Iso.walk (I : Iso w w2 f) (hin : ∀ e ∈ w.ties, e.1 ∈ w.pl ∧ e.2 ∈ w.pl) (ha : a ∈ w.pl) (hb : b ∈ w.pl) : Walk w2.ties (f a) (f b) n ↔ Walk w.ties a b n := by
  refine ⟨fun h => ?_, I.to⟩
  obtain ⟨c, hc, e, h⟩ := I.back hin ha h
  rw [I.inj b hb c hc e]; exact h
theorem Iso.reach (I : Iso w w2 f) (hin : ∀ e ∈ w.ties, e.1 ∈ w.pl ∧ e.2 ∈ w.pl) (ha : a ∈ w.pl) (hb : b ∈ w.pl) : Reach w2.ties (f a) (f b) ↔ Reach w.ties a b :=
  ⟨fun h => by obtain ⟨n, k⟩ := h.walk; exact ((I.walk hin ha hb).mp k).reach, fun h => by obtain ⟨n, k⟩ := h.walk; exact ((I.walk hin ha hb).mpr k).reach⟩
theorem Iso.join (I : Iso w w2 f) (hin : ∀ e ∈ w.ties, e.1 ∈ w.pl ∧ e.2 ∈ w.pl) (ha : a ∈ w.pl) (hb : b ∈ w.pl) : Reach (symL w2.ties w2.pl) (f a) (f b) ↔ Reach (symL w.ties w.pl) a b := by
  have J : Iso ⟨w.pl, symL w.ties w.pl⟩ ⟨w2.pl, symL w2.ties w2.pl⟩ f := ⟨I.pl, I.inj, fun ⟨x, y⟩ => by
    rw [symL_mem]
    constructor
    · rintro ⟨h | h, h2, h3⟩
      · obtain ⟨d, hd, e⟩ := (I.ties _).mp h
        exact ⟨d, symL_mem.mpr ⟨.inl hd, hin d hd⟩, e⟩
      · obtain ⟨d, hd, e⟩ := (I.ties _).mp h
        cases e
        exact ⟨(d.2, d.1), symL_mem.mpr ⟨.inr hd, (hin d hd).2, (hin d hd).1⟩, rfl⟩
    · rintro ⟨⟨u, v⟩, hd, e⟩
      cases e
      obtain ⟨h1, h2, h3⟩ := symL_mem.mp hd
      refine ⟨h1.imp (fun h => (I.ties _).mpr ⟨_, h, rfl⟩) (fun h => (I.ties _).mpr ⟨_, h, rfl⟩), (I.pl _).mpr ⟨u, h2, rfl⟩, (I.pl _).mpr ⟨v, h3, rfl⟩⟩⟩
  exact J.reach (fun e he => (symL_mem (x := e.1) (y := e.2)).mp he |>.2) ha hb
end
theorem Firsts.same {w w2 : Wb} {a b x y : Str} {fs fs2 : List Str} {ws ws2 : Str → List Int} (F : Firsts w a fs ws) (F2 : Firsts w2 x fs2 ws2) (key : ∀ n, Walk w2.ties x y n ↔ Walk w.ties a b n) : (b ∈ fs ↔ y ∈ fs2) ∧ (b ∈ fs → (ws b).length = (ws2 y).length) := by
  have m : b ∈ fs ↔ y ∈ fs2 := by
    rw [F.mem, F2.mem]
    exact ⟨fun h => by obtain ⟨n, k⟩ := h.walk; exact ((key n).mpr k).reach, fun h => by obtain ⟨n, k⟩ := h.walk; exact ((key n).mp k).reach⟩
  refine ⟨m, fun h => ?_⟩
  have h1 := (F.way b h).walk
  have h2 := (F2.way y (m.mp h)).walk
  obtain ⟨k1, w1, l1⟩ := ((key _).mpr h1).way
  obtain ⟨k2, w2, l2⟩ := ((key _).mp h2).way
  have := F2.least y k1 w1
  have := F.least b k2 w2
  omega
end V4
namespace V4
open PySem PySem.Spec PyProof.Rows L2 L3 RZ TL
def rowT (e : Str × Str) : Str := e.1 ++ " > " ++ e.2
def headT (w : Wb) : Str := Str.join " " ("places" :: w.pl)
def webRows (w : Wb) : List Str := headT w :: w.ties.map rowT
def webT (w : Wb) : Str := Str.join "" ((webRows w).map fun r => r ++ "\n")
theorem cps_eq (x : Str) : tl x = x.cps.toList := rfl
theorem join_cons {y x z : Str} {r : List Str} : Str.join y (x :: z :: r) = x ++ y ++ Str.join y (z :: r) := rfl
theorem join0_cons {x : Str} {r : List Str} : Str.join "" (x :: r) = x ++ Str.join "" r := by
  refine str_ext ?_
  rw [join0_cps, str_cps, join0_cps]
  simp
theorem join_lines (y : Str) : ∀ rs : List Str, Str.join "" (rs.map fun r => r ++ y) = Str.join y (rs ++ [("" : Str)])
  | [] => rfl
  | r :: rs => by
    rw [List.map_cons, join0_cons, join_lines y rs]
    cases rs with
    | nil => exact join_cons.symm
    | cons q rs => exact join_cons.symm
section
variable {w : Wb}
theorem strOk_row {e : Str × Str} (h1 : nameB e.1 = true) (h2 : nameB e.2 = true) : PyData.strOk (rowT e) = true := strOk_append (strOk_append (nameB_strOk h1) (by decide +kernel)) (nameB_strOk h2)
theorem strOk_head (W : w.Ok) : PyData.strOk (headT w) = true := join_ok " " (by decide +kernel) _ fun y hy => by
  rcases List.mem_cons.mp hy with rfl | hy
  · decide +kernel
  · exact nameB_strOk (W.nm y hy)
theorem rows_ok (W : w.Ok) {r : Str} (h : r ∈ webRows w) : PyData.strOk r = true := by
  rcases List.mem_cons.mp h with rfl | h
  · exact strOk_head W
  · obtain ⟨e, he, rfl⟩ := List.mem_map.mp h
    exact strOk_row (W.nm _ (W.inn e he).1) (W.nm _ (W.inn e he).2)
theorem low_not {c : Nat} {z : Str} (h : nameB z = true) (hc : lowC c = false) : c ∉ tl z := fun k => by
  rw [nameB_low h c k] at hc; cases hc
/-- no line's end within a row -/
theorem mem_join {y : Str} {c : Nat} : ∀ {xs : List Str}, c ∈ tl (Str.join y xs) → c ∈ tl y ∨ ∃ x ∈ xs, c ∈ tl x
  | [], h => by
    have h : c ∈ (Str.empty).cps.toList := h
    rw [show (Str.empty).cps.toList = [] from rfl] at h
    cases h
  | [x], h => .inr ⟨x, List.mem_cons_self, h⟩
  | x :: z :: r, h => by
    rw [join_cons, cps_eq, str_cps, str_cps, List.mem_append, List.mem_append] at h
    rcases h with (h | h) | h
    · exact .inr ⟨x, List.mem_cons_self, h⟩
    · exact .inl h
    · exact (mem_join h).imp id fun ⟨q, hq, k⟩ => ⟨q, List.mem_cons_of_mem _ hq, k⟩
theorem head_line (W : w.Ok) : 10 ∉ tl (headT w) := fun h => by
  rcases mem_join h with h | ⟨x, hx, h⟩
  · revert h; decide +kernel
  · rcases List.mem_cons.mp hx with rfl | hx
    · revert h; decide +kernel
    · exact low_not (W.nm x hx) (by decide) h
theorem row_line {e : Str × Str} (h1 : nameB e.1 = true) (h2 : nameB e.2 = true) : 10 ∉ tl (rowT e) := fun h => by
  unfold rowT at h
  rw [cps_eq, str_cps, str_cps, List.mem_append, List.mem_append] at h
  rcases h with (h | h) | h
  · exact low_not h1 (by decide) h
  · revert h; decide +kernel
  · exact low_not h2 (by decide) h
theorem rows_line (W : w.Ok) {r : Str} (h : r ∈ webRows w ++ [("" : Str)]) : 10 ∉ tl r := by
  rcases List.mem_append.mp h with h | h
  · rcases List.mem_cons.mp h with rfl | h
    · exact head_line W
    · obtain ⟨e, he, rfl⟩ := List.mem_map.mp h
      exact row_line (W.nm _ (W.inn e he).1) (W.nm _ (W.inn e he).2)
  · rw [List.mem_singleton.mp h]; decide +kernel
theorem split_lines (W : w.Ok) : Txt.split (webT w) "\n" = webRows w ++ [("" : Str)] := by
  unfold webT
  rw [join_lines, ← join_eq]
  exact split_join (s := 10) (S := []) (by decide +kernel) (by decide +kernel) (by simp) fun p hp => rows_line W hp
theorem split_head (W : w.Ok) : Txt.split (headT w) " " = ("places" : Str) :: w.pl := by
  unfold headT
  rw [← join_eq]
  refine split_join (s := 32) (S := []) (by decide +kernel) (by decide +kernel) (by simp) fun p hp => ?_
  rcases List.mem_cons.mp hp with rfl | hp
  · decide +kernel
  · exact low_not (W.nm p hp) (by decide)
theorem part_row {e : Str × Str} (h1 : nameB e.1 = true) : Txt.partition (rowT e) " > " = (e.1, (" > " : Str), e.2) := partition_app (y := (" > " : Str)) (s := 32) (S := [62, 32]) (by decide +kernel) (low_not h1 (by decide))
theorem join_len_le {y : Str} {n : Nat} : ∀ {xs : List Str}, (∀ x ∈ xs, x.length + y.length ≤ n) → (Str.join y xs).length ≤ xs.length * n
  | [], _ => by simp [Str.join]; rfl
  | [x], h => by
    have := h x List.mem_cons_self
    show x.length ≤ _
    simp; omega
  | x :: z :: r, h => by
    have h1 := h x List.mem_cons_self
    have h2 := join_len_le (xs := z :: r) fun q hq => h q (List.mem_cons_of_mem _ hq)
    rw [join_cons, str_len, str_len, List.length_cons, Nat.add_mul]
    omega
theorem head_len (W : w.Ok) : (headT w).length ≤ 13 * 9 := by
  have h := join_len_le (y := " ") (n := 9) (xs := "places" :: w.pl) fun x hx => by
    rcases List.mem_cons.mp hx with rfl | hx
    · decide +kernel
    · have := (nameB_len (W.nm x hx)).2
      show _ + 1 ≤ 9
      omega
  have := W.most
  unfold headT
  simp only [List.length_cons] at h
  omega
theorem row_len {e : Str × Str} (h1 : nameB e.1 = true) (h2 : nameB e.2 = true) : (rowT e).length ≤ 19 := by
  have := (nameB_len h1).2
  have := (nameB_len h2).2
  unfold rowT
  rw [str_len, str_len]
  show _ + 3 + _ ≤ 19
  omega
theorem rows_len (W : w.Ok) {r : Str} (h : r ∈ webRows w) : r.length ≤ 117 := by
  rcases List.mem_cons.mp h with rfl | h
  · exact head_len W
  · obtain ⟨e, he, rfl⟩ := List.mem_map.mp h
    have := row_len (W.nm _ (W.inn e he).1) (W.nm _ (W.inn e he).2)
    omega
theorem rows_many (W : w.Ok) : (webRows w).length ≤ 31 := by
  have := W.few
  unfold webRows
  simp
  omega
theorem webT_len (W : w.Ok) : (webT w).length ≤ 3700 := by
  have h := join_len_le (y := "") (n := 118) (xs := (webRows w).map fun r => r ++ "\n") fun x hx => by
    obtain ⟨r, hr, rfl⟩ := List.mem_map.mp hx
    have := rows_len W hr
    rw [str_len]
    show _ + 1 + 0 ≤ 118
    omega
  have := rows_many W
  unfold webT
  rw [List.length_map] at h
  omega
theorem uSplit_ok {a b : Str} {rs : List Str} (hb : (b.length == 0) = false) (ha : a.length ≤ 1000000) (e : Txt.split a b = rs) (h : ∀ r ∈ rs, PyData.strOk r = true) : uSplit (.str a) (.str b) = some (.list (rs.map U.str)) := by
  have e1 : sizeLine = 16777216 := sizeLine_eq
  unfold uSplit
  dsimp only
  rw [e, if_pos ⟨hb, by omega, List.all_eq_true.mpr h⟩]
theorem uPartition_row {e : Str × Str} (h1 : nameB e.1 = true) (h2 : nameB e.2 = true) : uPartition (.str (rowT e)) (.str " > ") = some (.tuple [.str e.1, .str " > ", .str e.2]) := by
  have e1 : sizeLine = 16777216 := sizeLine_eq
  have := row_len h1 h2
  unfold uPartition
  dsimp only
  rw [part_row h1, if_pos ⟨by decide +kernel, by omega, by rw [nameB_strOk h1, nameB_strOk h2]; show (true && PyData.strOk (" > " : Str) && true) = true; decide +kernel⟩]
theorem sum_le {xs : List Nat} {n : Nat} (h : ∀ x ∈ xs, x ≤ n) : xs.sum ≤ xs.length * n := by
  induction xs with
  | nil => simp
  | cons x xs ih =>
    have h1 := h x List.mem_cons_self
    have h2 := ih fun y hy => h y (List.mem_cons_of_mem _ hy)
    rw [List.sum_cons, List.length_cons, Nat.add_mul]
    omega
theorem uJoin_le {a : Str} {ys : List Str} {n : Nat} (ha : PyData.strOk a = true) (hy : ∀ y ∈ ys, PyData.strOk y = true ∧ y.length ≤ n) (hz : ys.length * (n + a.length) ≤ 1000000) : uJoin (.str a) (.list (ys.map U.str)) = some (.str (Str.join a ys)) := by
  refine uJoin_ok ha (fun y h => (hy y h).1) ?_
  have := sum_le (xs := ys.map (·.length)) (n := n) fun x hx => by
    obtain ⟨y, h, rfl⟩ := List.mem_map.mp hx
    exact (hy y h).2
  rw [List.length_map] at this
  rw [Nat.mul_add] at hz
  omega
/-- all but the first and the last -/
theorem uCut_mid {us : List U} {a b : U} : uCut (.list (a :: us ++ [b])) (some 1) (some (-1)) = some (.list us) := by
  show some (U.list (L3.cutU (a :: us ++ [b]) (some 1) (some (-1)))) = _
  unfold L3.cutU
  have e1 : HT.sIx (a :: us ++ [b]).length 0 (some 1) = 1 := by rw [sIx_n (by decide)]; simp
  have e2 : HT.sIx (a :: us ++ [b]).length (a :: us ++ [b]).length (some (-1)) = us.length + 1 := by
    show (if (-1 : Int) < 0 then ((-1 : Int) + ((a :: us ++ [b]).length : Int)).toNat else min (-1 : Int).toNat (a :: us ++ [b]).length) = _
    rw [if_pos (by decide)]
    simp
    omega
  rw [e1, e2]
  simp
end
/-- what is written so is read -/
theorem Wb.Ok.hand {w : Wb} (W : w.Ok) : Hand w.pl w.ties := ⟨W.nd, W.nm, W.one, W.most, W.few, W.inn⟩
theorem Wb.Ok.self {w : Wb} (W : w.Ok) : (⟨sortS w.pl, w.ties⟩ : Wb) = w := by rw [W.srt]
theorem ok_tryRM {tbl : List (Str × Bool)} {mb : Mo (Option U)} {d : Str} {s : S} {P : Option U → S → Prop} (h : Ok (mb s) P) : Ok (tryRM tbl mb d s) P := by
  obtain ⟨o, s', e, k⟩ := okF h
  unfold tryRM
  rw [e]; exact k
end V4
namespace V4
open PySem PySem.Spec PyProof.Rows L2 L3 RZ
section
variable {α : Type} [DecidableEq α] {ts : List (α × α)} {x y a b z : α}
/-- in either direction, with a tie more -/
theorem join_more {xs : List α} (hx : x ∈ xs) (hy : y ∈ xs) : Reach (symL (ts ++ [(x, y)]) xs) a z ↔ Reach (symL ts xs) a z ∨ ((Reach (symL ts xs) a x ∨ Reach (symL ts xs) a y) ∧ (Reach (symL ts xs) x z ∨ Reach (symL ts xs) y z)) := by
  have up : ∀ {a z : α}, Reach (symL ts xs) a z → Reach (symL (ts ++ [(x, y)]) xs) a z := fun h => h.mono fun ⟨u, v⟩ he => by
    rw [symL_mem] at he ⊢
    exact ⟨he.1.imp (List.mem_append_left _) (List.mem_append_left _), he.2⟩
  have xy : Reach (symL (ts ++ [(x, y)]) xs) x y := .one (symL_mem.mpr ⟨.inl (by simp), hx, hy⟩)
  have yx := join_symm xy
  constructor
  · intro h
    induction h with
    | refl => exact .inl .refl
    | @step b c _ e ih =>
      obtain ⟨e1, e2, e3⟩ := symL_mem.mp e
      have old : ((b, c) ∈ ts ∨ (c, b) ∈ ts) ∨ (b = x ∧ c = y) ∨ (b = y ∧ c = x) := by
        rcases e1 with e1 | e1 <;> rcases List.mem_append.mp e1 with e1 | e1
        · exact .inl (.inl e1)
        · cases List.mem_singleton.mp e1; exact .inr (.inl ⟨rfl, rfl⟩)
        · exact .inl (.inr e1)
        · cases List.mem_singleton.mp e1; exact .inr (.inr ⟨rfl, rfl⟩)
      rcases old with old | ⟨rfl, rfl⟩ | ⟨rfl, rfl⟩
      · have s : (b, c) ∈ symL ts xs := symL_mem.mpr ⟨old, e2, e3⟩
        rcases ih with h | ⟨h1, h2⟩
        · exact .inl (.step h s)
        · exact .inr ⟨h1, h2.imp (fun h => .step h s) (fun h => .step h s)⟩
      · rcases ih with h | ⟨h1, h2⟩
        · exact .inr ⟨.inl h, .inr .refl⟩
        · exact .inr ⟨h1, .inr .refl⟩
      · rcases ih with h | ⟨h1, h2⟩
        · exact .inr ⟨.inr h, .inl .refl⟩
        · exact .inr ⟨h1, .inl .refl⟩
  · rintro (h | ⟨h1, h2⟩)
    · exact up h
    · have h1 : Reach (symL (ts ++ [(x, y)]) xs) a x := by
        rcases h1 with h | h
        · exact up h
        · exact (up h).trans yx
      rcases h2 with h | h
      · exact h1.trans (up h)
      · exact (h1.trans xy).trans (up h)
end
/-- the web with a tie more -/
def Wb.more (w : Wb) (e : Str × Str) : Wb := ⟨w.pl, w.ties ++ [e]⟩
end V4
namespace V4
open PySem PySem.Spec PyProof.Rows L2 L3 RZ
def putT (a b : List Str) : List Str := a ++ b.filter fun z => !decide (z ∈ a)
theorem mem_putT {a b : List Str} {z : Str} : z ∈ putT a b ↔ z ∈ a ∨ z ∈ b := by
  unfold putT
  rw [List.mem_append, List.mem_filter]
  by_cases h : z ∈ a <;> simp [h]
theorem putT_nodup {a b : List Str} (ha : a.Nodup) (hb : b.Nodup) : (putT a b).Nodup := by
  unfold putT
  refine List.nodup_append.mpr ⟨ha, hb.filter _, fun x hx y hy e => ?_⟩
  subst e
  have := (List.mem_filter.mp hy).2
  simp [hx] at this
noncomputable def Wb.coming (w : Wb) (p : Str) : List Str := w.pl.filter fun z => decide (p ∈ w.far z)
theorem Wb.mem_coming {w : Wb} {p z : Str} : z ∈ w.coming p ↔ z ∈ w.pl ∧ p ∈ w.far z := by unfold Wb.coming; rw [List.mem_filter]; simp
abbrev Hlf := List Str × List Str
noncomputable def Wb.setl (w : Wb) (p : Str) (h : Hlf) : List Hlf := if p ∈ h.1 ∨ p ∈ h.2 then [h] else [(putT h.1 (w.far p), h.2), (h.1, putT h.2 (w.coming p))]
structure HalfOk (w : Wb) (h : Hlf) : Prop where
  s1 : ∀ z ∈ h.1, z ∈ w.pl
  s2 : ∀ z ∈ h.2, z ∈ w.pl
  n1 : h.1.Nodup
  n2 : h.2.Nodup
  c1 : ∀ e ∈ w.ties, e.1 ∈ h.1 → e.2 ∈ h.1
  c2 : ∀ e ∈ w.ties, e.2 ∈ h.2 → e.1 ∈ h.2
  d : ∀ z ∈ h.1, z ∉ h.2
def Sep (h k : Hlf) : Prop := (∃ z, z ∈ h.1 ∧ z ∈ k.2) ∨ (∃ z, z ∈ h.2 ∧ z ∈ k.1)
section
variable {w : Wb} {p : Str} {h k : Hlf}
theorem setl_grow (hk : k ∈ w.setl p h) : (∀ z ∈ h.1, z ∈ k.1) ∧ ∀ z ∈ h.2, z ∈ k.2 := by
  unfold Wb.setl at hk
  split at hk
  · rw [List.mem_singleton.mp hk]; exact ⟨fun _ => id, fun _ => id⟩
  · simp only [List.mem_cons, List.mem_nil_iff, or_false] at hk
    rcases hk with rfl | rfl
    · exact ⟨fun z hz => mem_putT.mpr (.inl hz), fun _ => id⟩
    · exact ⟨fun _ => id, fun z hz => mem_putT.mpr (.inl hz)⟩
theorem setl_has (W : w.Ok) (hp : p ∈ w.pl) (hk : k ∈ w.setl p h) : p ∈ k.1 ∨ p ∈ k.2 := by
  have fp : p ∈ w.far p := (W.mem_far hp).mpr .refl
  unfold Wb.setl at hk
  split at hk
  · rw [List.mem_singleton.mp hk]; assumption
  · simp only [List.mem_cons, List.mem_nil_iff, or_false] at hk
    rcases hk with rfl | rfl
    · exact .inl (mem_putT.mpr (.inr fp))
    · exact .inr (mem_putT.mpr (.inr (Wb.mem_coming.mpr ⟨hp, fp⟩)))
theorem HalfOk.up (H : HalfOk w h) {a b : Str} (ha : a ∈ h.1) (r : Reach w.ties a b) : b ∈ h.1 := r.closed (p := (· ∈ h.1)) ha fun x y e hx => H.c1 (x, y) e hx
theorem HalfOk.down (H : HalfOk w h) {a b : Str} (hb : b ∈ h.2) (r : Reach w.ties a b) : a ∈ h.2 := Decidable.byContradiction fun c => r.closed (p := (· ∉ h.2)) c (fun x y e hx hy => hx (H.c2 (x, y) e hy)) hb
theorem far_sub (W : w.Ok) {z : Str} (hz : z ∈ w.far p) : z ∈ w.pl := by
  rw [Wb.Ok.far_filter w p] at hz
  exact (List.mem_filter.mp hz).1
theorem far_nodup (W : w.Ok) : (w.far p).Nodup := by
  rw [Wb.Ok.far_filter w p]
  exact W.nd.filter _
theorem setl_ok (W : w.Ok) (hp : p ∈ w.pl) (H : HalfOk w h) (hk : k ∈ w.setl p h) : HalfOk w k := by
  unfold Wb.setl at hk
  split at hk
  · rw [List.mem_singleton.mp hk]; exact H
  · rename_i hn
    simp only [List.mem_cons, List.mem_nil_iff, or_false] at hk
    rcases hk with rfl | rfl
    · refine ⟨fun z hz => (mem_putT.mp hz).elim (H.s1 z) (far_sub W), H.s2, putT_nodup H.n1 (far_nodup W), H.n2, fun e he h1 => mem_putT.mpr ?_, H.c2, fun z hz h2 => ?_⟩
      · rcases mem_putT.mp h1 with h1 | h1
        · exact .inl (H.c1 e he h1)
        · exact .inr ((W.mem_far hp).mpr (.step ((W.mem_far hp).mp h1) he))
      · rcases mem_putT.mp hz with h1 | h1
        · exact H.d z h1 h2
        · exact hn (.inr (H.down h2 ((W.mem_far hp).mp h1)))
    · refine ⟨H.s1, fun z hz => (mem_putT.mp hz).elim (H.s2 z) fun h => (Wb.mem_coming.mp h).1, H.n1, putT_nodup H.n2 (W.nd.filter _), H.c1, fun e he h1 => mem_putT.mpr ?_, fun z hz h2 => ?_⟩
      · rcases mem_putT.mp h1 with h1 | h1
        · exact .inl (H.c2 e he h1)
        · obtain ⟨m1, m2⟩ := Wb.mem_coming.mp h1
          have i1 := (W.inn e he).1
          exact .inr (Wb.mem_coming.mpr ⟨i1, (W.mem_far i1).mpr (Reach.trans (.step .refl he) ((W.mem_far m1).mp m2))⟩)
      · rcases mem_putT.mp h2 with h2 | h2
        · exact H.d z hz h2
        · obtain ⟨m1, m2⟩ := Wb.mem_coming.mp h2
          exact hn (.inl (H.up hz ((W.mem_far m1).mp m2)))
theorem setl_sep (W : w.Ok) (hp : p ∈ w.pl) : (w.setl p h).Pairwise Sep := by
  have fp : p ∈ w.far p := (W.mem_far hp).mpr .refl
  unfold Wb.setl
  split
  · exact List.pairwise_singleton _ _
  · refine List.pairwise_cons.mpr ⟨fun k hk => ?_, List.pairwise_singleton _ _⟩
    rw [List.mem_singleton.mp hk]
    exact .inl ⟨p, mem_putT.mpr (.inr fp), mem_putT.mpr (.inr (Wb.mem_coming.mpr ⟨hp, fp⟩))⟩
theorem Sep.grow {h' k' : Hlf} (s : Sep h k) (g1 : (∀ z ∈ h.1, z ∈ h'.1) ∧ ∀ z ∈ h.2, z ∈ h'.2) (g2 : (∀ z ∈ k.1, z ∈ k'.1) ∧ ∀ z ∈ k.2, z ∈ k'.2) : Sep h' k' := by
  rcases s with ⟨z, a, b⟩ | ⟨z, a, b⟩
  · exact .inl ⟨z, g1.1 z a, g2.2 z b⟩
  · exact .inr ⟨z, g1.2 z a, g2.1 z b⟩
def Fit (S : List Str) (h : Hlf) : Prop := (∀ z ∈ h.1, z ∈ S) ∧ ∀ z ∈ h.2, z ∉ S
theorem setl_fit {S : List Str} (W : w.Ok) (hp : p ∈ w.pl) (hS : Closed w.ties S) (f : Fit S h) : ∃ k ∈ w.setl p h, Fit S k := by
  have up : ∀ {a b : Str}, a ∈ S → Reach w.ties a b → b ∈ S := fun {a b} ha r => r.closed (p := (· ∈ S)) ha fun x y e hx => hS (x, y) e hx
  unfold Wb.setl
  split
  · exact ⟨h, List.mem_singleton.mpr rfl, f⟩
  · by_cases c : p ∈ S
    · exact ⟨_, List.mem_cons_self, fun z hz => (mem_putT.mp hz).elim (f.1 z) fun k => up c ((W.mem_far hp).mp k), f.2⟩
    · refine ⟨_, List.mem_cons_of_mem _ List.mem_cons_self, f.1, fun z hz => (mem_putT.mp hz).elim (f.2 z) fun k hz2 => ?_⟩
      obtain ⟨m1, m2⟩ := Wb.mem_coming.mp k
      exact c (up hz2 ((W.mem_far m1).mp m2))
end
structure Halves (w : Wb) (Q : List Str) (H : List Hlf) : Prop where
  ok : ∀ h ∈ H, HalfOk w h
  has : ∀ h ∈ H, ∀ q ∈ Q, q ∈ h.1 ∨ q ∈ h.2
  sep : H.Pairwise Sep
  all : ∀ S, Closed w.ties S → ∃ h ∈ H, Fit S h
section
variable {w : Wb} {p : Str} {Q : List Str} {H : List Hlf}
theorem Halves.step (W : w.Ok) (hp : p ∈ w.pl) (I : Halves w Q H) : Halves w (Q ++ [p]) (H.flatMap (w.setl p)) where
  ok k hk := by
    obtain ⟨h, hh, hk⟩ := List.mem_flatMap.mp hk
    exact setl_ok W hp (I.ok h hh) hk
  has k hk q hq := by
    obtain ⟨h, hh, hk⟩ := List.mem_flatMap.mp hk
    rcases List.mem_append.mp hq with hq | hq
    · exact (I.has h hh q hq).imp ((setl_grow hk).1 q) ((setl_grow hk).2 q)
    · rw [List.mem_singleton.mp hq]; exact setl_has W hp hk
  sep := List.pairwise_flatMap.mpr ⟨fun h _ => setl_sep W hp, I.sep.imp fun s => fun x hx y hy => Sep.grow s (setl_grow hx) (setl_grow hy)⟩
  all S hS := by
    obtain ⟨h, hh, f⟩ := I.all S hS
    obtain ⟨k, hk, f⟩ := setl_fit W hp hS f
    exact ⟨k, List.mem_flatMap.mpr ⟨h, hh, hk⟩, f⟩
end
section
variable {w : Wb}
theorem sort_sub (W : w.Ok) {xs : List Str} (nd : xs.Nodup) (h : ∀ z ∈ xs, z ∈ w.pl) : (sortS xs).Sublist w.pl := by
  have e : sortS xs = w.pl.filter fun z => decide (z ∈ xs) := by
    refine (sortS_same nd (W.nd.filter _) fun z => ?_).trans (sortS_filter W.srt)
    rw [List.mem_filter, decide_eq_true_iff]
    exact ⟨fun k => ⟨h z k, k⟩, fun k => k.2⟩
  rw [e]
  exact List.filter_sublist
end
end V4
namespace V4
open PySem PySem.Spec PyProof.Rows L2 L3 RZ TL
theorem join_part {y r : Str} : ∀ {xs : List Str}, r ∈ xs → r.length ≤ (Str.join y xs).length ∧ ∀ c ∈ tl r, c ∈ tl (Str.join y xs)
  | [x], h => by rw [List.mem_singleton.mp h]; exact ⟨Nat.le_refl _, fun _ => id⟩
  | x :: z :: xs, h => by
    rw [join_cons]
    rcases List.mem_cons.mp h with rfl | h
    · refine ⟨by simp only [str_len]; omega, fun c hc => ?_⟩
      simp only [str_cps, List.mem_append]
      exact .inl (.inl hc)
    · obtain ⟨h1, h2⟩ := join_part (y := y) h
      refine ⟨by simp only [str_len]; omega, fun c hc => ?_⟩
      simp only [str_cps, List.mem_append]
      exact .inr (h2 c hc)
theorem split_part {x y r : Str} (h : r ∈ Txt.split x y) : r.length ≤ x.length ∧ ∀ c ∈ tl r, c ∈ tl x := by
  have := join_part (y := y) h
  rwa [StrLaws.join_split] at this
theorem strOk_sub {x r : Str} (h : PyData.strOk x = true) (k : ∀ c ∈ tl r, c ∈ tl x) : PyData.strOk r = true := by
  unfold PyData.strOk at h ⊢
  rw [← Array.all_toList] at h ⊢
  exact List.all_eq_true.mpr fun c hc => List.all_eq_true.mp h c (k c hc)
theorem split_strs {x y : Str} (hy : (y.length == 0) = false) (hl : x.length ≤ 1000000) (ho : PyData.strOk x = true) : uSplit (.str x) (.str y) = some (.list ((Txt.split x y).map U.str)) := uSplit_ok hy hl rfl fun r hr => strOk_sub ho (split_part hr).2
theorem split_ne {x y : Str} : Txt.split x y ≠ [] := fun e => by
  have := PyProof.Rows.split_pos x y
  rw [e] at this
  cases this
theorem part_parts {x y : Str} : (∀ c ∈ tl (Txt.partition x y).1, c ∈ tl x) ∧ (∀ c ∈ tl (Txt.partition x y).2.1, c ∈ tl x) ∧ (∀ c ∈ tl (Txt.partition x y).2.2, c ∈ tl x) ∧ (Txt.partition x y).1.length ≤ x.length ∧ (Txt.partition x y).2.2.length ≤ x.length := by
  have e := StrLaws.partition_sum x y
  generalize Txt.partition x y = p at e ⊢
  subst e
  simp only [str_cps, str_len, List.mem_append]
  exact ⟨fun c h => .inl (.inl h), fun c h => .inl (.inr h), fun c h => .inr h, by omega, by omega⟩
theorem uPartition_any {x y : Str} (hy : (y.length == 0) = false) (hl : x.length ≤ 1000000) (ho : PyData.strOk x = true) : uPartition (.str x) (.str y) = some (.tuple [.str (Txt.partition x y).1, .str (Txt.partition x y).2.1, .str (Txt.partition x y).2.2]) := by
  have hs : x.length ≤ sizeLine := by have := sizeLine_eq; omega
  obtain ⟨h1, h2, h3, -, -⟩ := part_parts (x := x) (y := y)
  show (if (y.length == 0) = false ∧ x.length ≤ sizeLine ∧ _ then _ else _) = _
  rw [if_pos ⟨hy, hs, by rw [strOk_sub ho h1, strOk_sub ho h2, strOk_sub ho h3]; rfl⟩]
end V4
namespace V4
open PySem PySem.Spec PyProof.Rows L2 L3 RZ
end V4
namespace V4
open PySem PySem.Spec PyProof.Rows L2 L3 RZ
def meetL (C D : List Str) : List Str := C.filter fun z => decide (z ∈ D)
noncomputable def eitherL (C D : List Str) : List Str := sortS (C ++ D.filter fun z => !decide (z ∈ C))
def crossB (n : Nat) (C D : List Str) : Bool := decide ((meetL C D).length ≠ 0) && decide (C.length + D.length ≠ n + (meetL C D).length) && decide ((meetL C D).length < C.length) && decide ((meetL C D).length < D.length)
def liesB (C : List Str) (e : Str × Str) : Bool := !decide (e.1 ∈ C) && decide (e.2 ∈ C)
section
variable {w : Wb} {C D : List Str}
theorem mem_meet {z : Str} : z ∈ meetL C D ↔ z ∈ C ∧ z ∈ D := by unfold meetL; rw [List.mem_filter, decide_eq_true_iff]
theorem mem_either {z : Str} : z ∈ eitherL C D ↔ z ∈ C ∨ z ∈ D := by
  unfold eitherL
  rw [sortS_mem, List.mem_append, List.mem_filter]
  by_cases h : z ∈ C <;> simp [h]
theorem meet_comm_len (hC : C.Nodup) (hD : D.Nodup) : (meetL C D).length = (meetL D C).length := by
  have : (meetL C D).Perm (meetL D C) := (List.perm_ext_iff_of_nodup (hC.filter _) (hD.filter _)).mpr fun z => by
    rw [← show meetL C D = C.filter fun z => decide (z ∈ D) from rfl, ← show meetL D C = D.filter fun z => decide (z ∈ C) from rfl, mem_meet, mem_meet]
    exact And.comm
  exact this.length_eq
theorem filter_both {α : Type} (p : α → Bool) : ∀ (xs : List α), (xs.filter p).length + (xs.filter fun x => !p x).length = xs.length
  | [] => rfl
  | x :: xs => by
    have := filter_both p xs
    cases h : p x <;> simp [h] <;> omega
theorem meet_either_len (hC : C.Nodup) (hD : D.Nodup) : (meetL C D).length + (eitherL C D).length = C.length + D.length := by
  have h1 := meet_comm_len hC hD
  have h2 := filter_both (fun z => decide (z ∈ C)) D
  unfold eitherL
  rw [sortS_len, List.length_append, h1]
  unfold meetL
  omega
theorem meet_sub (h : C.Sublist w.pl) : (meetL C D).Sublist w.pl := List.filter_sublist.trans h
theorem either_sub (W : w.Ok) (hC : C.Sublist w.pl) (hD : D.Sublist w.pl) : (eitherL C D).Sublist w.pl := by
  unfold eitherL
  refine sort_sub W (List.nodup_append.mpr ⟨hC.nodup W.nd, (hD.nodup W.nd).filter _, fun x hx y hy e => ?_⟩) fun z hz => ?_
  · subst e
    have := (List.mem_filter.mp hy).2
    simp [hx] at this
  · rcases List.mem_append.mp hz with h | h
    · exact hC.subset h
    · exact hD.subset (List.mem_filter.mp h).1
theorem cross_iff : crossB w.pl.length C D = true ↔ (meetL C D).length ≠ 0 ∧ C.length + D.length ≠ w.pl.length + (meetL C D).length ∧ (meetL C D).length < C.length ∧ (meetL C D).length < D.length := by
  unfold crossB
  simp only [Bool.and_eq_true, decide_eq_true_eq, and_assoc]
theorem cross_meet (hC : IsCut w C) (hD : IsCut w D) (h : crossB w.pl.length C D = true) : IsCut w (meetL C D) where
  sub := meet_sub hC.sub
  ne e := (cross_iff.mp h).1 (by rw [e]; rfl)
  lack := by
    obtain ⟨z, hz, hn⟩ := hC.lack
    exact ⟨z, hz, fun k => hn (mem_meet.mp k).1⟩
  cl e he k := mem_meet.mpr ⟨hC.cl e he (mem_meet.mp k).1, hD.cl e he (mem_meet.mp k).2⟩
theorem cross_either (W : w.Ok) (hC : IsCut w C) (hD : IsCut w D) (h : crossB w.pl.length C D = true) : IsCut w (eitherL C D) where
  sub := either_sub W hC.sub hD.sub
  ne e := by
    obtain ⟨z, hz⟩ := List.exists_mem_of_ne_nil _ hC.ne
    have : z ∈ eitherL C D := mem_either.mpr (.inl hz)
    rw [e] at this
    cases this
  lack := by
    refine Classical.byContradiction fun hn => ?_
    have h1 := meet_either_len (hC.sub.nodup W.nd) (hD.sub.nodup W.nd)
    have h2 := nodup_le W.nd (ys := eitherL C D) fun z hz => Classical.byContradiction fun k => hn ⟨z, hz, k⟩
    have h3 := (either_sub W hC.sub hD.sub).length_le
    have h4 := (cross_iff.mp h).2.1
    omega
  cl e he k := mem_either.mpr ((mem_either.mp k).imp (hC.cl e he) (hD.cl e he))
theorem lies_sum (hC : IsCut w C) (hD : IsCut w D) {e : Str × Str} (he : e ∈ w.ties) : (liesB (meetL C D) e).toNat + (liesB (eitherL C D) e).toNat = (liesB C e).toNat + (liesB D e).toNat := by
  have c1 := hC.cl e he
  have d1 := hD.cl e he
  unfold liesB
  by_cases h1 : e.1 ∈ C <;> by_cases h2 : e.1 ∈ D <;> by_cases h3 : e.2 ∈ C <;> by_cases h4 : e.2 ∈ D <;> first | exact (h3 (c1 h1)).elim | exact (h4 (d1 h2)).elim | simp [mem_meet, mem_either, h1, h2, h3, h4]
theorem square_more {m e c d : Nat} (h : m + e = c + d) (h1 : m < c) (h2 : m < d) : c * c + d * d < m * m + e * e := by
  obtain ⟨x, rfl⟩ : ∃ x, c = m + x + 1 := ⟨c - m - 1, by omega⟩
  obtain ⟨y, rfl⟩ : ∃ y, d = m + y + 1 := ⟨d - m - 1, by omega⟩
  obtain rfl : e = m + x + y + 2 := by omega
  have e1 : (m + x + y + 2) * (m + x + y + 2) + m * m = (m + x + 1) * (m + x + 1) + (m + y + 1) * (m + y + 1) + 2 * ((x + 1) * (y + 1)) := by
    simp only [Nat.mul_add, Nat.add_mul, Nat.mul_one, Nat.one_mul]
    rw [Nat.mul_comm x m, Nat.mul_comm y m, Nat.mul_comm y x]
    omega
  have e2 : 0 < (x + 1) * (y + 1) := Nat.mul_pos (by omega) (by omega)
  omega
end
end V4
namespace V4
open PySem PySem.Spec PyProof.Rows L2 L3 RZ
theorem sum_set {α : Type} (f : α → Nat) : ∀ {F : List α} {i : Nat} {a b : α}, F[i]? = some a → ((F.set i b).map f).sum + f a = (F.map f).sum + f b
  | x :: F, 0, a, b, h => by
    cases h
    show f b + (F.map f).sum + f x = f x + (F.map f).sum + f b
    omega
  | x :: F, i + 1, a, b, h => by
    have ih := sum_set f (F := F) (i := i) (b := b) (by simpa using h)
    show f x + ((F.set i b).map f).sum + f a = f x + (F.map f).sum + f b
    omega
  | [], i, a, b, h => by simp at h
noncomputable def behindL (F : List (List Str)) (i j : Nat) : List (List Str) := (F.set i (meetL (F.getD i []) (F.getD j []))).set j (eitherL (F.getD i []) (F.getD j []))
def cntL (e : Str × Str) (F : List (List Str)) : Nat := (F.map fun C => (liesB C e).toNat).sum
def sqL (F : List (List Str)) : Nat := (F.map fun C => C.length * C.length).sum
section
variable {w : Wb} {F : List (List Str)} {i j : Nat} {C D : List Str}
theorem behind_sum (f : List Str → Nat) (hi : F[i]? = some C) (hj : F[j]? = some D) (h : i ≠ j) : ((behindL F i j).map f).sum + (f C + f D) = (F.map f).sum + (f (meetL C D) + f (eitherL C D)) := by
  have gi : F.getD i [] = C := by rw [List.getD_eq_getElem?_getD, hi]; rfl
  have gj : F.getD j [] = D := by rw [List.getD_eq_getElem?_getD, hj]; rfl
  unfold behindL
  rw [gi, gj]
  have h1 := sum_set f (F := F) (b := meetL C D) hi
  have h2 := sum_set f (F := F.set i (meetL C D)) (i := j) (a := D) (b := eitherL C D) (by rw [List.getElem?_set_ne h]; exact hj)
  omega
theorem behind_len : (behindL F i j).length = F.length := by unfold behindL; rw [List.length_set, List.length_set]
theorem behind_cuts (W : w.Ok) (hF : ∀ C ∈ F, IsCut w C) (hi : F[i]? = some C) (hj : F[j]? = some D) (hx : crossB w.pl.length C D = true) : ∀ E ∈ behindL F i j, IsCut w E := by
  have gi : F.getD i [] = C := by rw [List.getD_eq_getElem?_getD, hi]; rfl
  have gj : F.getD j [] = D := by rw [List.getD_eq_getElem?_getD, hj]; rfl
  have cC := hF C (List.mem_of_getElem? hi)
  have cD := hF D (List.mem_of_getElem? hj)
  unfold behindL
  rw [gi, gj]
  intro E hE
  rcases List.mem_or_eq_of_mem_set hE with hE | rfl
  · rcases List.mem_or_eq_of_mem_set hE with hE | rfl
    · exact hF E hE
    · exact cross_meet cC cD hx
  · exact cross_either W cC cD hx
theorem behind_cnt (W : w.Ok) (hF : ∀ C ∈ F, IsCut w C) (hi : F[i]? = some C) (hj : F[j]? = some D) (h : i ≠ j) {e : Str × Str} (he : e ∈ w.ties) : cntL e (behindL F i j) = cntL e F := by
  have h1 := behind_sum (fun C => (liesB C e).toNat) hi hj h
  have h2 := lies_sum (hF C (List.mem_of_getElem? hi)) (hF D (List.mem_of_getElem? hj)) he
  unfold cntL
  omega
theorem behind_sq (W : w.Ok) (hF : ∀ C ∈ F, IsCut w C) (hi : F[i]? = some C) (hj : F[j]? = some D) (h : i ≠ j) (hx : crossB w.pl.length C D = true) : sqL F < sqL (behindL F i j) := by
  have h1 := behind_sum (fun C => C.length * C.length) hi hj h
  have cC := hF C (List.mem_of_getElem? hi)
  have cD := hF D (List.mem_of_getElem? hj)
  have hl := meet_either_len (cC.sub.nodup W.nd) (cD.sub.nodup W.nd)
  obtain ⟨-, -, m1, m2⟩ := cross_iff.mp hx
  have h2 := square_more hl m1 m2
  unfold sqL
  omega
end
theorem rangeL_iff {a b k : Int} : k ∈ rangeL a b ↔ a ≤ k ∧ k < b := by
  unfold rangeL
  rw [List.mem_map]
  constructor
  · rintro ⟨i, hi, rfl⟩
    have := List.mem_range.mp hi
    omega
  · intro h
    exact ⟨(k - a).toNat, List.mem_range.mpr (by omega), by omega⟩
/-- all steps, rising -/
def stepsAt (n : Nat) (F : List (List Str)) (i : Int) : List (Int × Int) := ((rangeL (i + 1) F.length).filter fun j => crossB n (F.getD i.toNat []) (F.getD j.toNat [])).map fun j => (i, j)
def stepsL (n : Nat) (F : List (List Str)) : List (Int × Int) := (rangeL 0 F.length).flatMap (stepsAt n F)
theorem mem_steps {n : Nat} {F : List (List Str)} {i j : Int} : (i, j) ∈ stepsL n F ↔ 0 ≤ i ∧ i < j ∧ j < F.length ∧ crossB n (F.getD i.toNat []) (F.getD j.toNat []) = true := by
  unfold stepsL
  rw [List.mem_flatMap]
  constructor
  · rintro ⟨a, ha, h⟩
    unfold stepsAt at h
    obtain ⟨b, hb, e⟩ := List.mem_map.mp h
    cases e
    obtain ⟨h1, h2⟩ := List.mem_filter.mp hb
    have h3 := rangeL_iff.mp h1
    have h4 := rangeL_iff.mp ha
    exact ⟨h4.1, by omega, h3.2, h2⟩
  · rintro ⟨h0, h1, h2, h3⟩
    exact ⟨i, rangeL_iff.mpr ⟨h0, by omega⟩, List.mem_map.mpr ⟨j, List.mem_filter.mpr ⟨rangeL_iff.mpr ⟨by omega, h2⟩, h3⟩, rfl⟩⟩
end V4
namespace V4
open PySem PySem.Spec PyProof.Rows L2 L3 RZ
section
variable {g g2 g3 : U → U → Option U} {ma mb mc md : Mo U} {s : S} {P : Bool → S → Prop}
theorem ok_testB {o : Option U} {k : Bool → Mo Bool} : Ok (StM.bind (StM.ofOpt o) (fun e => StM.bind (asB e) k) s) P ↔ ∃ b, o = some (.bool b) ∧ Ok (k b s) P := by
  rw [ok_bind, ok_opt]
  constructor
  · rintro ⟨d, e, h⟩
    cases d <;> first | exact h.elim | exact ⟨_, e, h⟩
  · rintro ⟨b, e, h⟩
    exact ⟨_, e, h⟩
theorem ok_lastB {o : Option U} : Ok (StM.bind (StM.ofOpt o) asB s) P ↔ ∃ b, o = some (.bool b) ∧ P b s := by
  rw [ok_bind, ok_opt]
  constructor
  · rintro ⟨d, e, h⟩
    cases d <;> first | exact h.elim | exact ⟨_, e, h⟩
  · rintro ⟨b, e, h⟩
    exact ⟨_, e, h⟩
theorem ok_iff {α : Type} {o : Out S α} {P Q : α → S → Prop} (h : ∀ a s, P a s ↔ Q a s) : Ok o P ↔ Ok o Q := ⟨fun k => ok_mono k fun a s => (h a s).mp, fun k => ok_mono k fun a s => (h a s).mpr⟩
theorem ok_chM3 : Ok (chM3 g g2 g3 ma mb mc md s) P ↔ Ok (ma s) fun x s1 => Ok (mb s1) fun y s2 => ∃ b, g x y = some (.bool b) ∧ if b = true then Ok (mc s2) fun z s3 => ∃ c, g2 y z = some (.bool c) ∧ if c = true then Ok (md s3) fun v s4 => ∃ e, g3 z v = some (.bool e) ∧ P e s4 else P false s3 else P false s2 := by
  unfold chM3
  rw [ok_bind]
  refine ok_iff fun x s1 => ?_
  rw [ok_bind]
  refine ok_iff fun y s2 => ?_
  rw [ok_testB]
  refine exists_congr fun b => and_congr_right fun _ => ?_
  cases b with
  | false => exact Iff.rfl
  | true =>
    rw [if_pos rfl, if_pos rfl, ok_bind]
    refine ok_iff fun z s3 => ?_
    rw [ok_testB]
    refine exists_congr fun c => and_congr_right fun _ => ?_
    cases c with
    | false => exact Iff.rfl
    | true =>
      rw [if_pos rfl, if_pos rfl, ok_bind]
      exact ok_iff fun v s4 => ok_lastB
end
end V4
namespace V4
open PySem PySem.Spec PyProof.Rows L2 L3 RZ
structure RepU (w d : Nat) (u : U) : Prop where
  nd : noDct u = true
  sh : u.py.showable = true
  it : u.py.intsShort 20 = true
  dp : u.py.depth ≤ d
  wt : u.py.weight ≤ w
theorem RepU.mono {w d w2 d2 : Nat} {u : U} (h : RepU w d u) (hw : w ≤ w2) (hd : d ≤ d2) : RepU w2 d2 u := ⟨h.nd, h.sh, h.it, Nat.le_trans h.dp hd, Nat.le_trans h.wt hw⟩
theorem okS_op2 {f : U → U → Option U} {a b : Mo U} {s : S} : okS (op2M f a b s) = (okS (a s)).bind fun p => (okS (b p.2)).bind fun q => (f p.1 q.1).map fun u => (u, q.2) := by
  show okS ((StM.bind a fun x => StM.bind b fun y => StM.ofOpt (f x y) : Mo U) s) = _
  unfold StM.bind
  cases a s with
  | ok x s1 =>
    dsimp only [okS, Option.bind_some]
    cases b s1 with
    | ok y s2 =>
      dsimp only [okS, Option.bind_some]
      cases f x y <;> rfl
    | exc e s2 => rfl
    | stuck => rfl
  | exc e s1 => rfl
  | stuck => rfl
end V4
namespace V4
open PySem PySem.Spec PyProof.Rows L2 L3 RZ
noncomputable def behT (F : List (List Str)) (t : Int × Int) : List (List Str) := behindL F t.1.toNat t.2.toNat
section
variable {n : Nat} {F G : List (List Str)} {t : Int × Int}
/-- steps that are such, one behind the other -/
def okSteps (n : Nat) : List (List Str) → List (Int × Int) → Prop
  | _, [] => True
  | F, t :: ts => t ∈ stepsL n F ∧ okSteps n (behT F t) ts
end
section
variable {w : Wb} {F : List (List Str)}
structure FamOk (w : Wb) (F G : List (List Str)) : Prop where
  cuts : ∀ C ∈ G, IsCut w C
  len : G.length = F.length
  cnt : ∀ e ∈ w.ties, cntL e G = cntL e F
theorem FamOk.step {G : List (List Str)} (W : w.Ok) (h : FamOk w F G) {t : Int × Int} (ht : t ∈ stepsL w.pl.length G) : FamOk w F (behT G t) ∧ sqL G < sqL (behT G t) := by
  obtain ⟨i, j⟩ := t
  obtain ⟨i0, i1, i2, i3⟩ := mem_steps.mp ht
  have gi : G[i.toNat]? = some (G.getD i.toNat []) := by rw [List.getD_eq_getElem?_getD, List.getElem?_eq_getElem (show i.toNat < G.length by omega)]; rfl
  have gj : G[j.toNat]? = some (G.getD j.toNat []) := by rw [List.getD_eq_getElem?_getD, List.getElem?_eq_getElem (show j.toNat < G.length by omega)]; rfl
  have hij : i.toNat ≠ j.toNat := by omega
  exact ⟨⟨behind_cuts W h.cuts gi gj i3, behind_len.trans h.len, fun e he => (behind_cnt W h.cuts gi gj hij he).trans (h.cnt e he)⟩, behind_sq W h.cuts gi gj hij i3⟩
theorem FamOk.self (hF : ∀ C ∈ F, IsCut w C) : FamOk w F F := ⟨hF, rfl, fun _ _ => rfl⟩
theorem FamOk.led (W : w.Ok) : ∀ {ts : List (Int × Int)} {G : List (List Str)}, FamOk w F G → okSteps w.pl.length G ts → FamOk w F (ts.foldl behT G)
  | [], _, h, _ => h
  | t :: ts, G, h, k => (FamOk.led W (ts := ts) (G := behT G t) (h.step W k.1).1 k.2 : FamOk w F (ts.foldl behT (behT G t)))
end
theorem pxt_pix {i : Nat} {pm : Mo (List PK)} {j : Int} : pxtM i pm j = pixM i pm (.pure (.int j)) true := rfl
theorem getK_t0 {a : U} {l : List U} : getK (.ix (.int 0)) (.tuple (a :: l)) = some a := by simp [getK, atI, ixN]
theorem getK_t1 {a b : U} {l : List U} : getK (.ix (.int 1)) (.tuple (a :: b :: l)) = some b := by
  have h : (1 : Int) < (l.length : Int) + 1 + 1 := by omega
  simp [getK, atI, ixN, h]
theorem setK_t0 {a v : U} {l : List U} : setK (.ix (.int 0)) (.tuple (a :: l)) v = some (.tuple (v :: l)) := by simp [setK, ixN]
theorem setK_t1 {a b v : U} {l : List U} : setK (.ix (.int 1)) (.tuple (a :: b :: l)) v = some (.tuple (a :: v :: l)) := by
  have h : (1 : Int) < (l.length : Int) + 1 + 1 := by omega
  simp [setK, ixN, h]
end V4
namespace V4
open PySem PySem.Spec PyProof.Rows L2 L3 RZ
end V4
namespace V4
open PySem PySem.Spec PyProof.Rows L2 L3 RZ
end V4
namespace V4
open PySem PySem.Spec PyProof.Rows L2 L3 RZ
section
variable {w : Wb} {F : List (List Str)}
structure Uncr (w : Wb) (F : List (List Str)) : Prop where
  cuts : ∀ C ∈ F, IsCut w C
  nd : F.Nodup
  un : ∀ C ∈ F, ∀ D ∈ F, crossB w.pl.length C D = false
theorem Uncr.take (U : Uncr w F) (n : Nat) : Uncr w (F.take n) := ⟨fun C hC => U.cuts C (List.mem_of_mem_take hC), U.nd.sublist (List.take_sublist _ _), fun C hC D hD => U.un C (List.mem_of_mem_take hC) D (List.mem_of_mem_take hD)⟩
variable (W : w.Ok)
end
end V4
namespace V4
open PySem PySem.Spec PyProof.Rows L2 L3 RZ
section
def bmask : Nat → (Nat → Bool) → Int
  | 0, _ => 0
  | n + 1, p => 2 * bmask n (fun i => p (i + 1)) + (if p 0 = true then 1 else 0)
def bt (x : Int) (i : Nat) : Bool := decide (x / 2 ^ i % 2 = 1)
theorem bt_zero {x : Int} : bt x 0 = decide (x % 2 = 1) := by
  unfold bt
  rw [Int.pow_zero, Int.ediv_one]
theorem bt_succ {x : Int} {i : Nat} : bt x (i + 1) = bt (x / 2) i := by
  unfold bt
  rw [Int.pow_succ, Int.mul_comm, ← Int.ediv_ediv_of_nonneg (by decide)]
theorem bmask_bd : ∀ (n : Nat) (p : Nat → Bool), 0 ≤ bmask n p ∧ bmask n p < 2 ^ n
  | 0, _ => by simp [bmask]
  | n + 1, p => by
    have ih := bmask_bd n fun i => p (i + 1)
    unfold bmask
    rw [Int.pow_succ]
    split <;> omega
theorem bt_mask : ∀ {n : Nat} {p : Nat → Bool} {i : Nat}, bt (bmask n p) i = (decide (i < n) && p i)
  | 0, p, i => by
    have : bt 0 i = false := by
      unfold bt
      rw [Int.zero_ediv]
      rfl
    show bt 0 i = _
    rw [this, decide_eq_false (Nat.not_lt_zero i)]
    rfl
  | n + 1, p, 0 => by
    rw [bt_zero]
    unfold bmask
    cases h : p 0 <;> simp <;> omega
  | n + 1, p, i + 1 => by
    have e : bmask (n + 1) p / 2 = bmask n fun i => p (i + 1) := by
      show (2 * bmask n (fun i => p (i + 1)) + (if p 0 = true then 1 else 0)) / 2 = _
      split <;> omega
    rw [bt_succ, e, bt_mask]
    congr 1
    exact decide_eq_decide.mpr (by omega)
theorem mask_congr : ∀ {n : Nat} {p q : Nat → Bool}, (∀ i, i < n → p i = q i) → bmask n p = bmask n q
  | 0, _, _, _ => rfl
  | n + 1, p, q, h => by
    unfold bmask
    rw [h 0 (by omega), mask_congr (p := fun i => p (i + 1)) (q := fun i => q (i + 1)) fun i hi => h (i + 1) (by omega)]
theorem mask_inj {n : Nat} {p q : Nat → Bool} (h : bmask n p = bmask n q) : ∀ i, i < n → p i = q i := fun i hi => by
  have e := congrArg (fun x => bt x i) h
  simp only [bt_mask, decide_eq_true hi, Bool.true_and] at e
  exact e
theorem mask_none : ∀ {n : Nat}, bmask n (fun _ => false) = 0
  | 0 => rfl
  | n + 1 => by
    show 2 * bmask n (fun _ => false) + (if false = true then 1 else 0) = _
    rw [mask_none, if_neg (by decide)]
    rfl
theorem mask_odd : ∀ {n : Nat} {p : Nat → Bool} {i : Nat}, i < n → p i = true → ∃ (j : Nat) (a : Int), j < n ∧ p j = true ∧ bmask n p = 2 ^ j * (2 * a + 1)
  | 0, _, _, h, _ => by omega
  | n + 1, p, i, h, hp => by
    cases h0 : p 0 with
    | true =>
      refine ⟨0, bmask n fun i => p (i + 1), by omega, h0, ?_⟩
      show 2 * bmask n (fun i => p (i + 1)) + (if p 0 = true then 1 else 0) = _
      rw [h0]
      simp
    | false =>
      have hi : i ≠ 0 := fun e => by rw [e, h0] at hp; cases hp
      obtain ⟨i, rfl⟩ : ∃ k, i = k + 1 := ⟨i - 1, by omega⟩
      obtain ⟨j, a, hj, hpj, e⟩ := mask_odd (n := n) (p := fun i => p (i + 1)) (i := i) (by omega) hp
      refine ⟨j + 1, a, by omega, hpj, ?_⟩
      show 2 * bmask n (fun i => p (i + 1)) + (if p 0 = true then 1 else 0) = _
      rw [e, h0, Int.pow_succ]
      simp [Int.mul_assoc, Int.mul_left_comm]
/-- the lowest binary place -/
theorem mask_low {n : Nat} {p : Nat → Bool} (h : 0 < bmask n p) : ∃ j, j < n ∧ p j = true ∧ Builtin.bitAnd (bmask n p) (-(bmask n p)) = 2 ^ j := by
  by_cases c : ∃ i, i < n ∧ p i = true
  · obtain ⟨i, h1, h2⟩ := c
    obtain ⟨j, a, hj, hp, e⟩ := mask_odd h1 h2
    exact ⟨j, hj, hp, by rw [e, PySem.W.kbt_low]⟩
  · have : bmask n p = 0 := by
      rw [← mask_none (n := n)]
      refine mask_congr fun i hi => ?_
      cases e : p i with
      | false => rfl
      | true => exact (c ⟨i, hi, e⟩).elim
    omega
theorem mask_pos {n : Nat} {p : Nat → Bool} : 0 < bmask n p ↔ ∃ i, i < n ∧ p i = true := by
  constructor
  · intro h
    obtain ⟨j, h1, h2, _⟩ := mask_low h
    exact ⟨j, h1, h2⟩
  · rintro ⟨i, h1, h2⟩
    have h0 := (bmask_bd n p).1
    have : bmask n p ≠ 0 := fun e => by
      rw [← mask_none (n := n)] at e
      have := mask_inj e i h1
      rw [h2] at this
      cases this
    omega
theorem uNeg_int {x : Int} : uNeg (.int x) = some (.int (-x)) := rfl
end
section
def InR (n : Nat) (ts : List (Nat × Nat)) : Prop := ∀ e ∈ ts, e.1 < n ∧ e.2 < n
def InK (m : Nat) (ks : List Int) : Prop := ∀ k ∈ ks, 0 ≤ k ∧ k < m
def atK (es : List (Nat × Nat)) (k : Int) : Nat × Nat := es.getD k.toNat (0, 0)
def turnL (es : List (Nat × Nat)) (ks : List Int) : List (Nat × Nat) := es ++ ks.map fun k => ((atK es k).2, (atK es k).1)
theorem turnL_mem {es : List (Nat × Nat)} {ks : List Int} {x y : Nat} : (x, y) ∈ turnL es ks ↔ (x, y) ∈ es ∨ ∃ k ∈ ks, atK es k = (y, x) := by
  unfold turnL
  rw [List.mem_append, List.mem_map]
  constructor
  · rintro (h | ⟨k, h1, h2⟩)
    · exact .inl h
    · refine .inr ⟨k, h1, ?_⟩
      cases h2
      rfl
  · rintro (h | ⟨k, h1, h2⟩)
    · exact .inl h
    · refine .inr ⟨k, h1, ?_⟩
      rw [h2]
def lessK (ks : List Int) (k : Int) : List Int := ks.filter fun j => decide (j ≠ k)
theorem lessK_mem {ks : List Int} {k j : Int} : j ∈ lessK ks k ↔ j ∈ ks ∧ j ≠ k := by
  unfold lessK
  rw [List.mem_filter, decide_eq_true_iff]
open Classical in
noncomputable def comesB (ts : List (Nat × Nat)) (a : Nat) : Nat → Bool := fun i => decide (Reach ts a i)
theorem comesB_iff {ts : List (Nat × Nat)} {a i : Nat} : comesB ts a i = true ↔ Reach ts a i := by
  unfold comesB
  simp
noncomputable def comesM (n : Nat) (ts : List (Nat × Nat)) (a : Nat) : Int := bmask n (comesB ts a)
def ClosedP (n : Nat) (ts : List (Nat × Nat)) (p : Nat → Bool) : Prop := ∀ x y, (x, y) ∈ ts → p x = true → p y = true
theorem closed_comes {n : Nat} {ts : List (Nat × Nat)} {a : Nat} {p : Nat → Bool} (h0 : p a = true) (hr : ∀ i, i < n → p i = true → Reach ts a i) (hc : ClosedP n ts p) : bmask n p = comesM n ts a :=
  mask_congr fun i hi => by
    rw [Bool.eq_iff_iff, comesB_iff]
    exact ⟨hr i hi, fun r => r.closed (p := fun i => p i = true) h0 fun x y e hx => hc x y e hx⟩
structure FInv (n : Nat) (ts : List (Nat × Nat)) (a : Nat) (p : Nat → Bool) (ws : List Nat) : Prop where
  st : p a = true
  r : ∀ i, i < n → p i = true → Reach ts a i
  wt : ∀ x ∈ ws, x < n ∧ p x = true
  cl : ∀ x, x < n → p x = true → x ∉ ws → ∀ y, (x, y) ∈ ts → p y = true
  nd : ws.Nodup
def openB (p : Nat → Bool) (ws : List Nat) : Nat → Bool := fun i => !(p i && !decide (i ∈ ws))
def openN (n : Nat) (p : Nat → Bool) (ws : List Nat) : Nat := ((List.range n).filter (openB p ws)).length
theorem FInv.done {n : Nat} {ts : List (Nat × Nat)} {a : Nat} {p : Nat → Bool} (he : InR n ts) (h : FInv n ts a p []) : bmask n p = comesM n ts a :=
  closed_comes h.st h.r fun x y e hx => h.cl x (he _ e).1 hx (by simp) y e
theorem FInv.some {n : Nat} {ts : List (Nat × Nat)} {a x : Nat} {p : Nat → Bool} {ws : List Nat} (h : FInv n ts a p (ws ++ [x])) : 0 < openN n p (ws ++ [x]) := by
  have hx := h.wt x (by simp)
  have : x ∈ (List.range n).filter (openB p (ws ++ [x])) := List.mem_filter.mpr ⟨List.mem_range.mpr hx.1, by unfold openB; simp [hx.2]⟩
  exact List.length_pos_of_mem this
/-- the new ones, one by one -/
structure NInv (n : Nat) (q q' : Nat → Bool) (L : List Nat) : Prop where
  mem : ∀ i, i < n → (q i = true ↔ q' i = true ∨ i ∈ L)
  inL : ∀ i ∈ L, i < n ∧ q' i = false
  nd : L.Nodup
theorem NInv.done {n : Nat} {q q' : Nat → Bool} {L : List Nat} (h : NInv n q q' L) (h0 : ¬ 0 < bmask n q') : ∀ i, i ∈ L ↔ i < n ∧ q i = true := fun i => by
  rw [mask_pos] at h0
  constructor
  · intro hi
    have hn := (h.inL i hi).1
    exact ⟨hn, (h.mem i hn).mpr (.inr hi)⟩
  · rintro ⟨hn, hq⟩
    exact ((h.mem i hn).mp hq).elim (fun c => (h0 ⟨i, hn, c⟩).elim) id
/-- behind so many rounds -/
structure OInv (n : Nat) (es : List (Nat × Nat)) (both : List Int) (i : Nat) (F : Nat → Bool) : Prop where
  a : F 0 = true
  r : ∀ i, i < n → F i = true → Reach (turnL es both) 0 i
  cl : ClosedP n (turnL es both) F ∨ i + 1 ≤ ((List.range n).filter F).length
theorem OInv.done {n : Nat} {es : List (Nat × Nat)} {both : List Int} {F : Nat → Bool} (h : OInv n es both n F) : bmask n F = comesM n (turnL es both) 0 := by
  have hl := List.length_filter_le F (List.range n)
  rw [List.length_range] at hl
  exact closed_comes h.a h.r (h.cl.resolve_right (by omega))
end
section
variable {s : S} {i : Nat} {cn f : Str} {fs : List (Str × U)} {w u u' k v x y z : U} {us : List U} {mb m : Mo U} {g : U → U → Option U} {P : Option U → S → Prop}
theorem pfld_eq (h1 : s[i]? = some (.ins cn fs)) (h2 : fs.lookup f = some w) : pfldM cn f i (.pure []) s = .ok [.fld f] s := by
  show (match s[i]? with
  | some u => match getP [] u with
    | some (.ins c fs) => if c = cn ∧ (fs.lookup f).isSome then (Out.ok [PK.fld f] s : Out S (List PK)) else .stuck
    | _ => .stuck
  | none => .stuck) = _
  rw [h1]
  show (if cn = cn ∧ (fs.lookup f).isSome then (Out.ok [PK.fld f] s : Out S (List PK)) else .stuck) = _
  rw [h2, if_pos ⟨rfl, rfl⟩]
theorem rdF_eq (h1 : s[i]? = some (.ins cn fs)) (h2 : fs.lookup f = some w) : rdM i (pfldM cn f i (.pure [])) s = .ok w s := by
  have e := pfld_eq h1 h2
  unfold rdM
  show StM.bind _ _ s = _
  unfold StM.bind
  rw [e]
  show (match s[i]? with
  | some u => match getP [PK.fld f] u with
    | some w => (Out.ok w s : Out S U)
    | none => .stuck
  | none => .stuck) = _
  rw [h1]
  show (match fs.lookup f with
    | some w => (Out.ok w s : Out S U)
    | none => .stuck) = _
  rw [h2]
theorem sub_fld (e : mb s = .ok k s) (h1 : s[i]? = some (.ins cn fs)) (h2 : fs.lookup f = some u) (h3 : uSet u k v = some u') : subM i (pfldM cn f i (.pure [])) mb v s = some (s.set i (.ins cn (replF f u' fs))) := by
  unfold subM
  rw [pfld_eq h1 h2]
  show ((okS (mb s)).bind fun k => _) = _
  rw [e]
  have hg : getP [PK.fld f] (.ins cn fs) = some u := h2
  have hs : setP [PK.fld f] (.ins cn fs) u' = some (.ins cn (replF f u' fs)) := rfl
  have ea : atM i [PK.fld f] (fun u => (uSet u k v).map fun u' => (u', ())) s = .ok () (s.set i (.ins cn (replF f u' fs))) := by
    unfold atM
    simp only [h1, hg, h3, Option.map_some, hs]
  show Option.map _ (okS (atM i [PK.fld f] (fun u => (uSet u k v).map fun u' => (u', ())) s)) = _
  rw [ea]
  rfl
end
end V4
namespace V4
open PySem PySem.Spec PyProof.Rows L2 L3 RZ
section
variable {n : Nat} {es : List (Nat × Nat)} {ks : List Int} {p q : Nat → Bool} {k : Int}
structure CutP (n : Nat) (es : List (Nat × Nat)) (p : Nat → Bool) : Prop where
  some : ∃ i, i < n ∧ p i = true
  less : ∃ i, i < n ∧ p i = false
  cl : ClosedP n es p
def entB (p : Nat → Bool) (e : Nat × Nat) : Bool := !p e.1 && p e.2
def entL (es : List (Nat × Nat)) (ks : List Int) (p : Nat → Bool) : List Int := ks.filter fun k => entB p (atK es k)
theorem entB_iff {e : Nat × Nat} : entB p e = true ↔ p e.1 = false ∧ p e.2 = true := by
  unfold entB
  rw [Bool.and_eq_true, Bool.not_eq_true']
theorem entL_mem : k ∈ entL es ks p ↔ k ∈ ks ∧ p (atK es k).1 = false ∧ p (atK es k).2 = true := by
  unfold entL
  rw [List.mem_filter, entB_iff]
/-- a set that ties leave in neither way is left by nothing -/
theorem turn_closed (c : ClosedP n es p) (h : entL es ks p = []) : ClosedP n (turnL es ks) p := fun x y e hx => by
  rcases turnL_mem.mp e with e | ⟨k, h1, h2⟩
  · exact c x y e hx
  · cases hy : p y with
    | true => rfl
    | false =>
      have : k ∈ entL es ks p := entL_mem.mpr ⟨h1, by rw [h2]; exact hy, by rw [h2]; exact hx⟩
      rw [h] at this
      exact (List.not_mem_nil this).elim
/-- cuts with just one of the ties -/
structure TightP (n : Nat) (es : List (Nat × Nat)) (ks : List Int) (k : Int) (p : Nat → Bool) : Prop extends CutP n es p where
  own : entL es ks p = [k]
theorem TightP.inK (t : TightP n es ks k p) : k ∈ ks ∧ p (atK es k).1 = false ∧ p (atK es k).2 = true := entL_mem.mp (by rw [t.own]; exact List.mem_singleton.mpr rfl)
theorem entL_less : entL es (lessK ks k) p = [] ↔ ∀ j ∈ entL es ks p, j = k := by
  rw [List.eq_nil_iff_forall_not_mem]
  refine forall_congr' fun j => ?_
  rw [entL_mem, entL_mem, lessK_mem]
  constructor
  · intro h hj
    refine Classical.byContradiction fun c => h ⟨⟨hj.1, c⟩, hj.2⟩
  · rintro h ⟨⟨h1, h2⟩, h3⟩
    exact h2 (h ⟨h1, h3⟩)
theorem TightP.missed (t : TightP n es ks k p) : entL es (lessK ks k) p = [] := entL_less.mpr fun j hj => by
  rw [t.own] at hj
  exact List.mem_singleton.mp hj
/-- what a place of a tight cut comes to lies in it -/
theorem TightP.has (t : TightP n es ks k p) {a b : Nat} (ha : p a = true) (h : Reach (turnL es (lessK ks k)) a b) : p b = true :=
  h.closed (p := fun i => p i = true) ha fun x y e hx => turn_closed t.cl t.missed x y e hx
end
structure Gd {α : Type} (f : α → U) (d : Nat) : Prop where
  nd : ∀ a, noDct (f a) = true
  dp : ∀ a, (f a).py.depth ≤ d
  inj : ∀ a b, eqD (f a) (f b) = true ↔ a = b
section
variable {α : Type} {f : α → U} {d : Nat}
theorem Good.gd (h : Good f d) : Gd f d := ⟨h.nd, h.dp, h.inj⟩
theorem Gd.shp (h : Gd f d) (k : d ≤ 64 := by decide) (a : α) : L3.shp (f a) = true := by
  have := h.nd a
  have := Nat.le_trans (h.dp a) k
  simp [L3.shp, *]
theorem Gd.eqd [DecidableEq α] (h : Gd f d) (a b : α) : eqD (f a) (f b) = decide (a = b) := by
  rw [Bool.eq_iff_iff, h.inj]; simp
end
end V4
namespace V4.LY
open PySem PySem.Spec PyProof.Rows L2 L3 RZ
def b01 (b : Bool) : Int := if b = true then 1 else 0
@[simp] theorem b01_t : b01 true = 1 := rfl
@[simp] theorem b01_f : b01 false = 0 := rfl
def andP (p q : Nat → Bool) : Nat → Bool := fun i => p i && q i
def orP (p q : Nat → Bool) : Nat → Bool := fun i => p i || q i
def notP (p : Nat → Bool) : Nat → Bool := fun i => !p i
theorem b01_not (p : Nat → Bool) (i : Nat) : b01 (notP p i) = 1 - b01 (p i) := by
  unfold notP
  cases p i <;> simp
section
variable {n : Nat} {es : List (Nat × Nat)} {f : (Nat → Bool) → Int} {S T : Nat → Bool}
theorem cut_and (hS : CutP n es S) (hT : CutP n es T) (h : ∃ i, i < n ∧ S i = true ∧ T i = true) : CutP n es (andP S T) := by
  obtain ⟨i, i1, i2, i3⟩ := h
  obtain ⟨j, j1, j2⟩ := hS.less
  refine ⟨⟨i, i1, by unfold andP; rw [i2, i3]; rfl⟩, ⟨j, j1, by unfold andP; rw [j2]; rfl⟩, fun x y e hx => ?_⟩
  unfold andP at hx ⊢
  rw [Bool.and_eq_true] at hx ⊢
  exact ⟨hS.cl x y e hx.1, hT.cl x y e hx.2⟩
theorem cut_or (hS : CutP n es S) (hT : CutP n es T) (h : ∃ i, i < n ∧ S i = false ∧ T i = false) : CutP n es (orP S T) := by
  obtain ⟨i, i1, i2, i3⟩ := h
  obtain ⟨j, j1, j2⟩ := hS.some
  refine ⟨⟨j, j1, by unfold orP; rw [j2]; rfl⟩, ⟨i, i1, by unfold orP; rw [i2, i3]; rfl⟩, fun x y e hx => ?_⟩
  unfold orP at hx ⊢
  rw [Bool.or_eq_true] at hx ⊢
  exact hx.imp (hS.cl x y e) (hT.cl x y e)
structure ModF (n : Nat) (es : List (Nat × Nat)) (f : (Nat → Bool) → Int) : Prop where
  pos : ∀ S, CutP n es S → 0 ≤ f S
  mod : ∀ S T, f (andP S T) + f (orP S T) = f S + f T
structure Tgt (n : Nat) (es : List (Nat × Nat)) (f : (Nat → Bool) → Int) (S : Nat → Bool) : Prop extends CutP n es S where
  zero : f S = 0
theorem tgt_both (F : ModF n es f) (hS : Tgt n es f S) (hT : Tgt n es f T) (h1 : ∃ i, i < n ∧ S i = true ∧ T i = true) (h2 : ∃ i, i < n ∧ S i = false ∧ T i = false) : Tgt n es f (andP S T) ∧ Tgt n es f (orP S T) := by
  have c1 := cut_and hS.toCutP hT.toCutP h1
  have c2 := cut_or hS.toCutP hT.toCutP h2
  have := F.mod S T
  have := F.pos _ c1
  have := F.pos _ c2
  have := hS.zero
  have := hT.zero
  exact ⟨⟨c1, by omega⟩, ⟨c2, by omega⟩⟩
/-- where one goes over to the other: each tight cut that has the one has the other -/
def Ov (n : Nat) (es : List (Nat × Nat)) (f : (Nat → Bool) → Int) (u v : Nat) : Prop := ∀ S, Tgt n es f S → S u = true → S v = true
theorem not_ov {u v : Nat} : ¬ Ov n es f u v ↔ ∃ S, Tgt n es f S ∧ S u = true ∧ S v = false := by
  constructor
  · intro h
    obtain ⟨S, h⟩ := Classical.not_forall.mp h
    obtain ⟨h1, h⟩ := Classical.not_imp.mp h
    obtain ⟨h2, h⟩ := Classical.not_imp.mp h
    exact ⟨S, h1, h2, by simpa using h⟩
  · rintro ⟨S, h1, h2, h3⟩ h
    rw [h S h1 h2] at h3
    cases h3
end
end V4.LY
namespace V4.LY
open PySem PySem.Spec PyProof.Rows L2 L3 RZ
def entI (S : Nat → Bool) (e : Nat × Nat) : Int := b01 (S e.2) - b01 (S e.1)
section
variable {n : Nat} {es : List (Nat × Nat)} {f : (Nat → Bool) → Int} {S T L : Nat → Bool}
structure Dec (n : Nat) (es : List (Nat × Nat)) (f : (Nat → Bool) → Int) (L : Nat → Bool) (Ds : List (Nat → Bool)) : Prop where
  tg : ∀ D ∈ Ds, Tgt n es f D
  cnt : ∀ e, e.1 < n → e.2 < n → (Ds.map fun D => entI D e).sum = entI L e
  sep : ∀ u v, u < n → v < n → L u = true → L v = false → ∃ D ∈ Ds, D u = true ∧ D v = false
def OvC (n : Nat) (es : List (Nat × Nat)) (f : (Nat → Bool) → Int) (L : Nat → Bool) : Prop := ∀ u v, u < n → v < n → L u = true → L v = false → ∃ T, Tgt n es f T ∧ T u = true ∧ T v = false
theorem OvC.closed (h : OvC n es f L) (he : InR n es) : ClosedP n es L := fun x y e hx => by
  cases hy : L y with
  | true => rfl
  | false =>
    have := he _ e
    obtain ⟨T, t1, t2, t3⟩ := h x y this.1 this.2 hx hy
    rw [t1.cl x y e t2] at t3
    cases t3
/-- no two have anything in common -/
def Dj (n : Nat) (gs : List (Nat → Bool)) : Prop := gs.Pairwise fun g h => ∀ i, i < n → ¬ (g i = true ∧ h i = true)
open Classical in
theorem dj_sum : ∀ {gs : List (Nat → Bool)} {i : Nat}, i < n → Dj n gs → (gs.map fun g => b01 (g i)).sum = b01 (decide (∃ g ∈ gs, g i = true))
  | [], i, _, _ => by simp
  | g :: gs, i, hi, h => by
    obtain ⟨h1, h2⟩ := List.pairwise_cons.mp h
    rw [List.map_cons, List.sum_cons, dj_sum hi h2]
    cases c : g i with
    | true =>
      have e1 : ¬ ∃ h ∈ gs, h i = true := fun ⟨h, hh, c2⟩ => h1 h hh i hi ⟨c, c2⟩
      have e2 : ∃ h ∈ g :: gs, h i = true := ⟨g, List.mem_cons_self, c⟩
      rw [decide_eq_false e1, decide_eq_true e2]
      simp
    | false =>
      have e : (∃ h ∈ g :: gs, h i = true) ↔ ∃ h ∈ gs, h i = true := by
        constructor
        · rintro ⟨h, hh, c2⟩
          rcases List.mem_cons.mp hh with rfl | hh
          · rw [c] at c2; cases c2
          · exact ⟨h, hh, c2⟩
        · rintro ⟨h, hh, c2⟩
          exact ⟨h, List.mem_cons_of_mem _ hh, c2⟩
      rw [show decide (∃ h ∈ g :: gs, h i = true) = decide (∃ h ∈ gs, h i = true) from decide_eq_decide.mpr e]
      simp
theorem sum_sub {α : Type} {gs : List α} {a b : α → Int} : (gs.map fun g => a g - b g).sum = (gs.map a).sum - (gs.map b).sum := by
  induction gs with
  | nil => rfl
  | cons g gs ih => simp only [List.map_cons, List.sum_cons, ih]; omega
theorem sum_congr {α : Type} {gs : List α} {a b : α → Int} (h : ∀ g ∈ gs, a g = b g) : (gs.map a).sum = (gs.map b).sum := by
  rw [List.map_congr_left h]
/-- of parts beyond it: all but each -/
theorem dec_leaf {cs : List (Nat → Bool)} (hd : Dj n cs) (ht : ∀ c ∈ cs, Tgt n es f (notP c)) (hl : ∀ c ∈ cs, ∀ i, i < n → ¬ (L i = true ∧ c i = true)) (hc : ∀ i, i < n → L i = false → ∃ c ∈ cs, c i = true) : Dec n es f L (cs.map notP) := by
  refine ⟨fun D hD => ?_, fun e h1 h2 => ?_, fun u v hu hv cu cv => ?_⟩
  · obtain ⟨c, h, rfl⟩ := List.mem_map.mp hD
    exact ht c h
  · rw [List.map_map, sum_congr (b := fun c => b01 (c e.1) - b01 (c e.2)) fun c _ => by
      show b01 (notP c e.2) - b01 (notP c e.1) = _
      rw [b01_not, b01_not]
      omega, sum_sub, dj_sum h1 hd, dj_sum h2 hd]
    have key : ∀ i, i < n → b01 (decide (∃ c ∈ cs, c i = true)) = 1 - b01 (L i) := fun i hi => by
      cases c : L i with
      | true => rw [decide_eq_false (fun ⟨g, hg, c2⟩ => hl g hg i hi ⟨c, c2⟩)]; rfl
      | false => rw [decide_eq_true (hc i hi c)]; rfl
    have k1 := key _ h1
    have k2 := key _ h2
    unfold entI
    have e1 : b01 (@decide (∃ c ∈ cs, c e.1 = true) (Classical.propDecidable _)) = 1 - b01 (L e.1) := by rw [← k1]; congr
    have e2 : b01 (@decide (∃ c ∈ cs, c e.2 = true) (Classical.propDecidable _)) = 1 - b01 (L e.2) := by rw [← k2]; congr
    first
      | (rw [e1, e2]; omega)
      | (rw [k1, k2]; omega)
  · obtain ⟨c, h, cc⟩ := hc v hv cv
    refine ⟨notP c, List.mem_map.mpr ⟨c, h, rfl⟩, ?_, by unfold notP; rw [cc]; rfl⟩
    unfold notP
    cases z : c u with
    | false => rfl
    | true => exact (hl c h u hu ⟨cu, z⟩).elim
def meetB (n : Nat) (p q : Nat → Bool) : Bool := (List.range n).any fun i => p i && q i
theorem meetB_iff {p q : Nat → Bool} : meetB n p q = true ↔ ∃ i, i < n ∧ p i = true ∧ q i = true := by
  unfold meetB
  rw [List.any_eq_true]
  refine exists_congr fun i => ?_
  rw [List.mem_range, Bool.and_eq_true]
def putS (n : Nat) (r : List (Nat → Bool) × (Nat → Bool)) (g : Nat → Bool) : List (Nat → Bool) × (Nat → Bool) := if meetB n g r.2 = true then (r.1, orP r.2 g) else (r.1 ++ [g], r.2)
def putF (n : Nat) (gs : List (Nat → Bool)) (s : Nat → Bool) : List (Nat → Bool) := ((gs.foldl (putS n) ([], s)).1) ++ [(gs.foldl (putS n) ([], s)).2]
structure PutI (n : Nat) (P : (Nat → Bool) → Prop) (gs : List (Nat → Bool)) (s : Nat → Bool) (r : List (Nat → Bool) × (Nat → Bool)) : Prop where
  dj : Dj n r.1
  sub : ∀ g ∈ r.1, g ∈ gs
  all : ∀ g ∈ r.1, P g
  one : P r.2
  free : ∀ g ∈ r.1, ∀ i, i < n → ¬ (g i = true ∧ r.2 i = true)
  cov : ∀ i, (r.2 i = true ∨ ∃ g ∈ r.1, g i = true) ↔ (s i = true ∨ ∃ g ∈ gs, g i = true)
theorem dj_snoc {gs : List (Nat → Bool)} {g : Nat → Bool} (h : Dj n gs) (k : ∀ h ∈ gs, ∀ i, i < n → ¬ (h i = true ∧ g i = true)) : Dj n (gs ++ [g]) := by
  unfold Dj at h ⊢
  rw [List.pairwise_append]
  exact ⟨h, List.pairwise_singleton _ _, fun a ha b hb => by rw [List.mem_singleton.mp hb]; exact k a ha⟩
theorem put_step {P : (Nat → Bool) → Prop} (hP : ∀ S T, P S → P T → (∃ i, i < n ∧ S i = true ∧ T i = true) → P (orP S T)) : ∀ (gs ds : List (Nat → Bool)) (s : Nat → Bool) (r : List (Nat → Bool) × (Nat → Bool)), Dj n (ds ++ gs) → (∀ g ∈ gs, P g) → PutI n P ds s r → PutI n P (ds ++ gs) s (gs.foldl (putS n) r)
  | [], ds, s, r, _, _, h => by rw [List.append_nil]; exact h
  | g :: gs, ds, s, r, hd, hg, h => by
    have e : ds ++ g :: gs = (ds ++ [g]) ++ gs := by simp
    rw [e] at hd ⊢
    rw [List.foldl_cons]
    refine put_step hP gs (ds ++ [g]) s _ hd (fun g hg2 => hg g (List.mem_cons_of_mem _ hg2)) ?_
    have hdg : ∀ h ∈ ds, ∀ i, i < n → ¬ (h i = true ∧ g i = true) := fun h hh i hi => (List.pairwise_append.mp (List.pairwise_append.mp hd).1).2.2 h hh g (List.mem_singleton.mpr rfl) i hi
    have pg := hg g List.mem_cons_self
    unfold putS
    by_cases c : meetB n g r.2 = true
    · rw [if_pos c]
      obtain ⟨i, i1, i2, i3⟩ := meetB_iff.mp c
      refine ⟨h.dj, fun x hx => List.mem_append_left _ (h.sub x hx), h.all, hP _ _ h.one pg ⟨i, i1, i3, i2⟩, fun x hx j hj => ?_, fun j => ?_⟩
      · rintro ⟨a, b⟩
        have b : (r.2 j || g j) = true := b
        rw [Bool.or_eq_true] at b
        rcases b with b | b
        · exact h.free x hx j hj ⟨a, b⟩
        · exact hdg x (h.sub x hx) j hj ⟨a, b⟩
      · have hc := h.cov j
        show ((r.2 j || g j) = true ∨ _) ↔ _
        rw [Bool.or_eq_true]
        constructor
        · rintro ((a | a) | a)
          · rcases hc.mp (.inl a) with b | ⟨x, hx, b⟩
            · exact .inl b
            · exact .inr ⟨x, List.mem_append_left _ hx, b⟩
          · exact .inr ⟨g, List.mem_append_right _ (List.mem_singleton.mpr rfl), a⟩
          · rcases hc.mp (.inr a) with b | ⟨x, hx, b⟩
            · exact .inl b
            · exact .inr ⟨x, List.mem_append_left _ hx, b⟩
        · rintro (a | ⟨x, hx, a⟩)
          · exact (hc.mpr (.inl a)).imp .inl id
          · rcases List.mem_append.mp hx with hx | hx
            · exact (hc.mpr (.inr ⟨x, hx, a⟩)).imp .inl id
            · rw [List.mem_singleton.mp hx] at a
              exact .inl (.inr a)
    · rw [if_neg c]
      refine ⟨dj_snoc h.dj fun x hx => hdg x (h.sub x hx), fun x hx => ?_, fun x hx => ?_, h.one, fun x hx j hj => ?_, fun j => ?_⟩
      · rcases List.mem_append.mp hx with hx | hx
        · exact List.mem_append_left _ (h.sub x hx)
        · exact List.mem_append_right _ hx
      · rcases List.mem_append.mp hx with hx | hx
        · exact h.all x hx
        · rw [List.mem_singleton.mp hx]; exact pg
      · rcases List.mem_append.mp hx with hx | hx
        · exact h.free x hx j hj
        · rw [List.mem_singleton.mp hx]
          rintro ⟨a, b⟩
          exact c (meetB_iff.mpr ⟨j, hj, a, b⟩)
      · have hc := h.cov j
        constructor
        · rintro (a | ⟨x, hx, a⟩)
          · rcases hc.mp (.inl a) with b | ⟨x, hx, b⟩
            · exact .inl b
            · exact .inr ⟨x, List.mem_append_left _ hx, b⟩
          · rcases List.mem_append.mp hx with hx | hx
            · rcases hc.mp (.inr ⟨x, hx, a⟩) with b | ⟨x, hx, b⟩
              · exact .inl b
              · exact .inr ⟨x, List.mem_append_left _ hx, b⟩
            · exact .inr ⟨x, List.mem_append_right _ hx, a⟩
        · rintro (a | ⟨x, hx, a⟩)
          · rcases hc.mpr (.inl a) with b | ⟨x, hx, b⟩
            · exact .inl b
            · exact .inr ⟨x, List.mem_append_left _ hx, b⟩
          · rcases List.mem_append.mp hx with hx | hx
            · rcases hc.mpr (.inr ⟨x, hx, a⟩) with b | ⟨x, hx, b⟩
              · exact .inl b
              · exact .inr ⟨x, List.mem_append_left _ hx, b⟩
            · exact .inr ⟨x, List.mem_append_right _ hx, a⟩
structure Grp (n : Nat) (P : (Nat → Bool) → Prop) (gs : List (Nat → Bool)) : Prop where
  dj : Dj n gs
  all : ∀ g ∈ gs, P g
theorem put_spec {P : (Nat → Bool) → Prop} (hP : ∀ S T, P S → P T → (∃ i, i < n ∧ S i = true ∧ T i = true) → P (orP S T)) {gs : List (Nat → Bool)} {s : Nat → Bool} (h : Grp n P gs) (hs : P s) :
    Grp n P (putF n gs s) ∧ ∀ i, (∃ g ∈ putF n gs s, g i = true) ↔ (s i = true ∨ ∃ g ∈ gs, g i = true) := by
  have k := put_step (n := n) hP gs [] s ([], s) h.dj h.all ⟨List.Pairwise.nil, fun g hg => (List.not_mem_nil hg).elim, fun g hg => (List.not_mem_nil hg).elim, hs, fun g hg => (List.not_mem_nil hg).elim, fun i => by simp⟩
  rw [List.nil_append] at k
  unfold putF
  refine ⟨⟨dj_snoc k.dj k.free, fun g hg => ?_⟩, fun i => ?_⟩
  · rcases List.mem_append.mp hg with hg | hg
    · exact k.all g hg
    · rw [List.mem_singleton.mp hg]; exact k.one
  · rw [← k.cov i]
    constructor
    · rintro ⟨g, hg, a⟩
      rcases List.mem_append.mp hg with hg | hg
      · exact .inr ⟨g, hg, a⟩
      · rw [List.mem_singleton.mp hg] at a; exact .inl a
    · rintro (a | ⟨g, hg, a⟩)
      · exact ⟨_, List.mem_append_right _ (List.mem_singleton.mpr rfl), a⟩
      · exact ⟨g, List.mem_append_left _ hg, a⟩
end
end V4.LY
namespace V4.LY
open PySem PySem.Spec PyProof.Rows L2 L3 RZ
section
variable {n : Nat} {es : List (Nat × Nat)} {f : (Nat → Bool) → Int} {S T L : Nat → Bool}
theorem tgt_or_lack (F : ModF n es f) {v : Nat} (hv : v < n) : ∀ S T, (Tgt n es f S ∧ S v = false) → (Tgt n es f T ∧ T v = false) → (∃ i, i < n ∧ S i = true ∧ T i = true) → (Tgt n es f (orP S T) ∧ orP S T v = false) := fun S T hS hT h =>
  ⟨(tgt_both F hS.1 hT.1 h ⟨v, hv, hS.2, hT.2⟩).2, by unfold orP; rw [hS.2, hT.2]; rfl⟩
theorem not_or {p q : Nat → Bool} : notP (orP p q) = andP (notP p) (notP q) := funext fun i => by
  unfold notP orP andP
  rw [Bool.not_or]
theorem tgt_or_beyond (F : ModF n es f) {u : Nat} (hu : u < n) (cu : L u = true) : ∀ S T, (Tgt n es f (notP S) ∧ ∀ i, i < n → ¬ (L i = true ∧ S i = true)) → (Tgt n es f (notP T) ∧ ∀ i, i < n → ¬ (L i = true ∧ T i = true)) → (∃ i, i < n ∧ S i = true ∧ T i = true) → (Tgt n es f (notP (orP S T)) ∧ ∀ i, i < n → ¬ (L i = true ∧ orP S T i = true)) := fun S T hS hT ⟨i, i1, i2, i3⟩ => by
  have out : ∀ {S : Nat → Bool}, (∀ i, i < n → ¬ (L i = true ∧ S i = true)) → notP S u = true := fun {S} h => by
    unfold notP
    cases c : S u with
    | false => rfl
    | true => exact (h u hu ⟨cu, c⟩).elim
  refine ⟨?_, fun j hj ⟨a, b⟩ => ?_⟩
  · rw [not_or]
    exact (tgt_both F hS.1 hT.1 ⟨u, hu, out hS.2, out hT.2⟩ ⟨i, i1, by unfold notP; rw [i2]; rfl, by unfold notP; rw [i3]; rfl⟩).1
  · have b : (S j || T j) = true := b
    rw [Bool.or_eq_true] at b
    rcases b with b | b
    · exact hS.2 j hj ⟨a, b⟩
    · exact hT.2 j hj ⟨a, b⟩
def cnt (n : Nat) (p : Nat → Bool) : Nat := ((List.range n).filter p).length
theorem not_not {p : Nat → Bool} : notP (notP p) = p := funext fun i => by unfold notP; rw [Bool.not_not]
def dI (es : List (Nat × Nat)) (ks : List Int) (S : Nat → Bool) : Int := (ks.map fun k => entI S (atK es k)).sum
/-- ties that meet each cut q times -/
structure Meet (n : Nat) (es : List (Nat × Nat)) (q : Int) (ks : List Int) : Prop where
  inK : InK es.length ks
  nd : ks.Nodup
  all : ∀ S, CutP n es S → q ≤ dI es ks S
abbrev fq (es : List (Nat × Nat)) (q : Int) (ks : List Int) : (Nat → Bool) → Int := fun S => dI es ks S - q
theorem sum_eq {α : Type} {gs : List α} {a : α → Int} {q : Int} (h : ∀ g ∈ gs, a g = q) : (gs.map a).sum = q * gs.length := by
  induction gs with
  | nil => simp
  | cons g gs ih =>
    have h1 := h g List.mem_cons_self
    have h2 := ih fun x hx => h x (List.mem_cons_of_mem _ hx)
    rw [List.map_cons, List.sum_cons, List.length_cons]
    have : q * ((gs.length + 1 : Nat) : Int) = q * gs.length + q := by
      rw [Int.natCast_add, Int.mul_add]; simp
    omega
end
end V4.LY
namespace V4.LY
open PySem PySem.Spec PyProof.Rows L2 L3 RZ
structure Mv where
  u : Nat
  v : Nat
  c : Int
  k : Option Int
  deriving DecidableEq
def wayP (s : Nat) : List Mv → Nat → Prop
  | [], t => s = t
  | m :: P, t => m.u = s ∧ wayP m.v P t
def cost (P : List Mv) : Int := (P.map (·.c)).sum
@[simp] theorem cost_nil : cost [] = 0 := rfl
@[simp] theorem cost_cons {m : Mv} {P : List Mv} : cost (m :: P) = m.c + cost P := by unfold cost; rw [List.map_cons, List.sum_cons]
@[simp] theorem cost_app {P Q : List Mv} : cost (P ++ Q) = cost P + cost Q := by unfold cost; rw [List.map_append, List.sum_append]
theorem way_app : ∀ {P Q : List Mv} {s t : Nat}, wayP s (P ++ Q) t ↔ ∃ x, wayP s P x ∧ wayP x Q t
  | [], Q, s, t => by
    constructor
    · intro h; exact ⟨s, rfl, h⟩
    · rintro ⟨x, h1, h2⟩
      rw [show s = x from h1]; exact h2
  | m :: P, Q, s, t => by
    show (m.u = s ∧ wayP m.v (P ++ Q) t) ↔ _
    rw [way_app]
    constructor
    · rintro ⟨h, x, h1, h2⟩; exact ⟨x, ⟨h, h1⟩, h2⟩
    · rintro ⟨x, ⟨h, h1⟩, h2⟩; exact ⟨h, x, h1, h2⟩
def Feas (p : Nat → Int) (M : List Mv) : Prop := ∀ m ∈ M, p m.v ≤ p m.u + m.c
def Inn (M P : List Mv) : Prop := ∀ m ∈ P, m ∈ M
theorem Feas.sub {p : Nat → Int} {M P : List Mv} (h : Feas p M) (k : Inn M P) : Feas p P := fun m hm => h m (k m hm)
theorem way_feas : ∀ {P : List Mv} {p : Nat → Int} {s t : Nat}, Feas p P → wayP s P t → p t ≤ p s + cost P
  | [], p, s, t, _, h => by rw [show s = t from h]; simp
  | m :: P, p, s, t, hf, ⟨h1, h2⟩ => by
    have := way_feas (fun x hx => hf x (List.mem_cons_of_mem _ hx)) h2
    have := hf m List.mem_cons_self
    rw [h1] at this
    rw [cost_cons]
    omega
/-- the least of whole numbers that don't go below one -/
theorem least_int {P : Int → Prop} {b : Int} (hb : ∀ x, P x → b ≤ x) (h : ∃ x, P x) : ∃ x, P x ∧ ∀ y, P y → x ≤ y := by
  obtain ⟨x, hx⟩ := h
  have go : ∀ (m : Nat) (x : Int), P x → x ≤ b + m → ∃ x, P x ∧ ∀ y, P y → x ≤ y := fun m => by
    induction m with
    | zero =>
      intro x hx hm
      exact ⟨x, hx, fun y hy => by have := hb y hy; simp at hm; omega⟩
    | succ m ih =>
      intro x hx hm
      by_cases c : ∃ y, P y ∧ y < x
      · obtain ⟨y, hy, hlt⟩ := c
        exact ih y hy (by simp at hm; omega)
      · exact ⟨x, hx, fun y hy => by
          have : ¬ y < x := fun z => c ⟨y, hy, z⟩
          omega⟩
  exact go (x - b).toNat x hx (by have := hb x hx; omega)
/-- new prices: from s to t they rise by W, where no way costs less -/
theorem new_prices {M : List Mv} {p : Nat → Int} {s t : Nat} {W : Int} (hp : Feas p M) (hW : p t - p s ≤ W) (hc : ∀ Q, Inn M Q → wayP s Q t → W ≤ cost Q) : ∃ p' : Nat → Int, Feas p' M ∧ p' s = 0 ∧ p' t = W := by
  have hex : ∀ v, ∃ x, (x = p v + (W - p t) ∨ ∃ Q, Inn M Q ∧ wayP s Q v ∧ cost Q = x) ∧ ∀ y, (y = p v + (W - p t) ∨ ∃ Q, Inn M Q ∧ wayP s Q v ∧ cost Q = y) → x ≤ y := fun v => by
    refine least_int (b := p v - p s) ?_ ⟨_, .inl rfl⟩
    rintro x (rfl | ⟨Q, h1, h2, rfl⟩)
    · omega
    · have := way_feas (hp.sub h1) h2
      omega
  refine ⟨fun v => Classical.choose (hex v), fun m hm => ?_, ?_, ?_⟩
  · have h1 := (Classical.choose_spec (hex m.u)).1
    have h2 := (Classical.choose_spec (hex m.v)).2
    show Classical.choose (hex m.v) ≤ Classical.choose (hex m.u) + m.c
    rcases h1 with h1 | ⟨Q, q1, q2, q3⟩
    · have := h2 _ (.inl rfl)
      have := hp m hm
      omega
    · have := h2 (cost (Q ++ [m])) (.inr ⟨Q ++ [m], fun x hx => by
        rcases List.mem_append.mp hx with hx | hx
        · exact q1 x hx
        · rw [List.mem_singleton.mp hx]; exact hm, way_app.mpr ⟨m.u, q2, rfl, rfl⟩, rfl⟩)
      rw [cost_app, cost_cons, cost_nil] at this
      omega
  · have h1 := (Classical.choose_spec (hex s)).1
    have h2 := (Classical.choose_spec (hex s)).2 0 (.inr ⟨[], fun x hx => (List.not_mem_nil hx).elim, rfl, rfl⟩)
    show Classical.choose (hex s) = 0
    rcases h1 with h1 | ⟨Q, q1, q2, q3⟩
    · omega
    · have := way_feas (hp.sub q1) q2
      omega
  · have h1 := (Classical.choose_spec (hex t)).1
    have h2 := (Classical.choose_spec (hex t)).2 _ (.inl rfl)
    show Classical.choose (hex t) = W
    rcases h1 with h1 | ⟨Q, q1, q2, q3⟩
    · omega
    · have := hc Q q1 q2
      omega
def LexLe (P Q : List Mv) : Prop := cost P < cost Q ∨ (cost P = cost Q ∧ P.length ≤ Q.length)
structure LexMin (M : List Mv) (s t : Nat) (P : List Mv) : Prop where
  inn : Inn M P
  way : wayP s P t
  min : ∀ Q, Inn M Q → wayP s Q t → LexLe P Q
theorem pw_split {α : Type} {R : α → α → Prop} : ∀ {P : List α}, (∀ A a B b C, P = A ++ a :: (B ++ b :: C) → R a b) → P.Pairwise R
  | [], _ => .nil
  | a :: P, h => by
    refine List.pairwise_cons.mpr ⟨fun b hb => ?_, pw_split fun A x B y C e => h (a :: A) x B y C (by rw [e]; rfl)⟩
    obtain ⟨B, C, rfl⟩ := List.append_of_mem hb
    exact h [] a B b C rfl
theorem way_cut {A B C : List Mv} {a b : Mv} {s t : Nat} (h : wayP s (A ++ a :: (B ++ b :: C)) t) : wayP s A a.u ∧ wayP a.u (a :: (B ++ [b])) b.v ∧ wayP b.v C t ∧ wayP a.u (a :: B) b.u := by
  obtain ⟨x, h1, h2, h3⟩ := way_app.mp h
  obtain ⟨y, h4, h5, h6⟩ := way_app.mp h3
  subst h2 h5
  exact ⟨h1, ⟨rfl, way_app.mpr ⟨_, h4, rfl, rfl⟩⟩, h6, rfl, h4⟩
section
variable {M P : List Mv} {p : Nat → Int} {s t : Nat}
/-- no place is left twice -/
theorem LexMin.nodup (h : LexMin M s t P) (hp : Feas p M) : P.Pairwise fun a b => a.u ≠ b.u := pw_split fun A a B b C e hab => by
  have hw := h.way
  have hi := h.inn
  rw [e] at hw hi
  obtain ⟨w1, w2, w3, w4⟩ := way_cut hw
  have cyc := way_feas (p := p) (P := a :: B) (fun m hm => hp m (hi m (by
    simp only [List.mem_append, List.mem_cons] at hm ⊢
    rcases hm with hm | hm
    · exact .inr (.inl hm)
    · exact .inr (.inr (.inl hm))))) w4
  rw [hab] at cyc
  have := h.min (A ++ b :: C) (fun m hm => hi m (by
    simp only [List.mem_append, List.mem_cons] at hm ⊢
    rcases hm with hm | hm | hm
    · exact .inl hm
    · exact .inr (.inr (.inr (.inl hm)))
    · exact .inr (.inr (.inr (.inr hm))))) (way_app.mpr ⟨a.u, w1, hab.symm, w3⟩)
  rw [e] at this
  unfold LexLe at this
  simp only [cost_app, cost_cons, List.length_append, List.length_cons] at this cyc
  omega
end
end V4.LY
namespace V4.LY
open PySem PySem.Spec PyProof.Rows L2 L3 RZ
section
variable {n : Nat} {es : List (Nat × Nat)} {q : Int} {ks ks2 : List Int} {w : Int → Int} {p p' : Nat → Int} {k : Int} {M P : List Mv}
/-- what the moves are: places go over to others; ties come in, gone back; ties but k go out -/
def IsMv (n : Nat) (es : List (Nat × Nat)) (q : Int) (ks : List Int) (k : Int) (w : Int → Int) (m : Mv) : Prop :=
  (m.k = none ∧ m.c = 0 ∧ m.u < n ∧ m.v < n ∧ m.u ≠ m.v ∧ Ov n es (fq es q ks) m.u m.v) ∨
  ∃ j, m.k = some j ∧ (0 ≤ j ∧ j < es.length) ∧ ((j ∉ ks ∧ m.u = (atK es j).2 ∧ m.v = (atK es j).1 ∧ m.c = w j) ∨ (j ∈ ks ∧ j ≠ k ∧ m.u = (atK es j).1 ∧ m.v = (atK es j).2 ∧ m.c = -w j))
structure Pot (n : Nat) (es : List (Nat × Nat)) (q : Int) (ks : List Int) (w : Int → Int) (p : Nat → Int) : Prop where
  ov : ∀ u v, u < n → v < n → Ov n es (fq es q ks) u v → p v ≤ p u
  up : ∀ j : Int, 0 ≤ j ∧ j < es.length → j ∉ ks → p (atK es j).1 - p (atK es j).2 ≤ w j
  dn : ∀ j ∈ ks, w j ≤ p (atK es j).1 - p (atK es j).2
theorem Pot.feas (h : Pot n es q ks w p) (hM : ∀ m ∈ M, IsMv n es q ks k w m) : Feas p M := fun m hm => by
  rcases hM m hm with ⟨_, h2, h3, h4, _, h6⟩ | ⟨j, _, hj, ⟨h1, h2, h3, h4⟩ | ⟨h1, _, h2, h3, h4⟩⟩
  · have := h.ov _ _ h3 h4 h6
    rw [h2]; omega
  · have := h.up j hj h1
    rw [h2, h3, h4]; omega
  · have := h.dn j h1
    rw [h2, h3, h4]; omega
theorem ov_of (hM : ∀ m, m ∈ M ↔ IsMv n es q ks k w m) (hp : Feas p M) {u v : Nat} (hu : u < n) (hv : v < n) (h : Ov n es (fq es q ks) u v) : p v ≤ p u := by
  by_cases c : u = v
  · rw [c]; omega
  · have := hp ⟨u, v, 0, none⟩ ((hM _).mpr (.inl ⟨rfl, rfl, hu, hv, c, h⟩))
    simp at this
    exact this
theorem in_of (hM : ∀ m, m ∈ M ↔ IsMv n es q ks k w m) (hp : Feas p M) {j : Int} (hj : 0 ≤ j ∧ j < es.length) (h : j ∉ ks) : p (atK es j).1 - p (atK es j).2 ≤ w j := by
  have := hp ⟨(atK es j).2, (atK es j).1, w j, some j⟩ ((hM _).mpr (.inr ⟨j, rfl, hj, .inl ⟨h, rfl, rfl, rfl⟩⟩))
  simp at this
  omega
theorem out_of (hM : ∀ m, m ∈ M ↔ IsMv n es q ks k w m) (hp : Feas p M) {j : Int} (hj : 0 ≤ j ∧ j < es.length) (h : j ∈ ks) (hk : j ≠ k) : w j ≤ p (atK es j).1 - p (atK es j).2 := by
  have := hp ⟨(atK es j).1, (atK es j).2, -w j, some j⟩ ((hM _).mpr (.inr ⟨j, rfl, hj, .inr ⟨h, hk, rfl, rfl, rfl⟩⟩))
  simp at this
  omega
def updW (w : Int → Int) (k W : Int) : Int → Int := fun j => if j = k then W else w j
theorem updW_self {W : Int} : updW w k W k = W := if_pos rfl
theorem updW_ne {W j : Int} (h : j ≠ k) : updW w k W j = w j := if_neg h
/-- a tie that stays in -/
theorem keep (m : Meet n es q ks) (h : Pot n es q ks w p) (hM : ∀ m, m ∈ M ↔ IsMv n es q ks k w m) (hk : k ∈ ks) {W : Int} (hc : ∀ Q, Inn M Q → wayP (atK es k).2 Q (atK es k).1 → W ≤ cost Q) : ∃ p', Pot n es q ks (updW w k W) p' := by
  by_cases c : W ≤ p (atK es k).1 - p (atK es k).2
  · refine ⟨p, h.ov, fun j hj hn => ?_, fun j hj => ?_⟩
    · rw [updW_ne (k := k) (j := j) fun e => hn (by rw [e]; exact hk)]
      exact h.up j hj hn
    · by_cases e : j = k
      · rw [e, updW_self]; exact c
      · rw [updW_ne e]; exact h.dn j hj
  · have hf := h.feas fun x hx => (hM x).mp hx
    obtain ⟨p', f1, f2, f3⟩ := new_prices hf (s := (atK es k).2) (t := (atK es k).1) (W := W) (by omega) hc
    refine ⟨p', fun u v hu hv ho => ov_of hM f1 hu hv ho, fun j hj hn => ?_, fun j hj => ?_⟩
    · rw [updW_ne (k := k) (j := j) fun e => hn (by rw [e]; exact hk)]
      exact in_of hM f1 hj hn
    · by_cases e : j = k
      · rw [e, updW_self, f2, f3]; omega
      · rw [updW_ne e]; exact out_of hM f1 (m.inK j hj) hj e
end
end V4.LY
namespace V4.LY
open PySem PySem.Spec PyProof.Rows L2 L3 RZ
end V4.LY
namespace V4.LY
open PySem PySem.Spec PyProof.Rows L2 L3 RZ
abbrev Kn := List (Option (List Mv))
def getK (K : Kn) (i : Nat) : Option (List Mv) := (K[i]?).getD none
theorem lexLe_refl {P : List Mv} : LexLe P P := .inr ⟨rfl, Nat.le_refl _⟩
theorem lexLe_trans {P Q R : List Mv} (h : LexLe P Q) (k : LexLe Q R) : LexLe P R := by
  unfold LexLe at *
  omega
/-- what is known is only made better -/
def KLe (K K' : Kn) : Prop := ∀ v P, getK K v = some P → ∃ P', getK K' v = some P' ∧ LexLe P' P
theorem KLe.refl {K : Kn} : KLe K K := fun v P h => ⟨P, h, lexLe_refl⟩
theorem KLe.trans {A B C : Kn} (h : KLe A B) (k : KLe B C) : KLe A C := fun v P hP => by
  obtain ⟨P', h1, h2⟩ := h v P hP
  obtain ⟨P'', h3, h4⟩ := k v P' h1
  exact ⟨P'', h3, lexLe_trans h4 h2⟩
end V4.LY
namespace V4.LY
open PySem PySem.Spec PyProof.Rows L2 L3 RZ
theorem mem_rng {a b x : Int} : x ∈ rangeL a b ↔ a ≤ x ∧ x < b := by
  unfold rangeL
  rw [List.mem_map]
  constructor
  · rintro ⟨i, hi, rfl⟩
    have := List.mem_range.mp hi
    omega
  · intro h
    exact ⟨(x - a).toNat, List.mem_range.mpr (by omega), by omega⟩
def overL (n : Nat) (ov : Nat → Nat → Bool) : List Mv := (List.range n).flatMap fun i => ((List.range n).filter fun j => !decide (j = i) && ov i j).map fun j => ⟨i, j, 0, none⟩
def inL (es : List (Nat × Nat)) (w : Int → Int) (L : List Int) : List Mv := L.map fun k => ⟨(atK es k).2, (atK es k).1, w k, some k⟩
def goL (es : List (Nat × Nat)) (w : Int → Int) (L : List Int) : List Mv := L.map fun k => ⟨(atK es k).1, (atK es k).2, -w k, some k⟩
end V4.LY
namespace V4
open PySem PySem.Spec PyProof.Rows L2 L3 RZ
end V4
namespace V4
open PySem PySem.Spec PyProof.Rows L2 L3 RZ
end V4
namespace V4
open PySem PySem.Spec PyProof.Rows L2 L3 RZ
section
variable {s : S} {ms : Mo (List U)}
@[simp] theorem ok_mkLM {cn : Str} {fn : Fn} {L : LL} {P : U → S → Prop} : Ok (mkLM cn fn L ms s) P ↔ Ok (ms s) fun us s1 => Ok (fn (.ins cn [] :: us)) fun r fin => r = .none ∧ ∃ u fr, fin = u :: fr ∧ P u (wrL (u :: fr) L s1) := by
  unfold mkLM
  rw [ok_bind]
  have key : ∀ us s1, (Ok (match fn (.ins cn [] :: us) with
    | .ok .none (u :: fin) => Out.ok u (wrL (u :: fin) L s1)
    | .ok _ _ => .stuck
    | .exc e _ => .exc e s1
    | .stuck => .stuck) P) ↔ Ok (fn (.ins cn [] :: us)) fun r fin => r = .none ∧ ∃ u fr, fin = u :: fr ∧ P u (wrL (u :: fr) L s1) := fun us s1 => by
    cases e : fn (.ins cn [] :: us) with
    | exc _ _ => exact Iff.rfl
    | stuck => exact Iff.rfl
    | ok r fin =>
      cases fin with
      | nil => cases r <;> exact ⟨fun h => h.elim, fun ⟨_, _, _, h, _⟩ => by cases h⟩
      | cons u fr =>
        cases r with
        | none => exact ⟨fun h => ⟨rfl, u, fr, rfl, h⟩, fun ⟨_, u', fr', h, k⟩ => by cases h; exact k⟩
        | _ => exact ⟨fun h => h.elim, fun ⟨h, _⟩ => by cases h⟩
  exact ⟨fun h => ok_mono h fun us s1 k => (key us s1).mp k, fun h => ok_mono h fun us s1 k => (key us s1).mpr k⟩
end
end V4
namespace V4
open PySem PySem.Spec PyProof.Rows L2 L3 RZ TL
section
variable {w : Wb}
def rowS (w : Wb) : Str := Str.join "; " (webRows w)
theorem head_semi (W : w.Ok) : 59 ∉ tl (headT w) := fun h => by
  rcases mem_join h with h | ⟨x, hx, h⟩
  · revert h; decide +kernel
  · rcases List.mem_cons.mp hx with rfl | hx
    · revert h; decide +kernel
    · exact low_not (W.nm x hx) (by decide) h
theorem row_semi {e : Str × Str} (h1 : nameB e.1 = true) (h2 : nameB e.2 = true) : 59 ∉ tl (rowT e) := fun h => by
  unfold rowT at h
  rw [cps_eq, str_cps, str_cps, List.mem_append, List.mem_append] at h
  rcases h with (h | h) | h
  · exact low_not h1 (by decide) h
  · revert h; decide +kernel
  · exact low_not h2 (by decide) h
theorem rows_semi (W : w.Ok) {r : Str} (h : r ∈ webRows w) : 59 ∉ tl r := by
  rcases List.mem_cons.mp h with rfl | h
  · exact head_semi W
  · obtain ⟨e, he, rfl⟩ := List.mem_map.mp h
    exact row_semi (W.nm _ (W.inn e he).1) (W.nm _ (W.inn e he).2)
theorem split_semi (W : w.Ok) : Txt.split (rowS w) "; " = webRows w := by
  unfold rowS
  rw [← join_eq]
  exact split_join (s := 59) (S := [32]) (by decide +kernel) (by decide +kernel) (by unfold webRows; simp) fun p hp => rows_semi W hp
theorem split_nl (W : w.Ok) : Txt.split (Str.join "\n" (webRows w)) "\n" = webRows w := by
  rw [← join_eq]
  exact split_join (s := 10) (S := []) (by decide +kernel) (by decide +kernel) (by unfold webRows; simp) fun p hp => rows_line W (List.mem_append_left _ hp)
/-- as the program shows it -/
theorem show_rows (W : w.Ok) : Txt.replace (Str.join "\n" (webRows w)) "\n" "; " = rowS w := by
  have := StrLaws.replace_one (Str.join "\n" (webRows w)) "; " 10
  rw [show (⟨#[10]⟩ : Str) = "\n" by decide +kernel] at this
  rw [this, split_nl W]
  rfl
theorem repl_pre {z : List Nat} : ∀ {p l : List Nat}, 59 ∉ p → StrLaws.replL [59, 32] z (p ++ l) = p ++ StrLaws.replL [59, 32] z l
  | [], l, _ => rfl
  | c :: p, l, h => by
    have hc : c ≠ 59 := fun e => h (by rw [e]; exact List.mem_cons_self)
    rw [List.cons_append, StrLaws.replL_miss (fun e => hc (by
      have := congrArg List.head? e
      simpa using this)), repl_pre fun h2 => h (List.mem_cons_of_mem _ h2)]
    rfl
theorem repl_join : ∀ {rs : List Str} {r0 : Str}, (∀ r ∈ r0 :: rs, 59 ∉ tl r) → StrLaws.replL [59, 32] [10] (Str.join "; " (r0 :: rs)).cps.toList = (Str.join "\n" (r0 :: rs)).cps.toList
  | [], r0, h => by
    show StrLaws.replL [59, 32] [10] r0.cps.toList = r0.cps.toList
    have := repl_pre (z := [10]) (l := []) (h r0 List.mem_cons_self)
    rw [List.append_nil, StrLaws.replL_nil, List.append_nil] at this
    exact this
  | r1 :: rs, r0, h => by
    rw [join_cons, join_cons, str_cps, str_cps, str_cps, str_cps, List.append_assoc, List.append_assoc]
    have h0 := repl_pre (z := [10]) (l := ("; " : Str).cps.toList ++ (Str.join "; " (r1 :: rs)).cps.toList) (h r0 List.mem_cons_self)
    rw [show tl r0 = r0.cps.toList from rfl] at h0
    rw [h0]
    congr 1
    rw [show ("; " : Str).cps.toList = [59, 32] by decide +kernel, show ("\n" : Str).cps.toList = [10] by decide +kernel, List.cons_append, List.cons_append, List.nil_append]
    rw [StrLaws.replL_hit (by decide) rfl]
    show [10] ++ StrLaws.replL [59, 32] [10] (Str.join "; " (r1 :: rs)).cps.toList = _
    rw [repl_join fun r hr => h r (List.mem_cons_of_mem _ hr)]
theorem read_rows (W : w.Ok) : Txt.replace (rowS w) "; " "\n" = Str.join "\n" (webRows w) := by
  refine str_ext ?_
  rw [StrLaws.replace_list (by decide +kernel), show ("; " : Str).cps.toList = [59, 32] by decide +kernel, show ("\n" : Str).cps.toList = [10] by decide +kernel]
  exact repl_join fun r hr => rows_semi W hr
theorem join_snoc {y : Str} : ∀ {xs : List Str}, xs ≠ [] → Str.join y (xs ++ [("" : Str)]) = Str.join y xs ++ y
  | [x], _ => by
    rw [List.singleton_append, join_cons]
    show x ++ y ++ ("" : Str) = x ++ y
    refine str_ext ?_
    simp only [str_cps]
    rw [show ("" : Str).cps.toList = [] from rfl, List.append_nil]
  | x :: z :: xs, _ => by
    rw [List.cons_append, List.cons_append, join_cons, join_cons, ← List.cons_append, join_snoc (by simp)]
    refine str_ext ?_
    simp only [str_cps, List.append_assoc]
theorem webT_join : webT w = Str.join "\n" (webRows w) ++ "\n" := by
  unfold webT
  rw [join_lines, join_snoc (by unfold webRows; simp)]
theorem cut_last {x y : Str} (hy : y.length = 1) : cutS (x ++ y) none (some (-1)) = x := by
  refine str_ext ?_
  have hl : x.cps.toList.length = x.length := by simp [Str.length]
  have hy2 : y.cps.toList.length = 1 := by rw [← hy]; simp [Str.length]
  unfold cutS
  show List.take _ (List.drop _ _) = _
  show ((x ++ y).cps.toList.drop 0).take (((-1 : Int) + ((x ++ y).length : Int)).toNat - 0) = _
  rw [List.drop_zero, str_cps, show ((-1 : Int) + ((x ++ y).length : Int)).toNat - 0 = x.cps.toList.length by rw [str_len, hy, hl]; omega]
  exact List.take_left' rfl
theorem repl_mem {y z : List Nat} {k : Nat} : ∀ (n : Nat) (l : List Nat), k ∈ StrLaws.replS y z n l → k ∈ l ∨ k ∈ z
  | 0, [], h => by rw [StrLaws.replS] at h; exact .inl h
  | n + 1, [], h => by rw [StrLaws.replS] at h; exact .inl h
  | 0, c :: r, h => by
    rw [StrLaws.replS] at h
    split at h
    · rcases List.mem_append.mp h with h | h
      · exact .inr h
      · exact (repl_mem _ r h).imp (List.mem_cons_of_mem _) id
    · rcases List.mem_cons.mp h with rfl | h
      · exact .inl List.mem_cons_self
      · exact (repl_mem _ r h).imp (List.mem_cons_of_mem _) id
  | n + 1, c :: r, h => by
    rw [StrLaws.replS] at h
    exact (repl_mem n r h).imp (List.mem_cons_of_mem _) id
theorem repl_ok {x y z : Str} (hy : 1 ≤ y.length) (hx : PyData.strOk x = true) (hz : PyData.strOk z = true) : PyData.strOk (Txt.replace x y z) = true := by
  unfold PyData.strOk at hx hz ⊢
  rw [← Array.all_toList] at hx hz ⊢
  rw [StrLaws.replace_list hy]
  exact List.all_eq_true.mpr fun c hc => (repl_mem 0 _ hc).elim (List.all_eq_true.mp hx c) (List.all_eq_true.mp hz c)
theorem uRepl_ok {x y z : Str} (hy : 1 ≤ y.length) (hl : x.length + (x.length + 1) * z.length ≤ 16777216) (hx : PyData.strOk x = true) (hz : PyData.strOk z = true) : uRepl y z (.str x) = some (.str (Txt.replace x y z)) := by
  show (if _ then _ else _) = _
  rw [if_pos ⟨hl, repl_ok hy hx hz⟩]
end
end V4
namespace V4
open PySem PySem.Spec PyProof.Rows L2 L3 RZ
end V4
namespace V4
open PySem PySem.Spec PyProof.Rows L2 L3 RZ
namespace RG
def tl (T : List (Str × Str)) (k : Int) : Str := (T.getD k.toNat ("", "")).1
def hd (T : List (Str × Str)) (k : Int) : Str := (T.getD k.toNat ("", "")).2
def Walk (T : List (Str × Str)) : Str → List Int → Str → Prop
  | a, [], b => a = b
  | a, k :: ks, b => (0 ≤ k ∧ k < T.length) ∧ tl T k = a ∧ Walk T (hd T k) ks b
section
variable {T : List (Str × Str)} {a b c h : Str} {ks ls : List Int} {k : Int}
/-- a way round -/
def Cyc (T : List (Str × Str)) (h : Str) (ks : List Int) : Prop := ks ≠ [] ∧ Walk T h ks h ∧ (ks.map (tl T)).Nodup
theorem Cyc.nd (c : Cyc T h ks) : ks.Nodup := (List.pairwise_map.mp c.2.2).imp fun h e => h (by rw [e])
/-- ties turned, of those that don't begin at what is barred -/
def revL (T : List (Str × Str)) (bar : List Str) : List (Str × Str) := (T.filter fun e => decide (e.1 ∉ bar)).map fun e => (e.2, e.1)
noncomputable def nrB (T : List (Str × Str)) (home : Str) (bar : List Str) (z : Str) : Bool := @decide (Reach (revL T bar) home z) (Classical.propDecidable _)
noncomputable def outs (T : List (Str × Str)) (home : Str) (bar : List Str) (l : Str) : List Int := (rangeL 0 T.length).filter fun k => decide (tl T k = l) && nrB T home bar (hd T k)
noncomputable def lv (T : List (Str × Str)) (home : Str) (bar : List Str) : Nat → List Int → Str → List (List Int)
  | 0, ks, l => if ks ≠ [] ∧ l = home then [ks] else []
  | f + 1, ks, l => if ks ≠ [] ∧ l = home then [ks] else (outs T home (bar ++ (ks.map (tl T) ++ [l])) l).flatMap fun k => lv T home bar f (ks ++ [k]) (hd T k)
noncomputable def sz (T : List (Str × Str)) (home : Str) (bar : List Str) : Nat → List Int → Str → Nat
  | 0, _, _ => 1
  | f + 1, ks, l => if ks ≠ [] ∧ l = home then 1 else 1 + ((outs T home (bar ++ (ks.map (tl T) ++ [l])) l).map fun k => sz T home bar f (ks ++ [k]) (hd T k)).sum
/-- a row: a way from home, none of its places twice, none barred -/
structure Row (T : List (Str × Str)) (home : Str) (bar : List Str) (ks : List Int) (l : Str) : Prop where
  walk : Walk T home ks l
  nd : (ks.map (tl T)).Nodup
  off : ∀ z ∈ ks.map (tl T), z ∉ bar
  hb : home ∉ bar
  last : (ks ≠ [] ∧ l = home) ∨ (l ∉ ks.map (tl T) ∧ l ∉ bar)
variable {home l : Str} {bar : List Str} {f : Nat} {K : List Int}
theorem Row.root (h : home ∉ bar) : Row T home bar [] home := ⟨rfl, by simp, by simp, h, .inr ⟨by simp, h⟩⟩
def outN (T : List (Str × Str)) (p : Str) : Nat := ((rangeL 0 T.length).filter fun k => decide (tl T k = p)).length
def wt (T : List (Str × Str)) : List Str → Nat
  | [] => 1
  | p :: ps => max 1 (outN T p) * wt T ps
end
end RG
end V4
namespace V4
open PySem PySem.Spec PyProof.Rows L2 L3 RZ
abbrev CN := List (List Str × Int)
def ofC (F : CN) (c : List Str) : Int := ((F.find? fun p => decide (p.1 = c)).map (·.2)).getD 0
def putC (F : CN) (c : List Str) (n : Int) : CN := if (F.any fun p => decide (p.1 = c)) = true then F.map (fun p => if p.1 = c then (p.1, n) else p) else F ++ [(c, n)]
end V4
namespace V4.LY
open PySem PySem.Spec PyProof.Rows L2 L3 RZ
end V4.LY
namespace V4.LY
open PySem PySem.Spec PyProof.Rows L2 L3 RZ
end V4.LY
namespace V4.LY
open PySem PySem.Spec PyProof.Rows L2 L3 RZ
end V4.LY
namespace V4.LY
open PySem PySem.Spec PyProof.Rows L2 L3 RZ
end V4.LY
namespace V4.LY
open PySem PySem.Spec PyProof.Rows L2 L3 RZ
end V4.LY
namespace V4.LY
open PySem PySem.Spec PyProof.Rows L2 L3 RZ
section
variable {n : Nat} {es : List (Nat × Nat)} {ks : List Int} {p : Nat → Int} {w : Int → Int} {ov : Nat → Nat → Bool}
def prM (n : Nat) (es : List (Nat × Nat)) (ov : Nat → Nat → Bool) (ks : List Int) (w : Int → Int) : List Mv := overL n ov ++ inL es w (rangeL 0 es.length) ++ goL es w ks
theorem overL_mem {m : Mv} : m ∈ overL n ov ↔ ∃ i j, i < n ∧ j < n ∧ j ≠ i ∧ ov i j = true ∧ m = ⟨i, j, 0, none⟩ := by
  unfold overL
  rw [List.mem_flatMap]
  constructor
  · rintro ⟨i, hi, h⟩
    obtain ⟨j, hj, rfl⟩ := List.mem_map.mp h
    obtain ⟨h1, h2⟩ := List.mem_filter.mp hj
    rw [Bool.and_eq_true, Bool.not_eq_true', decide_eq_false_iff_not] at h2
    exact ⟨i, j, List.mem_range.mp hi, List.mem_range.mp h1, h2.1, h2.2, rfl⟩
  · rintro ⟨i, j, hi, hj, hn, ho, rfl⟩
    exact ⟨i, List.mem_range.mpr hi, List.mem_map.mpr ⟨j, List.mem_filter.mpr ⟨List.mem_range.mpr hj, by rw [Bool.and_eq_true, Bool.not_eq_true', decide_eq_false_iff_not]; exact ⟨hn, ho⟩⟩, rfl⟩⟩
/-- prices of a list -/
structure PrK (n : Nat) (es : List (Nat × Nat)) (ks : List Int) (w : Int → Int) (p : Nat → Int) : Prop where
  ov : ∀ u v, u < n → v < n → Ov n es (fq es 1 ks) u v → p v ≤ p u
  up : ∀ j : Int, 0 ≤ j ∧ j < es.length → p (atK es j).1 - p (atK es j).2 ≤ w j
  dn : ∀ k ∈ ks, w k ≤ p (atK es k).1 - p (atK es k).2
theorem PrK.feas (h : PrK n es ks w p) (hov : ∀ i j, i < n → j < n → (ov i j = true ↔ Ov n es (fq es 1 ks) i j)) : Feas p (prM n es ov ks w) := fun m hm => by
  rcases List.mem_append.mp hm with hm | hm
  · rcases List.mem_append.mp hm with hm | hm
    · obtain ⟨i, j, hi, hj, _, ho, rfl⟩ := overL_mem.mp hm
      have := h.ov i j hi hj ((hov i j hi hj).mp ho)
      simp; omega
    · obtain ⟨k, hk, rfl⟩ := List.mem_map.mp hm
      have := h.up k (mem_rng.mp hk)
      simp; omega
  · obtain ⟨k, hk, rfl⟩ := List.mem_map.mp hm
    have := h.dn k hk
    simp; omega
end
end V4.LY
namespace V4.LY
open PySem PySem.Spec PyProof.Rows L2 L3 RZ
section
variable {n : Nat} {es : List (Nat × Nat)} {p : Nat → Int}
def stepsL (vs : List Int) : List (Int × Int) := vs.zip vs.tail
theorem steps_low : ∀ {vs : List Int} {z : Int × Int}, z ∈ stepsL vs → z.1 ∈ vs := fun {vs z} h => (List.of_mem_zip (show (z.1, z.2) ∈ vs.zip vs.tail from h)).1
/-- each level but the last is neither none nor all -/
theorem steps_lt : ∀ {vs : List Int} {z : Int × Int}, vs.Pairwise (· < ·) → z ∈ stepsL vs → z.1 < z.2 ∧ z.2 ∈ vs
  | [], _, _, h => by cases h
  | [v], _, _, h => by cases h
  | v :: u :: vs, z, hp, h => by
    have hq := List.pairwise_cons.mp hp
    have h : z ∈ (v, u) :: stepsL (u :: vs) := h
    rcases List.mem_cons.mp h with c | c
    · subst c
      exact ⟨hq.1 u List.mem_cons_self, by simp⟩
    · have := steps_lt hq.2 c
      exact ⟨this.1, List.mem_cons_of_mem _ this.2⟩
end
end V4.LY
namespace V4.LY
open PySem PySem.Spec PyProof.Rows L2 L3 RZ
section
variable {n : Nat} {es : List (Nat × Nat)} {f : (Nat → Bool) → Int} {L : Nat → Bool} {par : Nat → Nat → Bool} {v : Nat}
def lackF (n : Nat) (par : Nat → Nat → Bool) (xs : List Nat) (gs : List (Nat → Bool)) : List (Nat → Bool) := xs.foldl (fun gs u => putF n gs (par u)) gs
/-- a tight cut that lacks a place, and has one of a level -/
structure Lck (n : Nat) (es : List (Nat × Nat)) (f : (Nat → Bool) → Int) (L : Nat → Bool) (v : Nat) (S : Nat → Bool) : Prop where
  tg : Tgt n es f S
  no : S v = false
  has : ∃ u, u < n ∧ L u = true ∧ S u = true
theorem Lck.or (F : ModF n es f) (hv : v < n) : ∀ S T, Lck n es f L v S → Lck n es f L v T → (∃ i, i < n ∧ S i = true ∧ T i = true) → Lck n es f L v (orP S T) := fun S T a b h => by
  have := tgt_or_lack F hv S T ⟨a.tg, a.no⟩ ⟨b.tg, b.no⟩ h
  refine ⟨this.1, this.2, ?_⟩
  obtain ⟨u, h1, h2, h3⟩ := a.has
  exact ⟨u, h1, h2, by unfold orP; rw [h3]; rfl⟩
theorem lack_spec (F : ModF n es f) (hv : v < n) : ∀ {xs : List Nat} {gs : List (Nat → Bool)}, (∀ u ∈ xs, Lck n es f L v (par u) ∧ par u u = true) → Grp n (Lck n es f L v) gs →
    Grp n (Lck n es f L v) (lackF n par xs gs) ∧ ∀ i, ((i ∈ xs ∨ ∃ g ∈ gs, g i = true) → ∃ g ∈ lackF n par xs gs, g i = true)
  | [], gs, _, hg => ⟨hg, fun i h => h.elim (fun h => nomatch h) id⟩
  | u :: xs, gs, h, hg => by
    obtain ⟨h1, h2⟩ := h u List.mem_cons_self
    obtain ⟨k1, k2⟩ := put_spec (Lck.or F hv) hg h1
    obtain ⟨r1, r2⟩ := lack_spec F hv (xs := xs) (gs := putF n gs (par u)) (fun x hx => h x (List.mem_cons_of_mem _ hx)) k1
    refine ⟨r1, fun i hi => r2 i ?_⟩
    rcases hi with hi | hi
    · rcases List.mem_cons.mp hi with rfl | hi
      · exact .inr ((k2 i).mpr (.inl h2))
      · exact .inl hi
    · exact .inr ((k2 i).mpr (.inr hi))
end
end V4.LY
namespace V4.LY
open PySem PySem.Spec PyProof.Rows L2 L3 RZ
section
variable {n : Nat} {es : List (Nat × Nat)} {f : (Nat → Bool) → Int} {L : Nat → Bool} {par : Nat → Nat → Bool} {v : Nat} {gs : List (Nat → Bool)}
/-- what lies beyond a level -/
structure Bey (n : Nat) (es : List (Nat × Nat)) (f : (Nat → Bool) → Int) (L : Nat → Bool) (S : Nat → Bool) : Prop where
  tg : Tgt n es f (notP S)
  no : ∀ i, i < n → ¬ (L i = true ∧ S i = true)
theorem Bey.or (F : ModF n es f) (hl : ∃ i, i < n ∧ L i = true) : ∀ S T, Bey n es f L S → Bey n es f L T → (∃ i, i < n ∧ S i = true ∧ T i = true) → Bey n es f L (orP S T) := fun S T a b h => by
  obtain ⟨u, hu, cu⟩ := hl
  have := tgt_or_beyond F hu cu S T ⟨a.tg, a.no⟩ ⟨b.tg, b.no⟩ h
  exact ⟨this.1, this.2⟩
/-- one group that has the whole level -/
theorem one_part (hg : Grp n (Lck n es f L v) [g]) (hc : ∀ i, i < n → L i = true → ∃ h ∈ [g], h i = true) : Bey n es f L (notP g) ∧ notP g v = true := by
  have lg := hg.all g List.mem_cons_self
  refine ⟨⟨by rw [not_not]; exact lg.tg, fun i hi ⟨c1, c2⟩ => ?_⟩, by unfold notP; rw [lg.no]; rfl⟩
  obtain ⟨h, hh, c⟩ := hc i hi c1
  rw [List.mem_singleton.mp hh] at c
  unfold notP at c2
  rw [c] at c2
  cases c2
theorem bey_put (F : ModF n es f) (hl : ∃ i, i < n ∧ L i = true) {cs : List (Nat → Bool)} {s : Nat → Bool} (h : Grp n (Bey n es f L) cs) (hs : Bey n es f L s) : Grp n (Bey n es f L) (putF n cs s) ∧ ∀ i, (∃ g ∈ putF n cs s, g i = true) ↔ (s i = true ∨ ∃ g ∈ cs, g i = true) :=
  put_spec (Bey.or F hl) h hs
/-- all beyond it taken: the level falls into what is left of each -/
theorem bey_leaf {cs : List (Nat → Bool)} (h : Grp n (Bey n es f L) cs) (hc : ∀ i, i < n → L i = false → ∃ c ∈ cs, c i = true) : Dec n es f L (cs.map notP) :=
  dec_leaf h.dj (fun c hm => (h.all c hm).tg) (fun c hm => (h.all c hm).no) hc
end
end V4.LY
namespace V4.LY
open PySem PySem.Spec PyProof.Rows L2 L3 RZ
section
variable {n : Nat} {es : List (Nat × Nat)} {f : (Nat → Bool) → Int} {L : Nat → Bool} {par : Nat → Nat → Nat → Bool}
def groupsF (n : Nat) (par : Nat → Nat → Nat → Bool) (L : Nat → Bool) (v : Nat) : List (Nat → Bool) := lackF n (fun u => par u v) ((List.range n).filter L) []
def partsF (n : Nat) (par : Nat → Nat → Nat → Bool) (L : Nat → Bool) : List Nat → List (Nat → Bool) → List (Nat → Bool) × List (Nat → Bool)
  | [], bey => ([], bey.map notP)
  | v :: vs, bey => if 1 < (groupsF n par L v).length then ((groupsF n par L v).map (andP L), []) else partsF n par L vs (putF n bey (notP ((groupsF n par L v).headD fun _ => false)))
def ParOk (n : Nat) (es : List (Nat × Nat)) (f : (Nat → Bool) → Int) (L : Nat → Bool) (par : Nat → Nat → Nat → Bool) : Prop := ∀ u v, u < n → v < n → L u = true → L v = false → Tgt n es f (par u v) ∧ par u v u = true ∧ par u v v = false
theorem groups_spec (F : ModF n es f) (hp : ParOk n es f L par) {v : Nat} (hv : v < n) (cv : L v = false) : Grp n (Lck n es f L v) (groupsF n par L v) ∧ ∀ i, i < n → L i = true → ∃ g ∈ groupsF n par L v, g i = true := by
  obtain ⟨a, b⟩ := lack_spec (L := L) (par := fun u => par u v) F hv (xs := (List.range n).filter L) (gs := []) (fun u hu => by
    obtain ⟨h1, h2⟩ := List.mem_filter.mp hu
    have h1 := List.mem_range.mp h1
    obtain ⟨t1, t2, t3⟩ := hp u v h1 hv h2 cv
    exact ⟨⟨t1, t3, u, h1, h2, t2⟩, t2⟩) ⟨List.Pairwise.nil, fun g hg => (List.not_mem_nil hg).elim⟩
  exact ⟨a, fun i hi c => b i (.inl (List.mem_filter.mpr ⟨List.mem_range.mpr hi, c⟩))⟩
theorem parts_spec (F : ModF n es f) (hp : ParOk n es f L par) (hl : ∃ i, i < n ∧ L i = true) : ∀ {vs : List Nat} {bey : List (Nat → Bool)}, (∀ v ∈ vs, v < n ∧ L v = false) → Grp n (Bey n es f L) bey →
    (∃ v gs, v < n ∧ Grp n (Lck n es f L v) gs ∧ (∀ i, i < n → L i = true → ∃ g ∈ gs, g i = true) ∧ 1 < gs.length ∧ partsF n par L vs bey = (gs.map (andP L), [])) ∨
    ∃ cs, Grp n (Bey n es f L) cs ∧ (∀ i, (i ∈ vs ∨ ∃ g ∈ bey, g i = true) → ∃ c ∈ cs, c i = true) ∧ partsF n par L vs bey = ([], cs.map notP)
  | [], bey, _, hb => .inr ⟨bey, hb, fun i h => h.elim (fun h => nomatch h) id, rfl⟩
  | v :: vs, bey, hv, hb => by
    obtain ⟨v1, v2⟩ := hv v List.mem_cons_self
    obtain ⟨g1, g2⟩ := groups_spec F hp v1 v2
    by_cases c : 1 < (groupsF n par L v).length
    · exact .inl ⟨v, _, v1, g1, g2, c, by rw [partsF, if_pos c]⟩
    · rw [partsF, if_neg c]
      obtain ⟨u, u1, u2⟩ := hl
      obtain ⟨g, hg, _⟩ := g2 u u1 u2
      obtain ⟨g', e⟩ : ∃ g', groupsF n par L v = [g'] := by
        refine List.length_eq_one_iff.mp ?_
        have := List.length_pos_of_mem hg
        omega
      rw [e] at g1 g2 ⊢
      obtain ⟨b1, b2⟩ := one_part g1 g2
      obtain ⟨k1, k2⟩ := bey_put F ⟨u, u1, u2⟩ hb b1
      have ih := parts_spec F hp ⟨u, u1, u2⟩ (vs := vs) (fun x hx => hv x (List.mem_cons_of_mem _ hx)) k1
      rcases ih with ih | ⟨cs, i1, i2, i3⟩
      · exact .inl ih
      · refine .inr ⟨cs, i1, fun i h => i2 i ?_, i3⟩
        rcases h with h | h
        · rcases List.mem_cons.mp h with rfl | h
          · exact .inr ((k2 i).mpr (.inl b2))
          · exact .inl h
        · exact .inr ((k2 i).mpr (.inr h))
end
end V4.LY
namespace V4.LY
open PySem PySem.Spec PyProof.Rows L2 L3 RZ
section
variable {n : Nat} {es : List (Nat × Nat)} {f : (Nat → Bool) → Int} {L L0 : Nat → Bool} {par : Nat → Nat → Nat → Bool} {W Ds : List (Nat → Bool)}
theorem and_sum {gs : List (Nat → Bool)} (hd : Dj n gs) (hc : ∀ i, i < n → L i = true → ∃ g ∈ gs, g i = true) {i : Nat} (hi : i < n) : (gs.map fun g => b01 (andP L g i)).sum = b01 (L i) := by
  cases c : L i with
  | true =>
    rw [sum_congr (b := fun g => b01 (g i)) fun g _ => by unfold andP; rw [c, Bool.true_and], dj_sum hi hd, decide_eq_true (hc i hi c)]
  | false =>
    have z := sum_eq (gs := gs) (a := fun g => b01 (andP L g i)) (q := 0) fun g _ => by unfold andP; rw [c, Bool.false_and]; rfl
    rw [z, Int.zero_mul]; rfl
theorem and_ent {gs : List (Nat → Bool)} (hd : Dj n gs) (hc : ∀ i, i < n → L i = true → ∃ g ∈ gs, g i = true) {e : Nat × Nat} (h1 : e.1 < n) (h2 : e.2 < n) : (gs.map fun g => entI (andP L g) e).sum = entI L e := by
  have s := sum_sub (gs := gs) (a := fun g => b01 (andP L g e.2)) (b := fun g => b01 (andP L g e.1))
  rw [and_sum hd hc h1, and_sum hd hc h2] at s
  exact s
structure Lev (n : Nat) (es : List (Nat × Nat)) (f : (Nat → Bool) → Int) (L : Nat → Bool) : Prop where
  ov : OvC n es f L
  some : ∃ i, i < n ∧ L i = true
  less : ∃ i, i < n ∧ L i = false
structure PInv (n : Nat) (es : List (Nat × Nat)) (f : (Nat → Bool) → Int) (L0 : Nat → Bool) (W Ds : List (Nat → Bool)) : Prop where
  lev : ∀ L ∈ W, Lev n es f L
  tg : ∀ D ∈ Ds, Tgt n es f D
  cnt : ∀ e, e.1 < n → e.2 < n → (W.map fun L => entI L e).sum + (Ds.map fun D => entI D e).sum = entI L0 e
def outP (n : Nat) (L : Nat → Bool) : List Nat := (List.range n).filter fun v => !L v
/-- one level taken and parted -/
theorem PInv.step (F : ModF n es f) (hp : ∀ L, Lev n es f L → ParOk n es f L par) (h : PInv n es f L0 (W ++ [L]) Ds) : PInv n es f L0 (W ++ (partsF n par L (outP n L) []).1) (Ds ++ (partsF n par L (outP n L) []).2) := by
  have lv := h.lev L (by simp)
  have old : ∀ e, e.1 < n → e.2 < n → (W.map fun L => entI L e).sum + entI L e + (Ds.map fun D => entI D e).sum = entI L0 e := fun e h1 h2 => by
    have := h.cnt e h1 h2
    rw [List.map_append, List.sum_append] at this
    simp at this
    omega
  rcases parts_spec F (hp L lv) lv.some (vs := outP n L) (bey := []) (fun v hv => by
    obtain ⟨a, b⟩ := List.mem_filter.mp hv
    exact ⟨List.mem_range.mp a, by simpa using b⟩) ⟨List.Pairwise.nil, fun g hg => (List.not_mem_nil hg).elim⟩ with ⟨v, gs, v1, g1, g2, g3, e⟩ | ⟨cs, c1, c2, e⟩
  · rw [e]
    refine ⟨fun X hX => ?_, by simpa using h.tg, fun x x1 x2 => ?_⟩
    · rcases List.mem_append.mp hX with hX | hX
      · exact h.lev X (List.mem_append_left _ hX)
      · obtain ⟨g, hg, rfl⟩ := List.mem_map.mp hX
        obtain ⟨u, u1, u2, u3⟩ := (g1.all g hg).has
        refine ⟨fun x y hx hy cx cy => ?_, ⟨u, u1, by unfold andP; rw [u2, u3]; rfl⟩, ⟨v, v1, by unfold andP; rw [(g1.all g hg).no, Bool.and_false]⟩⟩
        unfold andP at cx cy
        rw [Bool.and_eq_true] at cx
        by_cases z : L y = true
        · rw [z, Bool.true_and] at cy
          exact ⟨g, (g1.all g hg).tg, cx.2, cy⟩
        · exact lv.ov x y hx hy cx.1 (by simpa using z)
    · have := old x x1 x2
      have k := and_ent (L := L) g1.dj g2 x1 x2
      rw [List.map_append, List.sum_append, List.append_nil, List.map_map]
      have k : (gs.map ((fun L => entI L x) ∘ andP L)).sum = entI L x := k
      rw [k]
      omega
  · rw [e]
    have d := bey_leaf c1 fun i hi c => c2 i (.inl (List.mem_filter.mpr ⟨List.mem_range.mpr hi, by rw [c]; rfl⟩))
    refine ⟨fun X hX => h.lev X (List.mem_append_left _ (by simpa using hX)), fun D hD => ?_, fun x x1 x2 => ?_⟩
    · rcases List.mem_append.mp hD with hD | hD
      · exact h.tg D hD
      · exact d.tg D hD
    · have := old x x1 x2
      have k := d.cnt x x1 x2
      rw [List.append_nil, List.map_append (l₁ := Ds), List.sum_append, k]
      omega
end
end V4.LY
namespace V4.LY
open PySem PySem.Spec PyProof.Rows L2 L3 RZ
end V4.LY
namespace V4.LY
open PySem PySem.Spec PyProof.Rows L2 L3 RZ
end V4.LY
namespace V4.LY
open PySem PySem.Spec PyProof.Rows L2 L3 RZ
end V4.LY
namespace V4.LY
open PySem PySem.Spec PyProof.Rows L2 L3 RZ
section
variable {n : Nat} {es : List (Nat × Nat)} {ks : List Int} {w : Int → Int} {p : Nat → Int} {par : Nat → Nat → Nat → Bool} {vs : List Int}
theorem PrK.lev (h : PrK n es ks w p) (hs : vs.Pairwise (· < ·)) (hv : ∀ x, x ∈ vs ↔ ∃ i, i < n ∧ p i = x) {z : Int × Int} (hz : z ∈ stepsL vs) : Lev n es (fq es 1 ks) fun i => decide (p i ≤ z.1) := by
  have a := steps_lt hs hz
  obtain ⟨i, i1, i2⟩ := (hv _).mp (steps_low hz)
  obtain ⟨j, j1, j2⟩ := (hv _).mp a.2
  refine ⟨fun x y hx hy cx cy => not_ov.mp fun ho => ?_, ⟨i, i1, decide_eq_true (by omega)⟩, ⟨j, j1, decide_eq_false (by omega)⟩⟩
  have cx := of_decide_eq_true cx
  have cy := of_decide_eq_false cy
  have := h.ov x y hx hy ho
  omega
end
end V4.LY
namespace V4.LY
open PySem PySem.Spec PyProof.Rows L2 L3 RZ
end V4.LY
namespace V4.LY
open PySem PySem.Spec PyProof.Rows L2 L3 RZ
end V4.LY
namespace V4
open PySem PySem.Spec PyProof.Rows L2 L3 RZ
@[simp] theorem uLtA_int {i j : Int} : uLtA (.int i) (.int j) = some (.bool (decide (i < j))) := rfl
@[simp] theorem uLtA_str {i j : Str} : uLtA (.str i) (.str j) = some (.bool (decide (i.cps.toList < j.cps.toList))) := rfl
def ltC (c d : List Str) : Bool := !leG cutU d c
@[simp] theorem uLtA_cut {c d : List Str} : uLtA (cutU c) (cutU d) = some (.bool (ltC c d)) := by
  have h1 := good_cut.shp (by decide) c
  have h2 := good_cut.shp (by decide) d
  have h3 := good_cut.alk c d
  show (uLt (.tuple (c.map U.str)) (.tuple (d.map U.str))).or (uLtT (.tuple (c.map U.str)) (.tuple (d.map U.str))) = _
  have e1 : uLt (.tuple (c.map U.str)) (.tuple (d.map U.str)) = none := rfl
  rw [e1]
  show (if shp (cutU c) && shp (cutU d) && PySem.W.alike (cutU c).py (cutU d).py then some (U.bool (PySem.W.dataLt (cutU c).py (cutU d).py)) else none) = _
  rw [h1, h2, h3]
  unfold ltC
  rw [leG_lt, Bool.not_not]
  rfl
def keysC (F : CN) : List (List Str) := F.map (·.1)
def addC (F : CN) (z : List Str × Int) : CN := putC F z.1 (ofC F z.1 + z.2)
def mapC (F : CN) (c : List Str) (n : Int) : CN := F.map fun p => if p.1 = c then (p.1, n) else p
theorem mapC_keys {F : CN} {c : List Str} {n : Int} : keysC (mapC F c n) = keysC F := by
  unfold keysC mapC
  rw [List.map_map]
  refine List.map_congr_left fun p _ => ?_
  simp only [Function.comp]
  split <;> rfl
theorem putC_in {F : CN} {c : List Str} {n : Int} (h : c ∈ keysC F) : putC F c n = mapC F c n := by
  unfold putC mapC
  refine if_pos ?_
  obtain ⟨p, hp, rfl⟩ := List.mem_map.mp h
  exact List.any_eq_true.mpr ⟨p, hp, decide_eq_true rfl⟩
theorem putC_out {F : CN} {c : List Str} {n : Int} (h : c ∉ keysC F) : putC F c n = F ++ [(c, n)] := by
  unfold putC
  refine if_neg fun e => ?_
  obtain ⟨p, hp, e⟩ := List.any_eq_true.mp e
  exact h (List.mem_map.mpr ⟨p, hp, of_decide_eq_true e⟩)
theorem ofC_out {F : CN} {c : List Str} (h : c ∉ keysC F) : ofC F c = 0 := by
  unfold ofC
  rw [List.find?_eq_none.mpr fun p hp => by
    rw [decide_eq_true_eq]
    exact fun e => h (List.mem_map.mpr ⟨p, hp, e⟩)]
  rfl
theorem mapC_out {F : CN} {c : List Str} {n : Int} (h : c ∉ keysC F) : mapC F c n = F := by
  unfold mapC
  conv => rhs; rw [← List.map_id F]
  refine List.map_congr_left fun p hp => ?_
  rw [if_neg fun e => h (List.mem_map.mpr ⟨p, hp, e⟩)]
  rfl
def sumC (h : List Str → Int) (F : CN) : Int := (F.map fun z => z.2 * h z.1).sum
theorem sumC_cons {h : List Str → Int} {z : List Str × Int} {F : CN} : sumC h (z :: F) = z.2 * h z.1 + sumC h F := rfl
theorem sumC_app {h : List Str → Int} {F G : CN} : sumC h (F ++ G) = sumC h F + sumC h G := by
  unfold sumC
  rw [List.map_append, List.sum_append]
theorem sumC_map {h : List Str → Int} {c : List Str} {n : Int} : ∀ {F : CN}, (keysC F).Nodup → c ∈ keysC F → sumC h (mapC F c n) = sumC h F + (n - ofC F c) * h c
  | [], _, hc => nomatch hc
  | p :: F, nd, hc => by
    have nd' := List.nodup_cons.mp (show (p.1 :: keysC F).Nodup from nd)
    have em : mapC (p :: F) c n = (if p.1 = c then (p.1, n) else p) :: mapC F c n := rfl
    by_cases e : p.1 = c
    · have hF : c ∉ keysC F := e ▸ nd'.1
      have eo : ofC (p :: F) c = p.2 := by
        unfold ofC
        rw [List.find?_cons_of_pos (by simpa using e)]; rfl
      rw [em, if_pos e, mapC_out hF, sumC_cons, sumC_cons, eo, e, Int.sub_mul]
      show n * h c + _ = _
      omega
    · have hF : c ∈ keysC F := by
        rcases List.mem_cons.mp (show c ∈ p.1 :: keysC F from hc) with z | z
        · exact (e z.symm).elim
        · exact z
      have eo : ofC (p :: F) c = ofC F c := by
        unfold ofC
        rw [List.find?_cons_of_neg (by simpa using e)]
      rw [em, if_neg e, sumC_cons, sumC_cons, eo, sumC_map nd'.2 hF]
      omega
theorem sumC_add {h : List Str → Int} {F : CN} {z : List Str × Int} (nd : (keysC F).Nodup) : sumC h (addC F z) = sumC h F + z.2 * h z.1 := by
  unfold addC
  by_cases c : z.1 ∈ keysC F
  · rw [putC_in c, sumC_map nd c]
    congr 2
    omega
  · rw [putC_out c, sumC_app, ofC_out c]
    show _ + ((0 + z.2) * h z.1 + 0) = _
    rw [Int.zero_add, Int.add_zero]
theorem addC_keys {F : CN} {z : List Str × Int} : keysC (addC F z) = if z.1 ∈ keysC F then keysC F else keysC F ++ [z.1] := by
  unfold addC
  split
  · rename_i c
    rw [putC_in c, mapC_keys]
  · rename_i c
    rw [putC_out c]
    unfold keysC
    rw [List.map_append]; rfl
theorem addC_nd {F : CN} {z : List Str × Int} (nd : (keysC F).Nodup) : (keysC (addC F z)).Nodup := by
  rw [addC_keys]
  split
  · exact nd
  · rename_i c
    exact List.nodup_append.mpr ⟨nd, by simp, fun a ha b hb => by
      rw [List.mem_singleton.mp hb]
      exact fun e => c (e ▸ ha)⟩
theorem addC_mem {F : CN} {z : List Str × Int} {c : List Str} : c ∈ keysC (addC F z) ↔ c ∈ keysC F ∨ c = z.1 := by
  rw [addC_keys]
  split
  · rename_i h
    exact ⟨.inl, fun e => e.elim id fun e => e ▸ h⟩
  · rw [List.mem_append, List.mem_singleton]
theorem addC_len {F : CN} {z : List Str × Int} : (addC F z).length ≤ F.length + 1 := by
  have := congrArg List.length (addC_keys (F := F) (z := z))
  unfold keysC at this
  rw [List.length_map] at this
  rw [this]
  split
  · rw [List.length_map]; omega
  · rw [List.length_append, List.length_map]; simp
theorem ofC_pos {F : CN} {c : List Str} (h : ∀ p ∈ F, 0 < p.2) : 0 ≤ ofC F c := by
  unfold ofC
  cases e : F.find? fun p => decide (p.1 = c) with
  | none => exact Int.le_refl _
  | some p =>
    have := h p (List.mem_of_find?_eq_some e)
    show 0 ≤ p.2
    omega
theorem addC_pos {F : CN} {z : List Str × Int} (h : ∀ p ∈ F, 0 < p.2) (hz : 0 < z.2) : ∀ p ∈ addC F z, 0 < p.2 := fun p hp => by
  have h0 := ofC_pos (c := z.1) h
  unfold addC at hp
  by_cases c : z.1 ∈ keysC F
  · rw [putC_in c] at hp
    obtain ⟨q, hq, rfl⟩ := List.mem_map.mp hp
    split
    · show 0 < ofC F z.1 + z.2; omega
    · exact h q hq
  · rw [putC_out c] at hp
    rcases List.mem_append.mp hp with hp | hp
    · exact h p hp
    · rw [List.mem_singleton.mp hp]
      show 0 < ofC F z.1 + z.2; omega
structure AccI (L F : CN) : Prop where
  nd : (keysC F).Nodup
  mem : ∀ c, c ∈ keysC F ↔ c ∈ keysC L
  sum : ∀ h, sumC h F = sumC h L
  len : F.length ≤ L.length
  pos : (∀ z ∈ L, 0 < z.2) → ∀ z ∈ F, 0 < z.2
theorem AccI.nil : AccI [] [] := ⟨List.nodup_nil, fun _ => Iff.rfl, fun _ => rfl, Nat.le_refl _, fun _ z hz => nomatch hz⟩
theorem AccI.snoc {L F : CN} {z : List Str × Int} (a : AccI L F) : AccI (L ++ [z]) (addC F z) := by
  refine ⟨addC_nd a.nd, fun c => ?_, fun h => ?_, ?_, fun hp => ?_⟩
  · rw [addC_mem, a.mem]
    unfold keysC
    rw [List.map_append, List.mem_append]
    simp
  · rw [sumC_add a.nd, a.sum, sumC_app]
    show _ = _ + (z.2 * h z.1 + 0)
    omega
  · have := a.len
    have := addC_len (F := F) (z := z)
    rw [List.length_append, List.length_singleton]
    omega
  · exact addC_pos (a.pos fun y hy => hp y (List.mem_append_left _ hy)) (hp z (by simp))
end V4
namespace V4.LY
open PySem PySem.Spec PyProof.Rows L2 L3 RZ
end V4.LY
namespace V4
open PySem PySem.Spec PyProof.Rows L2 L3 RZ
end V4
namespace ET
open PySem PySem.Spec PyProof.Rows RZ
open PySem.Sem (wp)
theorem meets_newT (l : Addr) (items : Array Value) (dd : Option Addr) (sl : Array (Option Value)) (n : Nat) :
    Meets (Builtin.«enumerate.__new__» ⟨[.type "enumerate", .ref l], []⟩) (fun _ R s => s.heap.get? l = some { cls := .type "tuple", dict := dd, data := .seq items n, slots := sl } ∧
      R (.ok (.ret (.ref (s.heap.push { cls := .type "tuple_iterator", data := .fields #[.ref l, .int 0 0] }).objs.size)))
        { s with heap := (s.heap.push { cls := .type "tuple_iterator", data := .fields #[.ref l, .int 0 0] }).push { cls := .type "enumerate", data := .fields #[.none, .bool false, .ref s.heap.objs.size, rawInt 0, .none, .none] } }) :=
  .of_wp fun prog w A R s h => by
    obtain ⟨hp, g, d, tk, os⟩ := s; obtain ⟨hl, h⟩ := h
    have hsub := sub_enumerate
    have hL : Heap.IsTuple (Shared.heap ⟨hp, g, d, tk, os⟩) l items := ⟨_, hl, rfl, n, rfl⟩
    wp_walk using AutoSeq1.wpAny_loadPart' hl
    refine wpAny_stack_any fun st => wpAny_pure ?_
    split
    · rename_i c _ _ _ _ _
      cases (c == Value.type "enumerate")
      · wp_walk using AutoSeq1.wpAny_loadPart' hl, wpAny_pyIter_tuple hL
        exact ⟨_, rfl, h⟩
      · wp_walk using AutoSeq1.wpAny_loadPart' hl, wpAny_pyIter_tuple hL
        exact ⟨_, rfl, h⟩
    · wp_walk using AutoSeq1.wpAny_loadPart' hl, wpAny_pyIter_tuple hL
      exact ⟨_, rfl, h⟩
section
variable {prog : Program} {w : World} {A : Around} {E : Value → Shared → Prop} {s : Shared}
theorem call_enumT {l : Addr} {items : Array Value} {Q : Value → Shared → Prop} (hL : s.heap.IsTuple l items)
    (h : ∀ h', IsEnum h' (s.heap.objs.size + 1) s.heap.objs.size 0 .none → h'.IsTupleIter s.heap.objs.size l 0 → h'.objs.size = s.heap.objs.size + 2 →
      (∀ b o, s.heap.get? b = some o → h'.get? b = some o) → Q (.ref (s.heap.objs.size + 1)) { s with heap := h' }) :
    wpAny (model prog w) A (call (.type "enumerate") [.ref l]) Q E s := by
  obtain ⟨⟨c, dct, dt, sl⟩, hl, hc, n, hd⟩ := hL
  replace hc : c = .type "tuple" := hc
  replace hd : dt = .seq items n := hd
  subst hc hd
  refine callType_new F.called_enumerate (by decide) (F.typeCall_enumerate_1 _) (F.newCall_enumerate_1 _) (fun obj => F.args_object_init_2 obj _) F.entry_enumerate_new
    (meets_newT l items dct sl n) ⟨hl, ?_⟩
  have hz : (s.heap.push { cls := .type "tuple_iterator", data := .fields #[.ref l, .int 0 0] }).objs.size = s.heap.objs.size + 1 := Heap.size_push ..
  show _ ∧ _
  rw [hz]
  have he : IsEnum ((s.heap.push { cls := .type "tuple_iterator", data := .fields #[.ref l, .int 0 0] }).push
      { cls := .type "enumerate", data := .fields #[.none, .bool false, .ref s.heap.objs.size, rawInt 0, .none, .none] }) (s.heap.objs.size + 1) s.heap.objs.size 0 .none := by
    have := Heap.get?_push_size (s.heap.push { cls := .type "tuple_iterator", data := .fields #[.ref l, .int 0 0] })
      (o := { cls := .type "enumerate", data := .fields #[.none, .bool false, .ref s.heap.objs.size, rawInt 0, .none, .none] }) rfl
    rw [hz] at this; exact this
  exact ⟨⟨_, he, rfl⟩, h _ he ⟨_, Heap.get?_push_of_some _ (Heap.get?_push_size _ rfl), rfl, rfl⟩ (by rw [Heap.size_push, hz]) fun b o x => Heap.get?_push_of_some _ (Heap.get?_push_of_some _ x)⟩
/-- what an enumerate does with the item that its walk has told, whatever the walk -/
theorem next_any {e it : Addr} {i : Nat} {x old : Value} {P : Heap → Prop} {Q : Value → Shared → Prop} (he : IsEnum s.heap e it i old) (hne : e ≠ it)
    (hit : ∀ {Q' : Value → Shared → Prop} {E' : Value → Shared → Prop}, (∀ h', P h' → Heap.SameBut it s.heap h' → Q' x { s with heap := h' }) → wpAny (model prog w) A (Builtin.SmallTypes.nextOf (.ref it)) Q' E' s)
    (hP : ∀ h h', P h → (∀ o, h.get? it = some o → h'.get? it = some o) → P h')
    (hQ : ∀ h', IsEnumOut h' e it ((i : Int) + 1) x s.heap.objs.size → P h' →
      h'.get? s.heap.objs.size = some { cls := .type "tuple", data := .seq #[.int i s.toks, x] } → h'.objs.size = s.heap.objs.size + 1 →
      (∀ b o, b ≠ e → b ≠ it → s.heap.get? b = some o → h'.get? b = some o) → Q (.ref s.heap.objs.size) { s with heap := h', toks := s.toks + 1 }) :
    wpAny (model prog w) A (Builtin.«enumerate.__next__» ⟨[.ref e], []⟩) (fun fin s' => ∃ v, fin = .done (.ret v) ∧ Q v s') E s := by
  obtain ⟨hp, g, d, tk, os⟩ := s
  show wpAny _ _ (field (.ref e) 2 >>= _) _ _ _
  refine wpAny_bind (wpAny_field he rfl (x := .ref it) rfl ?_)
  refine wpAny_bind (hit fun h₁ p₁ hs₁ => ?_)
  replace hs₁ : Heap.SameBut it hp h₁ := hs₁
  have he₁ : IsEnum h₁ e it i old := (hs₁.2 e hne).trans he
  show wpAny _ _ (field (.ref e) 3 >>= _) _ _ ⟨h₁, g, d, tk, os⟩
  refine wpAny_bind (wpAny_field he₁ rfl (x := rawInt i) rfl ?_)
  show wpAny _ _ (field (.ref e) 4 >>= _) _ _ ⟨h₁, g, d, tk, os⟩
  refine wpAny_bind (wpAny_field he₁ rfl (x := .none) rfl ?_)
  show wpAny _ _ (mkInt i >>= _) _ _ ⟨h₁, g, d, tk, os⟩
  refine wpAny_bind (wpAny_mkInt ?_)
  show wpAny _ _ (setField (.ref e) 3 (rawInt ((i : Int) + 1)) >>= _) _ _ ⟨h₁, g, d, tk + 1, os⟩
  refine wpAny_bind (wpAny_setField_rec he₁ (by simp) fun h₂ he₂ hs₂ => ?_)
  replace hs₂ : Heap.SameBut e h₁ h₂ := hs₂
  replace he₂ : IsEnum h₂ e it ((i : Int) + 1) old := he₂
  show wpAny _ _ (setField (.ref e) 4 .none >>= _) _ _ ⟨h₂, g, d, tk + 1, os⟩
  refine wpAny_bind (wpAny_setField_rec he₂ (by simp) fun h₃ he₃ hs₃ => ?_)
  replace hs₃ : Heap.SameBut e h₂ h₃ := hs₃
  replace he₃ : IsEnum h₃ e it ((i : Int) + 1) old := he₃
  have p₃ : P h₃ := hP _ _ p₁ fun o q => hs₃.extBut it o (Ne.symm hne) (hs₂.extBut it o (Ne.symm hne) q)
  have hsz : h₃.objs.size = hp.objs.size := by rw [hs₃.1, hs₂.1, hs₁.1]
  have hel : e < hp.objs.size := Heap.lt_size he
  show wpAny _ _ (newTuple [.int i tk, x] >>= _) _ _ ⟨h₃, g, d, tk + 1, os⟩
  refine wpAny_bind (wpAny_newTuple ?_)
  have he₄ : IsEnum (h₃.push { cls := .type "tuple", data := .seq #[.int i tk, x] }) e it ((i : Int) + 1) old := Heap.get?_push_of_some _ he₃
  have p₄ : P (h₃.push { cls := .type "tuple", data := .seq #[.int i tk, x] }) := hP _ _ p₃ fun o q => Heap.get?_push_of_some _ q
  have ht₄ : (h₃.push { cls := .type "tuple", data := .seq #[.int i tk, x] }).get? hp.objs.size = some { cls := .type "tuple", data := .seq #[.int i tk, x] } := by rw [← hsz]; exact Heap.get?_push_size _ rfl
  have hz₄ : (h₃.push { cls := .type "tuple", data := .seq #[.int i tk, x] }).objs.size = hp.objs.size + 1 := by rw [Heap.size_push, hsz]
  have hk₄ : ∀ b o, b ≠ e → b ≠ it → hp.get? b = some o → (h₃.push { cls := .type "tuple", data := .seq #[.int i tk, x] }).get? b = some o := fun b o hbe hbi hb =>
    Heap.get?_push_of_some _ (hs₃.extBut b o hbe (hs₂.extBut b o hbe (hs₁.extBut b o hbi hb)))
  generalize h₃.push { cls := .type "tuple", data := .seq #[.int i tk, x] } = h₄ at he₄ p₄ ht₄ hz₄ hk₄
  show wpAny _ _ (Builtin.SmallTypes.ownedTupleIsFree (.ref e) >>= _) _ _ ⟨h₄, g, d, tk + 1, os⟩
  rw [hsz]
  refine wpAny_bind ?_
  unfold Builtin.SmallTypes.ownedTupleIsFree
  refine wpAny_bind (wpAny_field he₄ rfl (x := .none) rfl (wpAny_pure ?_))
  simp only [if_true]
  refine wpAny_bind (wpAny_rule ?_)
  refine wpAny_bind (wpAny_field he₄ rfl (x := old) rfl ?_)
  refine wpAny_bind (wpAny_setField_rec he₄ (by simp) fun h₅ he₅ hs₅ => ?_)
  replace hs₅ : Heap.SameBut e h₄ h₅ := hs₅
  replace he₅ : IsEnum h₅ e it ((i : Int) + 1) x := he₅
  show wpAny _ _ (Builtin.SmallTypes.ownedTupleHandOut (.ref e) (.ref hp.objs.size) >>= _) _ _ ⟨h₅, g, d, tk + 1, os⟩
  refine wpAny_bind ?_
  unfold Builtin.SmallTypes.ownedTupleHandOut
  refine wpAny_bind (wpAny_setField_rec he₅ (by simp) fun h₆ he₆ hs₆ => ?_)
  replace hs₆ : Heap.SameBut e h₅ h₆ := hs₆
  replace he₆ : IsEnumOut h₆ e it ((i : Int) + 1) x hp.objs.size := he₆
  refine wpAny_setField_rec he₆ (by simp) fun h₇ he₇ hs₇ => ?_
  replace hs₇ : Heap.SameBut e h₆ h₇ := hs₇
  replace he₇ : IsEnumOut h₇ e it ((i : Int) + 1) x hp.objs.size := he₇
  refine wpAny_bind (wpAny_letGo (wpAny_pure ⟨_, rfl, hQ h₇ he₇ ?_ ?_ ?_ ?_⟩))
  · exact hP _ _ p₄ fun o q => hs₇.extBut it o (Ne.symm hne) (hs₆.extBut it o (Ne.symm hne) (hs₅.extBut it o (Ne.symm hne) q))
  · exact hs₇.extBut _ _ (Nat.ne_of_gt hel) (hs₆.extBut _ _ (Nat.ne_of_gt hel) (hs₅.extBut _ _ (Nat.ne_of_gt hel) ht₄))
  · rw [hs₇.1, hs₆.1, hs₅.1, hz₄]
  · exact fun b o hbe hbi hb => hs₇.extBut b o hbe (hs₆.extBut b o hbe (hs₅.extBut b o hbe (hk₄ b o hbe hbi hb)))
theorem pyNext_enumT_item {e it l : Addr} {i : Nat} {items : Array Value} {x old : Value} {Q : Option Value → Shared → Prop}
    (he : IsEnum s.heap e it i old) (hit : s.heap.IsTupleIter it l i) (hl : s.heap.IsTuple l items) (hx : items[i]? = some x) (hne : e ≠ it)
    (hQ : ∀ h', IsEnumOut h' e it ((i : Int) + 1) x s.heap.objs.size → h'.IsTupleIter it l (i + 1) →
      h'.get? s.heap.objs.size = some { cls := .type "tuple", data := .seq #[.int i s.toks, x] } → h'.objs.size = s.heap.objs.size + 1 →
      (∀ b o, b ≠ e → b ≠ it → s.heap.get? b = some o → h'.get? b = some o) → Q (some (.ref s.heap.objs.size)) { s with heap := h', toks := s.toks + 1 }) :
    wpAny (model prog w) A (pyNext (.ref e)) Q E s := by
  have hT : s.TypeIs (.ref e) "enumerate" := ⟨_, he, rfl⟩
  unfold pyNext
  exact wpAny_bind (wpAny_attempt (wpAny_callSpecial?_slot (name := Str.ofString "__next__") hT F.slot_enumerate_next
    (wpAny_call_entry F.slot_enumerate_next hT F.entry_enumerate_next
      (next_any (P := fun h => h.IsTupleIter it l (i + 1)) he hne (fun k => nextOf_tuple_item hit hl hx k) (fun h h' p k => let ⟨o, q, r⟩ := p; ⟨o, k o q, r⟩) fun h' a b c d k => wpAny_pure (hQ h' a b c d k)) (F.args_enumerate_next_1 _))))
theorem pyNext_enumT_end {e it l : Addr} {i : Nat} {items : Array Value} {old : Value} {Q : Option Value → Shared → Prop} (hh : A.handled = none)
    (he : IsEnum s.heap e it i old) (hit : s.heap.IsTupleIter it l i) (hl : s.heap.IsTuple l items) (hx : items[i]? = none)
    (hQ : ∀ h', Heap.ExtBut it s.heap h' → Q none { s with heap := h' }) : wpAny (model prog w) A (pyNext (.ref e)) Q E s := by
  have hT : s.TypeIs (.ref e) "enumerate" := ⟨_, he, rfl⟩
  unfold pyNext
  refine wpAny_bind (wpAny_attempt (wpAny_callSpecial?_slot (name := Str.ofString "__next__") hT F.slot_enumerate_next
    (wpAny_call_entry F.slot_enumerate_next hT F.entry_enumerate_next ?_ (F.args_enumerate_next_1 _))))
  show wpAny _ _ (field (.ref e) 2 >>= _) _ _ _
  refine wpAny_bind (wpAny_field he rfl (x := .ref it) rfl ?_)
  refine wpAny_bind (nextOf_tuple_end hh hit hl hx fun h' x he' hx' => ?_)
  obtain ⟨o, ho, hc⟩ := hx'
  refine wpAny_bind (wpAny_isInstance (T := "StopIteration") (b := true) ⟨o, ho, hc⟩ isSubtype_stop ?_)
  exact wpAny_pure (hQ _ he')
end
end ET
namespace L2
open PySem PySem.Spec PyProof.Rows RZ
def IteT (K : PySem.W.Frag) (a : Addr) : It :=
  ⟨fun i H => ∃ (xs : List V) (x : V), SqT K H a xs ∧ xs[i]? = some x, fun i H v H' => ∃ T x, v = .ref T ∧ H T = none ∧ H' = upd H T (.tup [.int (i : Nat), x]) ∧ ∀ xs, SqT K H a xs → xs[i]? = some x, fun i H => ∃ xs : List V, SqT K H a xs ∧ xs.length ≤ i⟩
theorem turn_enumT {P : Program} {w : World} {K : PySem.W.Frag} {elts : List Expr} {kk : Nat} {tpos : Pos} (a e it : Addr) :
    Turn P w K (.Tuple elts kk tpos) (IteT K a) [e, it] e (fun i h => (∃ old, IsEnum h e it ((i : Nat) : Int) old) ∧ h.IsTupleIter it a i ∧ e ≠ it) where
  mem := by simp
  obj := fun i h st b hb => by
    obtain ⟨⟨old, he⟩, ⟨o, ho, hc, hd⟩, _⟩ := st
    have e' : b = e ∨ b = it := by simpa using hb
    rcases e' with z | z
    · rw [z]; exact ⟨_, he, fun v q => nomatch q⟩
    · rw [z]; exact ⟨o, ho, fun v q => by rw [hd] at q; cases q⟩
  keep := fun i h h' st k => let ⟨⟨old, he⟩, ⟨o, ho, r⟩, hne⟩ := st; ⟨⟨old, k e (by simp) _ he⟩, ⟨o, k it (by simp) _ ho, r⟩, hne⟩
  item := by
    intro X hP hw hK hc i pins s σ H E I hf st hg
    subst hP hw hK
    obtain ⟨⟨old, he⟩, hit, hne⟩ := st
    obtain ⟨xs, x, hq, hx⟩ := hg
    obtain ⟨its, rv, p, hz⟩ := I.tuple hq
    obtain ⟨u, hu, ru⟩ := rv.get hx
    have hel : e < s.heap.objs.size := Heap.lt_size he
    have hil : it < s.heap.objs.size := by obtain ⟨_, q, _⟩ := hit; exact Heap.lt_size q
    refine ET.pyNext_enumT_item he hit (show s.heap.IsTuple a its.toArray from p) (x := u) (by simpa using hu) hne fun h' ho hit' hT hsz hk => ?_
    refine ⟨_, rfl, wpAny_letOwnedTupleGo_enum (s := { s with heap := h', toks := s.toks + 1 }) ho fun h'' he' sb => ?_⟩
    have hT2 : h''.get? s.heap.objs.size = some { cls := .type "tuple", data := .seq #[.int i s.toks, u] } := (sb.2 _ (Nat.ne_of_gt hel)).trans hT
    have new : ObjOk X.prog X.w (upd H s.heap.objs.size (.tup [.int (i : Nat), x])) h'' s.heap.objs.size (.tup [.int (i : Nat), x]) :=
      ⟨by show 2 ≤ sizeLine; decide, [.int i s.toks, u], .cons ⟨_, rfl⟩ (.cons ru .nil), ⟨_, hT2, rfl, _, rfl⟩⟩
    have I1 : Inv X pins σ (upd H s.heap.objs.size (.tup [.int (i : Nat), x])) { s with heap := h'', toks := s.toks + 1 } :=
      I.turnedNew (ch := [e, it]) (fun b ob hb q => (sb.2 b (fun z => hb (by simp [z]))).trans (hk b ob (fun z => hb (by simp [z])) (fun z => hb (by simp [z])) q)) hf (Nat.le_refl _) new
    refine ⟨.ref s.heap.objs.size, _, I1, rfl, ⟨_, x, rfl, I.hok.fresh (Nat.le_refl _), rfl, fun ys hy => by rw [I.tuple_inj hy hq]; exact hx⟩, ⟨⟨u, ?_⟩, (let ⟨o, q, r⟩ := hit'; ⟨o, (sb.2 it (Ne.symm hne)).trans q, r⟩), hne⟩, fun b hb => ?_⟩
    · have e1 : ((i + 1 : Nat) : Int) = (i : Int) + 1 := by omega
      rw [e1]; exact he'
    · have hb' : b < s.heap.objs.size := by
        have e' : b = e ∨ b = it := by simpa using hb
        rcases e' with z | z
        · rw [z]; exact hel
        · rw [z]; exact hil
      rw [upd_ne (Nat.ne_of_lt hb')]
      exact (hf b hb).1
  done := by
    intro X hP hw hK hc i pins s σ H E I hf st hg
    subst hP hw hK
    obtain ⟨⟨old, he⟩, hit, hne⟩ := st
    obtain ⟨xs, hq, hx⟩ := hg
    obtain ⟨its, rv, p, hz⟩ := I.tuple hq
    obtain ⟨f0, f1, f2, f3, f4, f5⟩ := hf it (by simp)
    have hl := rv.length
    exact ET.pyNext_enumT_end (I.ok.hd hc) he hit (show s.heap.IsTuple a its.toArray from p) (by simp; omega) fun h' eb => ⟨rfl, I.turned (t' := s.toks) (fun b o hb q => eb b o hb q) f0 f1 f3 f4 f5⟩
  self := fun A i s Q E st h => let ⟨⟨_, he⟩, _⟩ := st; wpAny_pyIter_enum he h
def iEnumT (K : PySem.W.Frag) (ta : TA) : TI := fun σ H R => ta σ H fun vs H1 => ∃ a, vs = [.ref a] ∧ ((∃ xs, SqL K H1 a xs ∧ R (Ite K a) H1) ∨ ∃ xs, SqT K H1 a xs ∧ R (IteT K a) H1)
theorem pi_enumT {X : Cx} {e : Expr} {ta : TA} {p pos tpos : Pos} {elts : List Expr} {kk : Nat} (hg : Gl X "enumerate") (hm : X.mg "enumerate" = none) (ha : PA X [e] ta) (hs : starEach [e] X.env = [(false, eval e X.env)] := by rfl) :
    PI X (.Tuple elts kk tpos) (.Call (.Name "enumerate" p) [e] [] pos) (iEnumT X.K ta) := by
  refine ⟨fun pins s σ H R I h => ?_⟩
  refine Call_ (ld_blt I hg hm boot_enumerate (PyProof.Rows.callWith_type1 (thn (ha.run pos pins s σ H _ I h) fun us s1 ⟨vs, H1, I1, r1, q1⟩ => ?_) hs rfl))
  obtain ⟨a, ex, q1⟩ := q1
  subst ex
  cases r1 with
  | cons r rr =>
    cases rr
    cases r
    have fresh : ∀ b, b ∈ [s1.heap.objs.size + 1, s1.heap.objs.size] → FpOk X pins H1 b := fun b hb => by
      have e' : b = s1.heap.objs.size + 1 ∨ b = s1.heap.objs.size := by simpa using hb
      have hle : s1.heap.objs.size ≤ b := by
        rcases e' with z | z
        · rw [z]; exact Nat.le_add_right _ _
        · rw [z]; exact Nat.le_refl _
      exact I1.fpOk hle (I1.hok.fresh hle)
    rcases q1 with ⟨xs, hq, q⟩ | ⟨xs, hq, q⟩
    · obtain ⟨its, rv, p', hz⟩ := I1.list hq
      refine call_enumerate_list p'.isList fun h' he hit hsz hk => wpAny_pyIter_enum he ?_
      have I2 : Inv X pins σ H1 { s1 with heap := h' } := I1.kept (t' := s1.toks) hk
      exact ⟨s1.heap.objs.size + 1, [s1.heap.objs.size + 1, s1.heap.objs.size], _, _, H1, rfl, I2, turn_enum a (s1.heap.objs.size + 1) s1.heap.objs.size, ⟨⟨.none, he⟩, hit, Nat.succ_ne_self _⟩, fresh, q⟩
    · obtain ⟨its, rv, p', hz⟩ := I1.tuple hq
      refine ET.call_enumT (show s1.heap.IsTuple a its.toArray from p') fun h' he hit hsz hk => wpAny_pyIter_enum he ?_
      have I2 : Inv X pins σ H1 { s1 with heap := h' } := I1.kept (t' := s1.toks) hk
      exact ⟨s1.heap.objs.size + 1, [s1.heap.objs.size + 1, s1.heap.objs.size], _, _, H1, rfl, I2, turn_enumT a (s1.heap.objs.size + 1) s1.heap.objs.size, ⟨⟨.none, he⟩, hit, Nat.succ_ne_self _⟩, fresh, q⟩
end L2
namespace V4
open PySem PySem.Spec PyProof.Rows L2 L3 RZ
def enumTU : U → Option (List U)
  | .list us => some ((enumL us).map fun p => .tuple [.int p.1, p.2])
  | .tuple us => some ((enumL us).map fun p => .tuple [.int p.1, p.2])
  | .tupK us => some ((enumL us).map fun p => .tuple [.int p.1, p.2])
  | _ => none
def enTM (m : Mo U) : Mo (List U) := .bind m fun u => .ofOpt (enumTU u)
section
variable {C : Ct} {Γ Γ1 : List Mk} {e : Expr} {p pos tpos : Pos} {m : Mo U} {md : List Nat}
theorem wlk_enumT {K : PySem.W.Frag} {G : Hp} {a : Addr} {vs : List V} {us : List U} (hs : SqT K G a vs) (hd : DqAll K G vs us) (hz : vs.length ≤ sizeLine) : Wlk (IteT K a) ((enumL us).map fun p => U.tuple [.int p.1, p.2]) (fun u => isD K u) G := by
  have hl := dpAll_len hd
  refine ⟨by rw [List.length_map, enumL_len]; omega, fun i G2 H2 e1 e2 h => ⟨vs, sqT_ex e2 (sqT_ex e1 hs), by rw [List.length_map, enumL_len] at h; omega⟩, fun i y G2 H2 e1 e2 hy => ?_⟩
  rw [List.getElem?_map] at hy
  obtain ⟨y, hy2, rfl⟩ := Option.map_eq_some_iff.mp hy
  obtain ⟨y1, y2⟩ := enumL_get hy2
  obtain ⟨v, hv, hq⟩ := dpAll_get hd y2
  refine ⟨⟨vs, v, sqT_ex e2 (sqT_ex e1 hs), hv⟩, fun v' H3 ⟨T, x, ev, hT, eh, k⟩ => ?_⟩
  subst ev eh
  have := k vs (sqT_ex e2 (sqT_ex e1 hs))
  rw [hv] at this
  cases this
  have gT : G2 T = none := Ex.back e2 hT
  refine ⟨_, Grow.newF e2 hT, .tup L2.upd_same (.cons ?_ (.cons (dp_ex (e1.trans (Ex.new gT)) _ _ hq) .nil))⟩
  rw [y1]
  exact .int _
theorem wlk_enumL {K : PySem.W.Frag} {G : Hp} {a : Addr} {vs : List V} {us : List U} (hs : SqL K G a vs) (hd : DqAll K G vs us) (hz : vs.length ≤ sizeLine) : Wlk (Ite K a) ((enumL us).map fun p => U.tuple [.int p.1, p.2]) (fun u => isD K u) G := by
  have hl := dpAll_len hd
  refine ⟨by rw [List.length_map, enumL_len]; omega, fun i G2 H2 e1 e2 h => ⟨vs, sqL_ex e2 (sqL_ex e1 hs), by rw [List.length_map, enumL_len] at h; omega⟩, fun i y G2 H2 e1 e2 hy => ?_⟩
  rw [List.getElem?_map] at hy
  obtain ⟨y, hy2, rfl⟩ := Option.map_eq_some_iff.mp hy
  obtain ⟨y1, y2⟩ := enumL_get hy2
  obtain ⟨v, hv, hq⟩ := dpAll_get hd y2
  refine ⟨⟨vs, v, sqL_ex e2 (sqL_ex e1 hs), hv⟩, fun v' H3 ⟨T, x, ev, hT, eh, k⟩ => ?_⟩
  subst ev eh
  have := k vs (sqL_ex e2 (sqL_ex e1 hs))
  rw [hv] at this
  cases this
  have gT : G2 T = none := Ex.back e2 hT
  refine ⟨_, Grow.newF e2 hT, .tup L2.upd_same (.cons ?_ (.cons (dp_ex (e1.trans (Ex.new gT)) _ _ hq) .nil))⟩
  rw [y1]
  exact .int _
theorem kenumT_ {elts : List Expr} {kk : Nat} (hm : C.X.mg "enumerate" = none) (h : EJ C Γ e m md (.val .f) Γ1) (hg : Gl C.X "enumerate" := by rfl) (hs : starEach [e] C.X.env = [(false, eval e C.X.env)] := by rfl) (hs2 : starEach [e] C.X.env = (false, eval e C.X.env) :: starEach [] C.X.env := by rfl) :
    WkJ C Γ (.Tuple elts kk tpos) (.Call (.Name "enumerate" p) [e] [] pos) (enTM m) md Γ1 :=
  ⟨h.1, iEnumT C.X.K (SA C.X [e]), pi_enumT hg hm pa_sa hs, fun B A G H σ s hB at_ R q => SA.of (pa_cons pe_se pa_nil hs2) (SE.iv (h.2 B A G H σ s hB at_ _ (wp_mono (wp_bind.mp q) (fun u s1 q1 v A1 G1 H1 a1 st1 r1 iv => by
    obtain ⟨xs, ex, q2⟩ := wp_ofOpt q1
    have r1 := r1.frz
    cases u with
    | list us =>
      cases ex
      cases r1 with
      | @lst a vs _ hs hd => exact ⟨a, rfl, .inl ⟨vs, sqL_ex a1.sub hs, q2 _ A1 G1 H1 a1 st1 (wlk_enumL hs hd (Ivd.ls iv (sqL_ex a1.sub hs)))⟩⟩
    | tuple us =>
      cases ex
      cases r1 with
      | @tup a vs _ hs hd => exact ⟨a, rfl, .inr ⟨vs, sqT_ex a1.sub (.inl (.inl hs)), q2 _ A1 G1 H1 a1 st1 (wlk_enumT (.inl (.inl hs)) hd (Ivd.tp iv (sqT_ex a1.sub (.inl (.inl hs)))))⟩⟩
    | tupK us =>
      cases ex
      cases r1 with
      | @tupK a vs _ hs hd => exact ⟨a, rfl, .inr ⟨vs, .inr hs, q2 _ A1 G1 H1 a1 st1 (wlk_enumT (.inr hs) hd (Ivd.tp iv (.inr hs)))⟩⟩
    | _ => cases ex) fun _ _ h => h)))⟩
end
structure DicOk (K : PySem.W.Frag) (w : World) (nm : Str) (tab : List (Str × List U)) : Prop where
  dic : ∃ es n, KDict K w (clsAt K nm) es n
  get : ∀ z us, tab.lookup z = some us → ∃ a vs, PySem.W.nsIn K (clsAt K nm) z = some (some (.ref a)) ∧ KTup K a vs ∧ ∀ G, DqAll K G vs us
  no : ∀ z, tab.lookup z = none → PySem.W.nsIn K (clsAt K nm) z = some none
def uInF (nm : Str) (tab : List (Str × List U)) : U → U → Option U
  | .str z, .fn x => if x = nm then some (.bool (tab.lookup z).isSome) else none
  | _, _ => none
def uIxF (nm : Str) (tab : List (Str × List U)) : U → U → Option U
  | .fn x, .str z => if x = nm then (tab.lookup z).map U.tupK else none
  | _, _ => none
theorem bow_fn {K : PySem.W.Frag} {G H : Hp} {v : V} {x : Str} (e : Ex G H) (h : (bowB K (.fn x)).b G H v) : v = V.ref (clsAt K x) := by
  have z := bow_dq e h
  cases z
  rfl
section
variable {C : Ct} {Γ Γ1 Γ2 : List Mk} {a b : Expr} {pos : Pos} {ma mb : Mo U} {md md2 : List Nat} {ra rb : Rk} {nm : Str} {tab : List (Str × List U)}
theorem pr_inF {K : PySem.W.Frag} {w : World} (D : DicOk K w nm tab) : Pr K (L3.dU K) (r2l fun x y H Q => ∃ (z : Str) (r : Option Value), x = .str z ∧ y = .ref (clsAt K nm) ∧ PySem.W.nsIn K (clsAt K nm) z = some r ∧ Q (.bl r.isSome) H) (a2 (uInF nm tab)) := pr2 fun u v d e G H x y Q ex b b2 q => by
  unfold uInF at e
  split at e
  · split at e
    · rename_i z x' hx
      cases e
      subst hx
      obtain ⟨rfl, _⟩ := bow_str b
      obtain rfl := bow_fn ex b2
      cases ht : tab.lookup z with
      | none => exact ⟨z, none, rfl, rfl, D.no z ht, q _ G H (Grow.refl ex) (by rw [ht]; exact .bl _)⟩
      | some us =>
        obtain ⟨p, vs, h1, _⟩ := D.get z us ht
        exact ⟨z, some (.ref p), rfl, rfl, h1, q _ G H (Grow.refl ex) (by rw [ht]; exact .bl _)⟩
    · cases e
  · cases e
theorem pl_inF : ∀ x y d, uInF nm tab x y = some d → plainU d = true := fun x y d h => by
  unfold uInF at h
  split at h
  · split at h
    · cases h; rfl
    · cases h
  · cases h
theorem pr_ixF {K : PySem.W.Frag} {w : World} (D : DicOk K w nm tab) : Pr K (L3.dU K) (r2l (rIxD K w)) (a2 (uIxF nm tab)) := pr2 fun u v d e G H x y Q ex b b2 q => by
  unfold uIxF at e
  split at e
  · split at e
    · rename_i x' z hx
      subst hx
      obtain ⟨us, ht, rfl⟩ := Option.map_eq_some_iff.mp e
      obtain rfl := bow_fn ex b
      obtain ⟨rfl, _⟩ := bow_str b2
      obtain ⟨p, vs, h1, h2, h3⟩ := D.get z us ht
      obtain ⟨es, n, D0⟩ := D.dic
      exact ⟨_, z, .ref p, rfl, rfl, ⟨es, n, .ref p, D0.at_, D0.lit, h1, rfl⟩, q _ G H (Grow.refl ex) (.tupK h2 (h3 G))⟩
    · cases e
  · cases e
theorem inF_ (D : DicOk C.X.K C.X.w nm tab) (ha : EJ C Γ a ma md ra Γ1) (hb : EJ C Γ1 b mb md2 rb Γ2) (ho : ra.off md2 = true := by rfl) (hm : behindInMarks .In b = false := by first | exact nobehind _ (by decide) (by decide) | exact nomark _ | rfl) : EJ C Γ (.Compare a [.In] [b] pos) (op2M (uInF nm tab) ma mb) (md ++ md2) (.val .f) Γ2 := by
  obtain ⟨es, n, D0⟩ := D.dic
  exact cmp_ (op_in_kd D0) (pr_inF D) pl_inF ha hb ho hm
end
end V4
namespace V4
open PySem PySem.Spec PyProof.Rows L2 L3 RZ
theorem strsB_ok : ∀ {us : List Value} {ys : List Str}, strsB us ys = true → ∃ vs : List V, Vals vs us ∧ ∀ (K : PySem.W.Frag) (G : Hp), DqAll K G vs (ys.map U.str)
  | [], [], _ => ⟨[], .nil, fun _ _ => .nil⟩
  | [], _ :: _, h => by cases h
  | u :: us, [], h => by cases u <;> cases h
  | u :: us, y :: ys, h => by
    cases u with
    | str x t =>
      obtain ⟨h1, h2⟩ := He.ba (show (decide (x = y) && (PyData.strOk y && strsB us ys)) = true from h)
      obtain ⟨h3, h4⟩ := He.ba h2
      obtain ⟨vs, r, q⟩ := strsB_ok h4
      have e := of_decide_eq_true h1
      subst e
      exact ⟨.str x :: vs, .cons ⟨t, rfl⟩ r, fun K G => .cons (.str x h3) (q K G)⟩
    | _ => cases h
theorem tupB_ok {K : PySem.W.Frag} {b : Addr} {ys : List Str} (h : tupB K b ys = true) : ∃ vs : List V, KTup K b vs ∧ ∀ G, DqAll K G vs (ys.map U.str) := by
  unfold tupB at h
  split at h
  · rename_i c dd its n sl e
    obtain ⟨h1, h2⟩ := He.ba h
    obtain ⟨h3, h4⟩ := He.ba h2
    obtain ⟨vs, r, q⟩ := strsB_ok h4
    have ec := of_decide_eq_true h1
    subst ec
    have hz := of_decide_eq_true h3
    exact ⟨vs, ⟨_, its, n, e, rfl, rfl, by rw [sizeLine_eq]; omega, r⟩, fun G => q K G⟩
  · cases h
theorem lookup_mem {α : Type} : ∀ {l : List (Str × α)} {z : Str} {u : α}, l.lookup z = some u → (z, u) ∈ l
  | [], z, u, h => by cases h
  | (k, v) :: l, z, u, h => by
    rw [List.lookup_cons] at h
    split at h
    · rename_i e
      have e := eq_of_beq e
      cases h
      rw [e]; exact List.mem_cons_self
    · exact List.mem_cons_of_mem _ (lookup_mem h)
theorem lookup_not {α : Type} : ∀ {l : List (Str × α)} {z : Str}, l.lookup z = none → z ∉ l.map (·.1)
  | [], z, _ => by simp
  | (k, v) :: l, z, h => by
    rw [List.lookup_cons] at h
    split at h
    · cases h
    · rename_i e
      rw [List.map_cons, List.mem_cons, not_or]
      exact ⟨fun c => by rw [c] at e; simp at e, lookup_not h⟩
theorem lookup_map {α β : Type} {f : α → β} : ∀ {l : List (Str × α)} {z : Str}, (l.map fun p => (p.1, f p.2)).lookup z = (l.lookup z).map f
  | [], z => rfl
  | (k, v) :: l, z => by
    rw [List.map_cons, List.lookup_cons, List.lookup_cons]
    cases z == k with
    | true => rfl
    | false => exact lookup_map
theorem keys_no {P : Params} : ∀ {l : List DictEntry} {ks : List Str} {z : Str}, l.map He.keyOf = He.keysIn P ks → z ∉ ks → l.find? (·.key.isStr z) = none ∧ l.any (·.refKey) = false
  | [], _, _, _, _ => ⟨rfl, rfl⟩
  | e :: l, [], z, h, _ => by cases h
  | e :: l, k :: ks, z, h, hz => by
    have h1 : He.keyOf e :: l.map He.keyOf = some (k, PyData.keyHash P k) :: He.keysIn P ks := h
    injection h1 with h2 h3
    rw [List.mem_cons, not_or] at hz
    obtain ⟨r1, r2⟩ := keys_no h3 hz.2
    have hk : ∃ t, e.key = .str k t := by
      unfold He.keyOf at h2
      split at h2
      · rename_i x t q
        have h4 := Option.some.inj h2
        exact ⟨t, by rw [q, (Prod.mk.inj h4).1]⟩
      · cases h2
    obtain ⟨t, hk⟩ := hk
    have n1 : e.key.isStr z = false := by
      rw [hk]
      cases hb : (Value.str k t).isStr z with
      | false => rfl
      | true =>
        exfalso
        simp [Value.isStr] at hb
        first
          | exact hz.1 hb
          | exact hz.1 hb.symm
          | exact hz.1 (Str.ext hb)
          | exact hz.1 (Str.ext hb.symm)
    have n2 : e.refKey = false := by simp [DictEntry.refKey, hk]
    rw [List.find?_cons, n1, List.any_cons, n2]
    exact ⟨r1, r2⟩
theorem dicOk_of {K : PySem.W.Frag} {w : World} {nm : Str} {tab : List (Str × List Str)} (hk : He.dicW K (clsAt K nm) = some (He.keysIn w.params (tab.map (·.1)))) (ht : tabB K (clsAt K nm) tab = true) :
    DicOk K w nm (tab.map fun p => (p.1, p.2.map U.str)) where
  dic := He.dicW_ok hk
  get z us h := by
    rw [lookup_map] at h
    obtain ⟨ys, hy, rfl⟩ := Option.map_eq_some_iff.mp h
    have h2 := List.all_eq_true.mp ht _ (lookup_mem hy)
    split at h2
    · rename_i b e
      obtain ⟨vs, k, q⟩ := tupB_ok h2
      exact ⟨b, vs, e, k, q⟩
    · cases h2
  no z h := by
    rw [lookup_map] at h
    have h2 : tab.lookup z = none := by
      cases e : tab.lookup z with
      | none => rfl
      | some v => rw [e] at h; cases h
    have h3 := lookup_not h2
    obtain ⟨es, n, D⟩ := He.dicW_ok hk
    have hd := D.at_
    have hm : es.toList.map He.keyOf = He.keysIn w.params (tab.map (·.1)) := by
      unfold He.dicW at hk
      rw [hd] at hk
      simp only at hk
      split at hk
      · exact Option.some.inj hk
      · cases hk
    obtain ⟨r1, r2⟩ := keys_no hm h3
    unfold PySem.W.nsIn
    rw [hd]
    simp only [r1, r2]
    rfl
end V4
namespace V4
open PySem PySem.Spec PyProof.Rows L2 L3 RZ
theorem walkE2 {l : PySem.W.OpenLaw} {k : Nat} {q : Program} {loose : List Str} {XP : (Str → Option Value) → Heap → Prop} {YP : World → Heap → Prop} {d : DefRec} {Gd : World → PySem.W.Frag → Prop} {x : Str} (hn : l.most = some 63) (hdf : d.params.defaults = []) (hr0 : L2.Room k callerA)
    (hY : ∀ (w : World) (h : Heap), YP w h → ∃ K : PySem.W.Frag, K.In h ∧ Gd w K)
    (F : ∀ (w : World) (mg : Str → Option Value) (fa : Addr) (h : Heap) (K : PySem.W.Frag), K.In h → Gd w K → h.Ns mainGlobals mg → mg d.name = some (.ref fa) →
      ∃ fd : FuncData, (∀ (s : Shared) (u : Value), BindsTo s fd ⟨[u], []⟩ [(x, u)]) ∧ ∀ base : Heap, K.In base → base.Ns mainGlobals mg → FnG l.prog w K mg base (L2.CX l.prog w) k fa fd [x] (spTrue K)) :
    PySem.W.WalkO q loose XP YP l.row.toRowW d [] (fun f vs => PySem.call f vs) := by
  apply Att.attach_callB hn hdf
  intro w s₀ s₁ mg mb fa o pm cd doc a vs ns G Y ho hd hcd hmg hobj hints hlen hbits hg
  obtain ⟨K, KX, gk⟩ := hY w _ Y
  obtain ⟨fd, hb, hF⟩ := F w mg fa _ K KX gk G.T.g hmg
  exact law_callG KX G.T.g G.T.b G.T.builtins G.T.nolimit hg hobj hints (Nat.le_trans hlen (by decide)) ⟨hr0, rfl⟩ hF hb (fun H hO hS => (⟨a, ns, rfl, hS, hlen, hbits, fun _ => rfl⟩ : spTrue K [.ref a] H (fun v _ => v = .bl true) fun _ _ _ => False)) fun H e s' z => L3.callee_X z
end V4
namespace V4.C_k90
open PySem PySem.Spec PyProof.Rows L2 L3 RZ
def top (i : Nat) : Stmt := PySem.Challenge.pw_cutmeet_k90_shown_by_names.main.body.getD i (.Pass ⟨0, 0, 0, 0⟩)
def FM0 : FMap := fun c f => if c = "Desk" ∧ f = "webs" then (.d .f) else .f
def tab_FORMS : List (Str × List U) := [("text", [.str "name"]), ("reach", [.str "name", .str "place"]), ("way", [.str "name", .str "place", .str "place"]), ("cuts", [.str "name"]), ("least", [.str "name", .str "place", .str "place"]), ("bare", [.str "name", .str "cut"]), ("miss", [.str "name", .str "numbers"]), ("fewest", [.str "name"]), ("lightest", [.str "name", .str "numbers"]), ("times", [.str "name", .str "number"]), ("idle", [.str "name"]), ("bridges", [.str "name"]), ("turns", [.str "name"]), ("draw", [.str "new", .str "name", .str "numbers"]), ("turn", [.str "new", .str "name", .str "numbers"]), ("more", [.str "new", .str "name", .str "place", .str "place"]), ("less", [.str "new", .str "name", .str "number"]), ("join", [.str "new", .str "name", .str "name"])]
structure Tx (K : PySem.W.Frag) (mg : Str → Option Value) (wd : World) : Prop where
  n_all : mg "all" = none
  n_divmod : mg "divmod" = none
  n_enumerate : mg "enumerate" = none
  n_isinstance : mg "isinstance" = none
  n_len : mg "len" = none
  n_list : mg "list" = none
  n_max : mg "max" = none
  n_min : mg "min" = none
  n_range : mg "range" = none
  n_set : mg "set" = none
  n_sorted : mg "sorted" = none
  n_str : mg "str" = none
  n_tuple : mg "tuple" = none
  c_BREAK : ∃ u, mg "BREAK" = some u ∧ RelV (.str "\n") u
  c_CUT : ∃ u, mg "CUT" = some u ∧ RelV (.str "cut") u
  c_HEAD : ∃ u, mg "HEAD" = some u ∧ RelV (.str "places") u
  c_LEADS : ∃ u, mg "LEADS" = some u ∧ RelV (.str " > ") u
  c_LETTERS : ∃ u, mg "LETTERS" = some u ∧ RelV (.str "abcdefghijklmnopqrstuvwxyz") u
  c_LONGEST : ∃ u, mg "LONGEST" = some u ∧ RelV (.int 8) u
  c_MOST_PLACES : ∃ u, mg "MOST_PLACES" = some u ∧ RelV (.int 12) u
  c_MOST_TIES : ∃ u, mg "MOST_TIES" = some u ∧ RelV (.int 30) u
  c_NEW : ∃ u, mg "NEW" = some u ∧ RelV (.str "new") u
  c_NOTHING : ∃ u, mg "NOTHING" = some u ∧ RelV (.str "-") u
  c_NUMBER : ∃ u, mg "NUMBER" = some u ∧ RelV (.str "number") u
  c_NUMBERS : ∃ u, mg "NUMBERS" = some u ∧ RelV (.str "numbers") u
  rp_BETWEEN_BREAK : ∃ t u, mg "BETWEEN" = some (.str "; " t) ∧ mg "BREAK" = some (.str "\n" u) ∧ t ≠ 0 ∧ u ≠ 0 ∧ t ≠ u
  rp_BREAK_BETWEEN : ∃ t u, mg "BREAK" = some (.str "\n" t) ∧ mg "BETWEEN" = some (.str "; " u) ∧ t ≠ 0 ∧ u ≠ 0 ∧ t ≠ u
  d_FORMS : DicOk K wd "FORMS" tab_FORMS
  fv_FORMS : mg "FORMS" = some (.ref (clsAt K "FORMS"))
  cl_Desk : Cls K (clsAt K "Desk")
  cl_Web : Cls K (clsAt K "Web")
  no_Desk_webs : NoAttr K (clsAt K "Desk") "webs"
  no_Web_names : NoAttr K (clsAt K "Web") "names"
  no_Web_pairs : NoAttr K (clsAt K "Web") "pairs"
  mg_Desk : mg "Desk" = some (.ref (clsAt K "Desk"))
  mg_Web : mg "Web" = some (.ref (clsAt K "Web"))
  g_NoWeb : mg "NoWeb" = some (.ref (clsAt K "NoWeb"))
  xm_NoWeb_NoWeb : PySem.W.exmOne K (.ref (clsAt K "NoWeb")) (.ref (clsAt K "NoWeb")) = some true
  e_NoName : ExOwn K mg "NoName"
  e_NoRow : ExOwn K mg "NoRow"
  e_NoText : ExOwn K mg "NoText"
  e_NoWeb : ExOwn K mg "NoWeb"
noncomputable section
abbrev st__law_pot_at : Stmt := top 153
def sg__law_pot_at : Sig := ⟨[(.f, false), (.f, false)], (.l .f)⟩
def mir__law_pot_at : Mo (Option U) :=
  (seqM (asgM 2 (.pure (U.int 0)))
  (seqM (ifM (asBM (op2M uLt (vM 1) (op1M uLen (vM 0))))
    (asgM 2 (op2M uIdx (vM 0) (vM 1)))
    (.pure none))
  (seqM (asgM 3 (op2M uMod (op2M uAdd (op2M uMul (vM 2) (.pure (U.int 48271))) (op2M uMul (.pure (U.int 39373)) (op2M uAdd (vM 1) (.pure (U.int 1))))) (.pure (U.int 2147483647))))
  (seqM (ifM (asBM (op2M uLt (vM 2) (op2M uPow (.pure (U.int 10)) (.pure (U.int 18)))))
    (retM (lstM (consM (.pure (U.int 0)) (consM (vM 3) nilM))))
    (.pure none))
  (seqM (ifM (asBM (op2M uEq (op2M uMod (vM 2) (.pure (U.int 2))) (.pure (U.int 1))))
    (asgM 3 (op1M uNeg (.pure (U.int 1))))
    (.pure none))
  (retM (lstM (consM (op2M uFdiv (op2M uSub (vM 2) (op2M uPow (.pure (U.int 10)) (.pure (U.int 18)))) (.pure (U.int 2))) (consM (vM 3) nilM)))))))))
def fn__law_pot_at : Fn := runF sg__law_pot_at 2 mir__law_pot_at
theorem Sc__law_pot_at : FnScope [("_law_script" : Str), ("_law_k" : Str), ("_law_cell" : Str), ("_law_mixed" : Str)] ["_law_script", "_law_k"] (defScope st__law_pot_at) := ⟨rfl, rfl, rfl, by decide +kernel, rfl, by decide +kernel, by decide +kernel⟩
theorem ok__law_pot_at {K : PySem.W.Frag} {mg : Str → Option Value} {wd : World} (T : Tx K mg wd) {P : Program} {base : Heap} {f : Addr} {fd : FuncData} (F : Fun K "_law_pot_at" "_law_pot_at" st__law_pot_at f fd)
     :
    FnG P wd K mg base (L2.CX P wd) 1 f fd ["_law_script", "_law_k"] (SpOf K FM0 sg__law_pot_at fn__law_pot_at) :=
  fn_ok F Sc__law_pot_at rfl (.inr fun us s' => (show NoNx mir__law_pot_at from (nn_seq (nn_seq (nn_seq (nn_seq (nn_seq nn_ret)))))) us s') fun cdv A outer s H E hr => by
  have hu := hr65 hr
  have hu1 := hr1 hr
  have hg0 := hr.gd
  exact (scons_ (sasg_ 2 int_ Sc__law_pot_at.nd)
  (scons_ (sif_ (tcmp_ op_ltU pr_lt pl_lt (v_ 1) (c1A_ (bcB call_len T.n_len bt_len) pr_len pl_len (v_ 0)))
    (swk_ (sone_ (sasg_ 2 (ixs_ ix_seq pr_idx (v_ 0) (v_ 1)) Sc__law_pot_at.nd)) [2] [.f, .f, .f, .n])
    (swk_ snil_ [] [.f, .f, .f, .n]))
  (scons_ (sasg_ 3 (bin_ op_mod pr_mod (bin_ op_addU pr_add (bin_ op_mul pr_mul (v_ 2) int_) (bin_ op_mul pr_mul int_ (bin_ op_addU pr_add (v_ 1) int_))) int_) Sc__law_pot_at.nd)
  (scons_ (sif_ (tcmp_ op_ltU pr_lt pl_lt (v_ 2) (bin_ op_pow pr_pow int_ int_))
    (sdead_ nn_ret (sone_ (sret_ (lst_ .f (acons_ int_ (acons_ (v_ 3) anil_))))) [] [.f, .f, .f, .f])
    (swk_ snil_ [] [.f, .f, .f, .f]))
  (scons_ (sif_ (tcmp_ (op_eqD hr.units) pr_eq pl_eq (bin_ op_mod pr_mod (v_ 2) int_) int_)
    (swk_ (sone_ (sasg_ 3 (un_ un_neg pr_neg int_) Sc__law_pot_at.nd)) [3] [.f, .f, .f, .f])
    (swk_ snil_ [] [.f, .f, .f, .f]))
  (sone_ (sret_ (lst_ .f (acons_ (bin_ op_fdivW pr_fdiv (bin_ op_sub pr_sub (v_ 2) (bin_ op_pow pr_pow int_ int_)) int_) (acons_ (v_ 3) anil_))))))))))
abbrev st__law_draw : Stmt := top 154
def sg__law_draw : Sig := ⟨[((.l .f), true), (.f, false)], .f⟩
def mir__law_draw : Mo (Option U) :=
  (seqM (ifM (asBM (op2M uGt (op2M uIdx (vM 0) (.pure (U.int 0))) (.pure (U.int 0))))
    (seqM (tgM (op2M uDivmod (op2M uIdx (vM 0) (.pure (U.int 0))) (vM 1)) (ttM (tgcM (subM 0 (.pure []) (.pure (U.int 0))) (tgcM (setM 2) tgnM))))
    (retM (vM 2)))
    (.pure none))
  (seqM (ifM (asBM (op2M uLt (op2M uIdx (vM 0) (.pure (U.int 1))) (.pure (U.int 0))))
    (retM (.pure (U.int 0)))
    (.pure none))
  (seqM (tgM (op2M uMod (op2M uAdd (op2M uMul (op2M uIdx (vM 0) (.pure (U.int 1))) (.pure (U.int 48271))) (.pure (U.int 11213))) (.pure (U.int 2147483647))) (subM 0 (.pure []) (.pure (U.int 1))))
  (retM (op2M uMod (op2M uFdiv (op2M uIdx (vM 0) (.pure (U.int 1))) (.pure (U.int 32))) (vM 1))))))
def fn__law_draw : Fn := runF sg__law_draw 1 mir__law_draw
theorem Sc__law_draw : FnScope [("_law_pot" : Str), ("_law_many" : Str), ("_law_digit" : Str)] ["_law_pot", "_law_many"] (defScope st__law_draw) := ⟨rfl, rfl, rfl, by decide +kernel, rfl, by decide +kernel, by decide +kernel⟩
theorem ok__law_draw {K : PySem.W.Frag} {mg : Str → Option Value} {wd : World} (T : Tx K mg wd) {P : Program} {base : Heap} {f : Addr} {fd : FuncData} (F : Fun K "_law_draw" "_law_draw" st__law_draw f fd)
     :
    FnG P wd K mg base (L2.CX P wd) 1 f fd ["_law_pot", "_law_many"] (SpOf K FM0 sg__law_draw fn__law_draw) :=
  fn_ok F Sc__law_draw rfl (.inr fun us s' => (show NoNx mir__law_draw from (nn_seq (nn_seq (nn_seq nn_ret)))) us s') fun cdv A outer s H E hr => by
  have hu := hr65 hr
  have hu1 := hr1 hr
  have hg0 := hr.gd
  exact (scons_ (sif_ (tcmp_ op_gtU pr_gt pl_gt (ixs_ ix_seq pr_idx (w_ 0 (.l .f)) int_) int_)
    (sdead_ (nn_seq nn_ret) (scons_ (sasgT_ (c2_ (bcB call_divmodW T.n_divmod bt_divmod) pr_divmod (ixs_ ix_seq pr_idx (w_ 0 (.l .f)) int_) (v_ 1)) (ttup_ rfl (tgc_ (tsub_ (pv_ 0 (.l .f)) int_) (tgc_ (tname_ 2 .f Sc__law_draw.nd) tgn_))))
    (sone_ (sret_ (v_ 2)))) [0, 2] [(.l .f), .f, .n])
    (swk_ snil_ [] [(.l .f), .f, .n]))
  (scons_ (sif_ (tcmp_ op_ltU pr_lt pl_lt (ixs_ ix_seq pr_idx (w_ 0 (.l .f)) int_) int_)
    (sdead_ nn_ret (sone_ (sret_ int_)) [] [(.l .f), .f, .n])
    (swk_ snil_ [] [(.l .f), .f, .n]))
  (scons_ (sasgT_ (bin_ op_mod pr_mod (bin_ op_addU pr_add (bin_ op_mul pr_mul (ixs_ ix_seq pr_idx (w_ 0 (.l .f)) int_) int_) int_) int_) (tsub_ (pv_ 0 (.l .f)) int_))
  (sone_ (sret_ (bin_ op_mod pr_mod (bin_ op_fdivW pr_fdiv (ixs_ ix_seq pr_idx (w_ 0 (.l .f)) int_) int_) (v_ 1)))))))
abbrev st__law_name : Stmt := top 155
def sg__law_name : Sig := ⟨[((.l .f), true), ((.l .f), true)], .f⟩
def mir__law_name : Mo (Option U) :=
  (seqM (asgM 2 (.pure (U.str "abcdefghijklmnopqrstuvwxyz")))
  (seqM (asgM 3 (sm1M uJoin (.pure (U.str "")) (lcM [4] (rngM (.pure (.int 0)) (op2M uAdd (.pure (U.int 1)) (callM fn__law_draw [(0, 0, 0)] (consM (vM 0) (consM (.pure (U.int 8)) nilM))))) (setM 4) (.pure true) (op2M uIdx (vM 2) (callM fn__law_draw [(0, 0, 0)] (consM (vM 0) (consM (.pure (U.int 26)) nilM)))))))
  (seqM (ifM (asBM (op2M uIn (vM 3) (vM 1)))
    (asgM 3 (op2M uIdx (lcM [5] (itM (vM 2)) (setM 5) (asBM (op2M uNotIn (vM 5) (vM 1))) (vM 5)) (.pure (U.int 0))))
    (.pure none))
  (retM (vM 3)))))
def fn__law_name : Fn := runF sg__law_name 4 mir__law_name
theorem Sc__law_name : FnScope [("_law_pot" : Str), ("_law_taken" : Str), ("_law_letters" : Str), ("_law_name_here" : Str), ("_law_k" : Str), ("_law_letter" : Str)] ["_law_pot", "_law_taken"] (defScope st__law_name) := ⟨rfl, rfl, rfl, by decide +kernel, rfl, by decide +kernel, by decide +kernel⟩
theorem ok__law_name {K : PySem.W.Frag} {mg : Str → Option Value} {wd : World} (T : Tx K mg wd) {P : Program} {base : Heap} {f : Addr} {fd : FuncData} (F : Fun K "_law_name" "_law_name" st__law_name f fd)
    {a__law_draw : Addr} {fd__law_draw : FuncData} (G__law_draw : FnG P wd K mg base (L2.CX P wd) 1 a__law_draw fd__law_draw ["_law_pot", "_law_many"] (SpOf K FM0 sg__law_draw fn__law_draw)) (m__law_draw : mg "_law_draw" = some (Value.ref a__law_draw)) (k__law_draw : PySem.W.keepIn K (Value.ref a__law_draw) = true) (B__law_draw : Binds K fd__law_draw ["_law_pot", "_law_many"] []) :
    FnG P wd K mg base (L2.CX P wd) 2 f fd ["_law_pot", "_law_taken"] (SpOf K FM0 sg__law_name fn__law_name) :=
  fn_ok F Sc__law_name rfl (.inr fun us s' => (show NoNx mir__law_name from (nn_seq (nn_seq (nn_seq nn_ret)))) us s') fun cdv A outer s H E hr => by
  have hu := hr65 hr
  have hu1 := hr1 hr
  have hg0 := hr.gd
  exact (scons_ (sasg_ 2 str_ Sc__law_name.nd)
  (scons_ (sasg_ 3 (join_ str_ (lc_ (own := [("_law_k", 4)]) [4] rfl Sc__law_name.nd (krange1_ T.n_range (bin_ op_addU pr_add int_ (fn1_ tk0 G__law_draw (hr.mono (by decide)) m__law_draw k__law_draw B__law_draw (acons_ (w_ 0 (.l .f)) (acons_ int_ anil_)) [(0, 0, 0)]))) (by change BlkOk [("_law_pot" : Str), ("_law_taken" : Str), ("_law_letters" : Str), ("_law_name_here" : Str), ("_law_k" : Str), ("_law_letter" : Str)] (defScope st__law_name) _ _; exact blkOk_by (by decide +kernel)) (fun _ => (tname_ 4 .f Sc__law_name.nd)) ts0_ (fun _ => (ixs_ ix_seq pr_idx (v_ 2) (fn1_ takes_no G__law_draw (hr.mono (by decide)) m__law_draw k__law_draw B__law_draw (acons_ (w_ 0 (.l .f)) (acons_ int_ anil_)) [(0, 0, 0)]))))) Sc__law_name.nd)
  (scons_ (sif_ (tcmp_ (op_inU hu) pr_in pl_in (v_ 3) (w_ 1 (.l .f)))
    (swk_ (sone_ (sasg_ 3 (ixs_ ix_seq pr_idx (lc_ (own := [("_law_letter", 5)]) [5] rfl Sc__law_name.nd (kw_ (v_ 2)) (by change BlkOk [("_law_pot" : Str), ("_law_taken" : Str), ("_law_letters" : Str), ("_law_name_here" : Str), ("_law_k" : Str), ("_law_letter" : Str)] (defScope st__law_name) _ _; exact blkOk_by (by decide +kernel)) (fun _ => (tname_ 5 .f Sc__law_name.nd)) (ts1_ fun _ => (tcmp_ (op_notInU hu) pr_notIn pl_notIn (v_ 5) (w_ 1 (.l .f)))) (fun _ => (v_ 5))) int_) Sc__law_name.nd)) [3, 5] [(.l .f), (.l .f), .f, .f, .n, .n])
    (swk_ snil_ [] [(.l .f), (.l .f), .f, .f, .n, .n]))
  (sone_ (sret_ (v_ 3))))))
abbrev st__law_drawn : Stmt := top 156
def sg__law_drawn : Sig := ⟨[((.l .f), true)], .f⟩
def mir__law_drawn : Mo (Option U) :=
  (seqM (asgM 1 (lstM nilM))
  (seqM (forM' (rngM (.pure (.int 0)) (op2M uAdd (.pure (U.int 1)) (callM fn__law_draw [(0, 0, 0)] (consM (vM 0) (consM (.pure (U.int 12)) nilM))))) (setM 2)
    (exM (mutvM 1 (consM (callM fn__law_name [(0, 0, 0), (1, 1, 1)] (consM (vM 0) (consM (vM 1) nilM))) nilM) uAppend)))
  (seqM (asgM 3 (lstM nilM))
  (seqM (forM' (rngM (.pure (.int 0)) (callM fn__law_draw [(0, 0, 0)] (consM (vM 0) (consM (.pure (U.int 31)) nilM)))) (setM 2)
    (exM (mutM 3 (.pure []) (consM (tupM (consM (op2M uIdx (vM 1) (callM fn__law_draw [(0, 0, 0)] (consM (vM 0) (consM (op1M uLen (vM 1)) nilM)))) (consM (op2M uIdx (vM 1) (callM fn__law_draw [(0, 0, 0)] (consM (vM 0) (consM (op1M uLen (vM 1)) nilM)))) nilM))) nilM) uAppend)))
  (retM (tupM (consM (op1M uSorted (vM 1)) (consM (vM 3) nilM))))))))
def fn__law_drawn : Fn := runF sg__law_drawn 3 mir__law_drawn
theorem Sc__law_drawn : FnScope [("_law_pot" : Str), ("_law_names" : Str), ("_law_k" : Str), ("_law_pairs" : Str)] ["_law_pot"] (defScope st__law_drawn) := ⟨rfl, rfl, rfl, by decide +kernel, rfl, by decide +kernel, by decide +kernel⟩
theorem ok__law_drawn {K : PySem.W.Frag} {mg : Str → Option Value} {wd : World} (T : Tx K mg wd) {P : Program} {base : Heap} {f : Addr} {fd : FuncData} (F : Fun K "_law_drawn" "_law_drawn" st__law_drawn f fd)
    {a__law_draw : Addr} {fd__law_draw : FuncData} (G__law_draw : FnG P wd K mg base (L2.CX P wd) 1 a__law_draw fd__law_draw ["_law_pot", "_law_many"] (SpOf K FM0 sg__law_draw fn__law_draw)) (m__law_draw : mg "_law_draw" = some (Value.ref a__law_draw)) (k__law_draw : PySem.W.keepIn K (Value.ref a__law_draw) = true) (B__law_draw : Binds K fd__law_draw ["_law_pot", "_law_many"] [])
    {a__law_name : Addr} {fd__law_name : FuncData} (G__law_name : FnG P wd K mg base (L2.CX P wd) 2 a__law_name fd__law_name ["_law_pot", "_law_taken"] (SpOf K FM0 sg__law_name fn__law_name)) (m__law_name : mg "_law_name" = some (Value.ref a__law_name)) (k__law_name : PySem.W.keepIn K (Value.ref a__law_name) = true) (B__law_name : Binds K fd__law_name ["_law_pot", "_law_taken"] []) :
    FnG P wd K mg base (L2.CX P wd) 3 f fd ["_law_pot"] (SpOf K FM0 sg__law_drawn fn__law_drawn) :=
  fn_ok F Sc__law_drawn rfl (.inr fun us s' => (show NoNx mir__law_drawn from (nn_seq (nn_seq (nn_seq (nn_seq nn_ret))))) us s') fun cdv A outer s H E hr => by
  have hu := hr65 hr
  have hu1 := hr1 hr
  have hg0 := hr.gd
  exact (scons_ (sasg_ 1 (lst_ .f anil_) Sc__law_drawn.nd)
  (scons_ (sfor_ [(.l .f), (.l .f), .n, .n] cx_po rfl (krange1_ T.n_range (bin_ op_addU pr_add int_ (fn1_ tk0 G__law_draw (hr.mono (by decide)) m__law_draw k__law_draw B__law_draw (acons_ (w_ 0 (.l .f)) (acons_ int_ anil_)) [(0, 0, 0)]))) (tname_ 2 .f Sc__law_drawn.nd)
    (swk_ (sone_ (sexpr_ (mutv_ 1 (.l .f) r_append mu_append tk_append (acons_ (fn1_ tk0 G__law_name (hr.mono (by decide)) m__law_name k__law_name B__law_name (acons_ (w_ 0 (.l .f)) (acons_ (w_ 1 (.l .f)) anil_)) [(0, 0, 0), (1, 1, 1)]) anil_)))) [0, 1, 2] [(.l .f), (.l .f), .n, .n]))
  (sfrz_ 1 (scons_ (sasg_ 3 (lst_ .f anil_) Sc__law_drawn.nd)
  (scons_ (sfor_ [(.l .f), .f, .n, (.l .f)] cx_po rfl (krange1_ T.n_range (fn1_ tk0 G__law_draw (hr.mono (by decide)) m__law_draw k__law_draw B__law_draw (acons_ (w_ 0 (.l .f)) (acons_ int_ anil_)) [(0, 0, 0)])) (tname_ 2 .f Sc__law_drawn.nd)
    (swk_ (sone_ (sexpr_ (mut_ r_append mu_append tk_append (pv_ 3 (.l .f)) (acons_ (tup_ (acons_ (ixs_ ix_seq pr_idx (v_ 1) (fn1_ tk0 G__law_draw (hr.mono (by decide)) m__law_draw k__law_draw B__law_draw (acons_ (w_ 0 (.l .f)) (acons_ (c1A_ (bcB call_len T.n_len bt_len) pr_len pl_len (v_ 1)) anil_)) [(0, 0, 0)])) (acons_ (ixs_ ix_seq pr_idx (v_ 1) (fn1_ tk0 G__law_draw (hr.mono (by decide)) m__law_draw k__law_draw B__law_draw (acons_ (w_ 0 (.l .f)) (acons_ (c1A_ (bcB call_len T.n_len bt_len) pr_len pl_len (v_ 1)) anil_)) [(0, 0, 0)])) anil_))) anil_)))) [0, 2, 3] [(.l .f), .f, .n, (.l .f)]))
  (sfrz_ 3 (sone_ (sret_ (tup_ (acons_ (fz_ (c1O_ (bcB (call_sortU hu) T.n_sorted bt_sorted) pr_sorted tk_sorted (v_ 1))) (acons_ (v_ 3) anil_)))))))))))
abbrev st__law_written : Stmt := top 157
def sg__law_written : Sig := ⟨[(.f, false), (.f, false)], .f⟩
def mir__law_written : Mo (Option U) :=
  (seqM (asgM 2 (sm1M uJoin (.pure (U.str " ")) (op2M uAdd (lstM (consM (.pure (U.str "places")) nilM)) (vM 0))))
  (seqM (forM' (itM (vM 1)) (ttM (tgcM (setM 3) (tgcM (setM 4) tgnM)))
    (asgM 2 (op2M uAdd (op2M uAdd (op2M uAdd (op2M uAdd (vM 2) (.pure (U.str "; "))) (vM 3)) (.pure (U.str " > "))) (vM 4))))
  (retM (vM 2))))
def fn__law_written : Fn := runF sg__law_written 3 mir__law_written
theorem Sc__law_written : FnScope [("_law_names" : Str), ("_law_pairs" : Str), ("_law_found" : Str), ("_law_begin" : Str), ("_law_end" : Str)] ["_law_names", "_law_pairs"] (defScope st__law_written) := ⟨rfl, rfl, rfl, by decide +kernel, rfl, by decide +kernel, by decide +kernel⟩
theorem ok__law_written {K : PySem.W.Frag} {mg : Str → Option Value} {wd : World} (T : Tx K mg wd) {P : Program} {base : Heap} {f : Addr} {fd : FuncData} (F : Fun K "_law_written" "_law_written" st__law_written f fd)
     :
    FnG P wd K mg base (L2.CX P wd) 1 f fd ["_law_names", "_law_pairs"] (SpOf K FM0 sg__law_written fn__law_written) :=
  fn_ok F Sc__law_written rfl (.inr fun us s' => (show NoNx mir__law_written from (nn_seq (nn_seq nn_ret))) us s') fun cdv A outer s H E hr => by
  have hu := hr65 hr
  have hu1 := hr1 hr
  have hg0 := hr.gd
  exact (scons_ (sasg_ 2 (join_ str_ (bin_ op_addU pr_add (lst_ .f (acons_ str_ anil_)) (v_ 0))) Sc__law_written.nd)
  (scons_ (sfor_ [.f, .f, .f, .n, .n] cx_po rfl (kw_ (v_ 1)) (ttup_ rfl (tgc_ (tname_ 3 .f Sc__law_written.nd) (tgc_ (tname_ 4 .f Sc__law_written.nd) tgn_)))
    (swk_ (sone_ (sasg_ 2 (bin_ op_addU pr_add (bin_ op_addU pr_add (bin_ op_addU pr_add (bin_ op_addU pr_add (v_ 2) str_) (v_ 3)) str_) (v_ 4)) Sc__law_written.nd)) [2, 3, 4] [.f, .f, .f, .n, .n]))
  (sone_ (sret_ (v_ 2)))))
abbrev st_is_name : Stmt := top 18
def sg_is_name : Sig := ⟨[(.f, false)], .f⟩
def mir_is_name : Mo (Option U) :=
  (seqM (ifM (orM (notM (asBM (op1M (uIsi "str") (vM 0)))) (orM (asBM (op2M uLt (op1M uLen (vM 0)) (.pure (U.int 1)))) (asBM (op2M uGt (op1M uLen (vM 0)) (.pure (U.int 8))))))
    (retM (.pure (U.bool false)))
    (.pure none))
  (retM (op1M uAll (lcM [1] (itM (vM 0)) (setM 1) (.pure true) (op2M uIn (vM 1) (.pure (U.str "abcdefghijklmnopqrstuvwxyz")))))))
def fn_is_name : Fn := runF sg_is_name 1 mir_is_name
theorem Sc_is_name : FnScope [("thing" : Str), ("sign" : Str)] ["thing"] (defScope st_is_name) := ⟨rfl, rfl, rfl, by decide +kernel, rfl, by decide +kernel, by decide +kernel⟩
theorem ok_is_name {K : PySem.W.Frag} {mg : Str → Option Value} {wd : World} (T : Tx K mg wd) {P : Program} {base : Heap} {f : Addr} {fd : FuncData} (F : Fun K "is_name" "is_name" st_is_name f fd)
     :
    FnG P wd K mg base (L2.CX P wd) 1 f fd ["thing"] (SpOf K FM0 sg_is_name fn_is_name) :=
  fn_ok F Sc_is_name rfl (.inr fun us s' => (show NoNx mir_is_name from (nn_seq nn_ret)) us s') fun cdv A outer s H E hr => by
  have hu := hr65 hr
  have hu1 := hr1 hr
  have hg0 := hr.gd
  exact (scons_ (sif_ (tw_ (wor_ (tnot_ (t_ (b_ (isi_ (v_ 0) T.n_isinstance T.n_str bt_str)))) (wor_ (tcmp_ op_ltU pr_lt pl_lt (c1A_ (bcB call_len T.n_len bt_len) pr_len pl_len (v_ 0)) int_) (wor1_ (tcmp_ op_gtU pr_gt pl_gt (c1A_ (bcB call_len T.n_len bt_len) pr_len pl_len (v_ 0)) (glob_ T.c_LONGEST fun _ => .int _))))))
    (sdead_ nn_ret (sone_ (sret_ bool_)) [] [.f, .n])
    (swk_ snil_ [] [.f, .n]))
  (sone_ (sret_ (c1A_ (bcB (cr_all rfl) T.n_all bt_all) pr_all pl_all (lc_ (own := [("sign", 1)]) [1] rfl Sc_is_name.nd (kw_ (v_ 0)) (by change BlkOk [("thing" : Str), ("sign" : Str)] (defScope st_is_name) _ _; exact blkOk_by (by decide +kernel)) (fun _ => (tname_ 1 .f Sc_is_name.nd)) ts0_ (fun _ => (cmp_ (op_inU hu) pr_in pl_in (v_ 1) (glob_ T.c_LETTERS fun _ => .str _ (by decide +kernel)))))))))
theorem okN_is_name {K : PySem.W.Frag} {mg : Str → Option Value} {wd : World} (T : Tx K mg wd) {P : Program} {base : Heap} {f : Addr} {fd : FuncData} (F : Fun K "is_name" "is_name" st_is_name f fd)
     :
    FnG P wd K mg base (L2N.CX P wd) 1 f fd ["thing"] (SpOf K FM0 sg_is_name fn_is_name) :=
  fn_okN F Sc_is_name rfl (.inr fun us s' => (show NoNx mir_is_name from (nn_seq nn_ret)) us s') fun cdv A outer s H E hr => by
  have hu := hr65 hr
  have hu1 := hr1 hr
  have hg0 := hr.gd
  exact (scons_ (sif_ (tw_ (wor_ (tnot_ (t_ (b_ (isi_ (v_ 0) T.n_isinstance T.n_str bt_str)))) (wor_ (tcmp_ op_ltU pr_lt pl_lt (c1A_ (bcB call_len T.n_len bt_len) pr_len pl_len (v_ 0)) int_) (wor1_ (tcmp_ op_gtU pr_gt pl_gt (c1A_ (bcB call_len T.n_len bt_len) pr_len pl_len (v_ 0)) (glob_ T.c_LONGEST fun _ => .int _))))))
    (sdead_ nn_ret (sone_ (sret_ bool_)) [] [.f, .n])
    (swk_ snil_ [] [.f, .n]))
  (sone_ (sret_ (c1A_ (bcB (cr_all rfl) T.n_all bt_all) pr_all pl_all (lc_ (own := [("sign", 1)]) [1] rfl Sc_is_name.nd (kw_ (v_ 0)) (by change BlkOk [("thing" : Str), ("sign" : Str)] (defScope st_is_name) _ _; exact blkOk_by (by decide +kernel)) (fun _ => (tname_ 1 .f Sc_is_name.nd)) ts0_ (fun _ => (cmp_ (op_inU hu) pr_in pl_in (v_ 1) (glob_ T.c_LETTERS fun _ => .str _ (by decide +kernel)))))))))
abbrev st_are_places : Stmt := top 23
def sg_are_places : Sig := ⟨[(.f, false)], .f⟩
def mir_are_places : Mo (Option U) :=
  (seqM (ifM (orM (notM (asBM (op1M (uIsi "list") (vM 0)))) (notM (chM uLe uLe (.pure (U.int 1)) (op1M uLen (vM 0)) (.pure (U.int 12)))))
    (retM (.pure (U.bool false)))
    (.pure none))
  (retM (ofBM (andM (asBM (op1M uAll (lcM [1] (itM (vM 0)) (setM 1) (.pure true) (callM fn_is_name [] (consM (vM 1) nilM))))) (asBM (op2M uEq (op1M uLenSet (vM 0)) (op1M uLen (vM 0))))))))
def fn_are_places : Fn := runF sg_are_places 1 mir_are_places
theorem Sc_are_places : FnScope [("thing" : Str), ("name" : Str)] ["thing"] (defScope st_are_places) := ⟨rfl, rfl, rfl, by decide +kernel, rfl, by decide +kernel, by decide +kernel⟩
theorem ok_are_places {K : PySem.W.Frag} {mg : Str → Option Value} {wd : World} (T : Tx K mg wd) {P : Program} {base : Heap} {f : Addr} {fd : FuncData} (F : Fun K "are_places" "are_places" st_are_places f fd)
    {a_is_name : Addr} {fd_is_name : FuncData} (G_is_name : FnG P wd K mg base (L2.CX P wd) 1 a_is_name fd_is_name ["thing"] (SpOf K FM0 sg_is_name fn_is_name)) (m_is_name : mg "is_name" = some (Value.ref a_is_name)) (k_is_name : PySem.W.keepIn K (Value.ref a_is_name) = true) (B_is_name : Binds K fd_is_name ["thing"] []) :
    FnG P wd K mg base (L2.CX P wd) 2 f fd ["thing"] (SpOf K FM0 sg_are_places fn_are_places) :=
  fn_ok F Sc_are_places rfl (.inr fun us s' => (show NoNx mir_are_places from (nn_seq nn_ret)) us s') fun cdv A outer s H E hr => by
  have hu := hr65 hr
  have hu1 := hr1 hr
  have hg0 := hr.gd
  exact (scons_ (sif_ (tw_ (wor_ (tnot_ (t_ (b_ (isi_ (v_ 0) T.n_isinstance T.n_list bt_list)))) (wor1_ (tnot_ (tch_ op_leU op_leU pr_le pr_le int_ (c1A_ (bcB call_len T.n_len bt_len) pr_len pl_len (v_ 0)) (glob_ T.c_MOST_PLACES fun _ => .int _))))))
    (sdead_ nn_ret (sone_ (sret_ bool_)) [] [.f, .n])
    (swk_ snil_ [] [.f, .n]))
  (sone_ (sret_ (ofb_ (band_ (b_ (c1A_ (bcB (cr_all rfl) T.n_all bt_all) pr_all pl_all (lc_ (own := [("name", 1)]) [1] rfl Sc_are_places.nd (kw_ (v_ 0)) (by change BlkOk [("thing" : Str), ("name" : Str)] (defScope st_are_places) _ _; exact blkOk_by (by decide +kernel)) (fun _ => (tname_ 1 .f Sc_are_places.nd)) ts0_ (fun _ => (fn1_ takes_no G_is_name (hr.mono (by decide)) m_is_name k_is_name B_is_name (acons_ (v_ 1) anil_) []))))) (bone_ (b_ (cmp_ (op_eqD hr.units) pr_eq pl_eq (lenset_ T.n_len T.n_set (v_ 0)) (c1A_ (bcB call_len T.n_len bt_len) pr_len pl_len (v_ 0))))))))))
theorem okN_are_places {K : PySem.W.Frag} {mg : Str → Option Value} {wd : World} (T : Tx K mg wd) {P : Program} {base : Heap} {f : Addr} {fd : FuncData} (F : Fun K "are_places" "are_places" st_are_places f fd)
    {a_is_name : Addr} {fd_is_name : FuncData} (GN_is_name : FnG P wd K mg base (L2N.CX P wd) 1 a_is_name fd_is_name ["thing"] (SpOf K FM0 sg_is_name fn_is_name)) (m_is_name : mg "is_name" = some (Value.ref a_is_name)) (k_is_name : PySem.W.keepIn K (Value.ref a_is_name) = true) (B_is_name : Binds K fd_is_name ["thing"] []) :
    FnG P wd K mg base (L2N.CX P wd) 2 f fd ["thing"] (SpOf K FM0 sg_are_places fn_are_places) :=
  fn_okN F Sc_are_places rfl (.inr fun us s' => (show NoNx mir_are_places from (nn_seq nn_ret)) us s') fun cdv A outer s H E hr => by
  have hu := hr65 hr
  have hu1 := hr1 hr
  have hg0 := hr.gd
  exact (scons_ (sif_ (tw_ (wor_ (tnot_ (t_ (b_ (isi_ (v_ 0) T.n_isinstance T.n_list bt_list)))) (wor1_ (tnot_ (tch_ op_leU op_leU pr_le pr_le int_ (c1A_ (bcB call_len T.n_len bt_len) pr_len pl_len (v_ 0)) (glob_ T.c_MOST_PLACES fun _ => .int _))))))
    (sdead_ nn_ret (sone_ (sret_ bool_)) [] [.f, .n])
    (swk_ snil_ [] [.f, .n]))
  (sone_ (sret_ (ofb_ (band_ (b_ (c1A_ (bcB (cr_all rfl) T.n_all bt_all) pr_all pl_all (lc_ (own := [("name", 1)]) [1] rfl Sc_are_places.nd (kw_ (v_ 0)) (by change BlkOk [("thing" : Str), ("name" : Str)] (defScope st_are_places) _ _; exact blkOk_by (by decide +kernel)) (fun _ => (tname_ 1 .f Sc_are_places.nd)) ts0_ (fun _ => (fn1N_ takes_noN GN_is_name (hr.mono (by decide)) m_is_name k_is_name B_is_name (acons_ (v_ 1) anil_) []))))) (bone_ (b_ (cmp_ (op_eqD hr.units) pr_eq pl_eq (lenset_ T.n_len T.n_set (v_ 0)) (c1A_ (bcB call_len T.n_len bt_len) pr_len pl_len (v_ 0))))))))))
abbrev st_is_tie : Stmt := top 24
def sg_is_tie : Sig := ⟨[(.f, false), (.f, false)], .f⟩
def mir_is_tie : Mo (Option U) :=
  (seqM (ifM (orM (notM (asBM (op1M (uIsi "tuple") (vM 0)))) (asBM (op2M uNe (op1M uLen (vM 0)) (.pure (U.int 2)))))
    (retM (.pure (U.bool false)))
    (.pure none))
  (retM (op1M uAll (lcM [2] (itM (vM 0)) (setM 2) (.pure true) (ofBM (andM (asBM (callM fn_is_name [] (consM (vM 2) nilM))) (asBM (op2M uIn (vM 2) (vM 1)))))))))
def fn_is_tie : Fn := runF sg_is_tie 1 mir_is_tie
theorem Sc_is_tie : FnScope [("thing" : Str), ("names" : Str), ("name" : Str)] ["thing", "names"] (defScope st_is_tie) := ⟨rfl, rfl, rfl, by decide +kernel, rfl, by decide +kernel, by decide +kernel⟩
theorem ok_is_tie {K : PySem.W.Frag} {mg : Str → Option Value} {wd : World} (T : Tx K mg wd) {P : Program} {base : Heap} {f : Addr} {fd : FuncData} (F : Fun K "is_tie" "is_tie" st_is_tie f fd)
    {a_is_name : Addr} {fd_is_name : FuncData} (G_is_name : FnG P wd K mg base (L2.CX P wd) 1 a_is_name fd_is_name ["thing"] (SpOf K FM0 sg_is_name fn_is_name)) (m_is_name : mg "is_name" = some (Value.ref a_is_name)) (k_is_name : PySem.W.keepIn K (Value.ref a_is_name) = true) (B_is_name : Binds K fd_is_name ["thing"] []) :
    FnG P wd K mg base (L2.CX P wd) 2 f fd ["thing", "names"] (SpOf K FM0 sg_is_tie fn_is_tie) :=
  fn_ok F Sc_is_tie rfl (.inr fun us s' => (show NoNx mir_is_tie from (nn_seq nn_ret)) us s') fun cdv A outer s H E hr => by
  have hu := hr65 hr
  have hu1 := hr1 hr
  have hg0 := hr.gd
  exact (scons_ (sif_ (tw_ (wor_ (tnot_ (t_ (b_ (isi_ (v_ 0) T.n_isinstance T.n_tuple bt_tuple)))) (wor1_ (tcmp_ (op_neD hr.units) pr_ne pl_ne (c1A_ (bcB call_len T.n_len bt_len) pr_len pl_len (v_ 0)) int_))))
    (sdead_ nn_ret (sone_ (sret_ bool_)) [] [.f, .f, .n])
    (swk_ snil_ [] [.f, .f, .n]))
  (sone_ (sret_ (c1A_ (bcB (cr_all rfl) T.n_all bt_all) pr_all pl_all (lc_ (own := [("name", 2)]) [2] rfl Sc_is_tie.nd (kw_ (v_ 0)) (by change BlkOk [("thing" : Str), ("names" : Str), ("name" : Str)] (defScope st_is_tie) _ _; exact blkOk_by (by decide +kernel)) (fun _ => (tname_ 2 .f Sc_is_tie.nd)) ts0_ (fun _ => (ofb_ (band_ (b_ (fn1_ takes_no G_is_name (hr.mono (by decide)) m_is_name k_is_name B_is_name (acons_ (v_ 2) anil_) [])) (bone_ (b_ (cmp_ (op_inU hu) pr_in pl_in (v_ 2) (v_ 1))))))))))))
theorem okN_is_tie {K : PySem.W.Frag} {mg : Str → Option Value} {wd : World} (T : Tx K mg wd) {P : Program} {base : Heap} {f : Addr} {fd : FuncData} (F : Fun K "is_tie" "is_tie" st_is_tie f fd)
    {a_is_name : Addr} {fd_is_name : FuncData} (GN_is_name : FnG P wd K mg base (L2N.CX P wd) 1 a_is_name fd_is_name ["thing"] (SpOf K FM0 sg_is_name fn_is_name)) (m_is_name : mg "is_name" = some (Value.ref a_is_name)) (k_is_name : PySem.W.keepIn K (Value.ref a_is_name) = true) (B_is_name : Binds K fd_is_name ["thing"] []) :
    FnG P wd K mg base (L2N.CX P wd) 2 f fd ["thing", "names"] (SpOf K FM0 sg_is_tie fn_is_tie) :=
  fn_okN F Sc_is_tie rfl (.inr fun us s' => (show NoNx mir_is_tie from (nn_seq nn_ret)) us s') fun cdv A outer s H E hr => by
  have hu := hr65 hr
  have hu1 := hr1 hr
  have hg0 := hr.gd
  exact (scons_ (sif_ (tw_ (wor_ (tnot_ (t_ (b_ (isi_ (v_ 0) T.n_isinstance T.n_tuple bt_tuple)))) (wor1_ (tcmp_ (op_neD hr.units) pr_ne pl_ne (c1A_ (bcB call_len T.n_len bt_len) pr_len pl_len (v_ 0)) int_))))
    (sdead_ nn_ret (sone_ (sret_ bool_)) [] [.f, .f, .n])
    (swk_ snil_ [] [.f, .f, .n]))
  (sone_ (sret_ (c1A_ (bcB (cr_all rfl) T.n_all bt_all) pr_all pl_all (lc_ (own := [("name", 2)]) [2] rfl Sc_is_tie.nd (kw_ (v_ 0)) (by change BlkOk [("thing" : Str), ("names" : Str), ("name" : Str)] (defScope st_is_tie) _ _; exact blkOk_by (by decide +kernel)) (fun _ => (tname_ 2 .f Sc_is_tie.nd)) ts0_ (fun _ => (ofb_ (band_ (b_ (fn1N_ takes_noN GN_is_name (hr.mono (by decide)) m_is_name k_is_name B_is_name (acons_ (v_ 2) anil_) [])) (bone_ (b_ (cmp_ (op_inU hu) pr_in pl_in (v_ 2) (v_ 1))))))))))))
abbrev st_Web_init : Stmt := inClass (top 25) 0
def sg_Web_init : Sig := ⟨[((.i "Web"), true), (.f, false), (.f, false)], .f⟩
def mir_Web_init : Mo (Option U) :=
  (seqM (ifM (notM (asBM (callM fn_are_places [] (consM (vM 1) nilM))))
    (raiseM "NoWeb")
    (.pure none))
  (seqM (ifM (orM (notM (asBM (op1M (uIsi "list") (vM 2)))) (orM (asBM (op2M uGt (op1M uLen (vM 2)) (.pure (U.int 30)))) (notM (asBM (op1M uAll (lcM [3] (itM (vM 2)) (setM 3) (.pure true) (callM fn_is_tie [] (consM (vM 3) (consM (vM 1) nilM)))))))))
    (raiseM "NoWeb")
    (.pure none))
  (seqM (fldM "Web" "names" 0 (.pure []) (op1M uSorted (vM 1)))
  (fldM "Web" "pairs" 0 (.pure []) (op1M uList (vM 2))))))
def fn_Web_init : Fn := runF sg_Web_init 1 mir_Web_init
theorem Sc_Web_init : FnScope [("self" : Str), ("places" : Str), ("ties" : Str), ("tie" : Str)] ["self", "places", "ties"] (defScope st_Web_init) := ⟨rfl, rfl, rfl, by decide +kernel, rfl, by decide +kernel, by decide +kernel⟩
theorem ok_Web_init {K : PySem.W.Frag} {mg : Str → Option Value} {wd : World} (T : Tx K mg wd) {P : Program} {base : Heap} {f : Addr} {fd : FuncData} (F : Fun K "__init__" "Web.__init__" st_Web_init f fd)
    {a_are_places : Addr} {fd_are_places : FuncData} (G_are_places : FnG P wd K mg base (L2.CX P wd) 2 a_are_places fd_are_places ["thing"] (SpOf K FM0 sg_are_places fn_are_places)) (m_are_places : mg "are_places" = some (Value.ref a_are_places)) (k_are_places : PySem.W.keepIn K (Value.ref a_are_places) = true) (B_are_places : Binds K fd_are_places ["thing"] [])
    {a_is_tie : Addr} {fd_is_tie : FuncData} (G_is_tie : FnG P wd K mg base (L2.CX P wd) 2 a_is_tie fd_is_tie ["thing", "names"] (SpOf K FM0 sg_is_tie fn_is_tie)) (m_is_tie : mg "is_tie" = some (Value.ref a_is_tie)) (k_is_tie : PySem.W.keepIn K (Value.ref a_is_tie) = true) (B_is_tie : Binds K fd_is_tie ["thing", "names"] []) :
    FnG P wd K mg base (L2.CX P wd) 3 f fd ["self", "places", "ties"] (SpOf K FM0 sg_Web_init fn_Web_init) :=
  fn_ok F Sc_Web_init rfl (.inl rfl) fun cdv A outer s H E hr => by
  have hu := hr65 hr
  have hu1 := hr1 hr
  have hg0 := hr.gd
  exact (scons_ (sif_ (tnot_ (t_ (b_ (fn1_ tk0 G_are_places (hr.mono (by decide)) m_are_places k_are_places B_are_places (acons_ (v_ 1) anil_) []))))
    (sdead_ nn_raise (sone_ (sraise_ (cn := "NoWeb") rfl tk0 (mk_err T.e_NoWeb))) [] [(.i "Web"), .f, .f, .n])
    (swk_ snil_ [] [(.i "Web"), .f, .f, .n]))
  (scons_ (sif_ (tw_ (wor_ (tnot_ (t_ (b_ (isi_ (v_ 2) T.n_isinstance T.n_list bt_list)))) (wor_ (tcmp_ op_gtU pr_gt pl_gt (c1A_ (bcB call_len T.n_len bt_len) pr_len pl_len (v_ 2)) (glob_ T.c_MOST_TIES fun _ => .int _)) (wor1_ (tnot_ (t_ (b_ (c1A_ (bcB (cr_all rfl) T.n_all bt_all) pr_all pl_all (lc_ (own := [("tie", 3)]) [3] rfl Sc_Web_init.nd (kw_ (v_ 2)) (by change BlkOk [("self" : Str), ("places" : Str), ("ties" : Str), ("tie" : Str)] (defScope st_Web_init) _ _; exact blkOk_by (by decide +kernel)) (fun _ => (tname_ 3 .f Sc_Web_init.nd)) ts0_ (fun _ => (fn1_ takes_no G_is_tie (hr.mono (by decide)) m_is_tie k_is_tie B_is_tie (acons_ (v_ 3) (acons_ (v_ 1) anil_)) [])))))))))))
    (sdead_ nn_raise (sone_ (sraise_ (cn := "NoWeb") rfl tk0 (mk_err T.e_NoWeb))) [] [(.i "Web"), .f, .f, .n])
    (swk_ snil_ [] [(.i "Web"), .f, .f, .n]))
  (scons_ (sfld_ T.cl_Web T.no_Web_names (fz_ (c1O_ (bcB (call_sortU hu) T.n_sorted bt_sorted) pr_sorted tk_sorted (v_ 1))) (pv_ 0 (.i "Web")))
  (sone_ (sfld_ T.cl_Web T.no_Web_pairs (fz_ (c1O_ (bcT (call_listU rfl) T.n_list bt_list) pr_listU tk_list (v_ 2))) (pv_ 0 (.i "Web")))))))
theorem okN_Web_init {K : PySem.W.Frag} {mg : Str → Option Value} {wd : World} (T : Tx K mg wd) {P : Program} {base : Heap} {f : Addr} {fd : FuncData} (F : Fun K "__init__" "Web.__init__" st_Web_init f fd)
    {a_are_places : Addr} {fd_are_places : FuncData} (GN_are_places : FnG P wd K mg base (L2N.CX P wd) 2 a_are_places fd_are_places ["thing"] (SpOf K FM0 sg_are_places fn_are_places)) (m_are_places : mg "are_places" = some (Value.ref a_are_places)) (k_are_places : PySem.W.keepIn K (Value.ref a_are_places) = true) (B_are_places : Binds K fd_are_places ["thing"] [])
    {a_is_tie : Addr} {fd_is_tie : FuncData} (GN_is_tie : FnG P wd K mg base (L2N.CX P wd) 2 a_is_tie fd_is_tie ["thing", "names"] (SpOf K FM0 sg_is_tie fn_is_tie)) (m_is_tie : mg "is_tie" = some (Value.ref a_is_tie)) (k_is_tie : PySem.W.keepIn K (Value.ref a_is_tie) = true) (B_is_tie : Binds K fd_is_tie ["thing", "names"] []) :
    FnG P wd K mg base (L2N.CX P wd) 3 f fd ["self", "places", "ties"] (SpOf K FM0 sg_Web_init fn_Web_init) :=
  fn_okN F Sc_Web_init rfl (.inl rfl) fun cdv A outer s H E hr => by
  have hu := hr65 hr
  have hu1 := hr1 hr
  have hg0 := hr.gd
  exact (scons_ (sif_ (tnot_ (t_ (b_ (fn1N_ tk0N GN_are_places (hr.mono (by decide)) m_are_places k_are_places B_are_places (acons_ (v_ 1) anil_) []))))
    (sdead_ nn_raise (sone_ (sraiseN_ (cn := "NoWeb") rfl tk0N (mk_errN T.e_NoWeb))) [] [(.i "Web"), .f, .f, .n])
    (swk_ snil_ [] [(.i "Web"), .f, .f, .n]))
  (scons_ (sif_ (tw_ (wor_ (tnot_ (t_ (b_ (isi_ (v_ 2) T.n_isinstance T.n_list bt_list)))) (wor_ (tcmp_ op_gtU pr_gt pl_gt (c1A_ (bcB call_len T.n_len bt_len) pr_len pl_len (v_ 2)) (glob_ T.c_MOST_TIES fun _ => .int _)) (wor1_ (tnot_ (t_ (b_ (c1A_ (bcB (cr_all rfl) T.n_all bt_all) pr_all pl_all (lc_ (own := [("tie", 3)]) [3] rfl Sc_Web_init.nd (kw_ (v_ 2)) (by change BlkOk [("self" : Str), ("places" : Str), ("ties" : Str), ("tie" : Str)] (defScope st_Web_init) _ _; exact blkOk_by (by decide +kernel)) (fun _ => (tname_ 3 .f Sc_Web_init.nd)) ts0_ (fun _ => (fn1N_ takes_noN GN_is_tie (hr.mono (by decide)) m_is_tie k_is_tie B_is_tie (acons_ (v_ 3) (acons_ (v_ 1) anil_)) [])))))))))))
    (sdead_ nn_raise (sone_ (sraiseN_ (cn := "NoWeb") rfl tk0N (mk_errN T.e_NoWeb))) [] [(.i "Web"), .f, .f, .n])
    (swk_ snil_ [] [(.i "Web"), .f, .f, .n]))
  (scons_ (sfld_ T.cl_Web T.no_Web_names (fz_ (c1O_ (bcB (call_sortU hu) T.n_sorted bt_sorted) pr_sorted tk_sorted (v_ 1))) (pv_ 0 (.i "Web")))
  (sone_ (sfld_ T.cl_Web T.no_Web_pairs (fz_ (c1O_ (bcT (call_listU rfl) T.n_list bt_list) pr_listU tk_list (v_ 2))) (pv_ 0 (.i "Web")))))))
abbrev st_Web_places : Stmt := inClass (top 25) 1
def sg_Web_places : Sig := ⟨[(.f, false)], .f⟩
def mir_Web_places : Mo (Option U) :=
  (retM (op1M uList (op1M (uFld "Web" "names") (vM 0))))
def fn_Web_places : Fn := runF sg_Web_places 0 mir_Web_places
theorem Sc_Web_places : FnScope [("self" : Str)] ["self"] (defScope st_Web_places) := ⟨rfl, rfl, rfl, by decide +kernel, rfl, by decide +kernel, by decide +kernel⟩
theorem ok_Web_places {K : PySem.W.Frag} {mg : Str → Option Value} {wd : World} (T : Tx K mg wd) {P : Program} {base : Heap} {f : Addr} {fd : FuncData} (F : Fun K "places" "Web.places" st_Web_places f fd)
     :
    FnG P wd K mg base (L2.CX P wd) 1 f fd ["self"] (SpOf K FM0 sg_Web_places fn_Web_places) :=
  fn_ok F Sc_Web_places rfl (.inr fun us s' => (show NoNx mir_Web_places from nn_ret) us s') fun cdv A outer s H E hr => by
  have hu := hr65 hr
  have hu1 := hr1 hr
  have hg0 := hr.gd
  exact (sone_ (sret_ (fz_ (c1O_ (bcT (call_listU rfl) T.n_list bt_list) pr_listU tk_list (fd_ T.cl_Web T.no_Web_names (v_ 0))))))
abbrev st_Web_ties : Stmt := inClass (top 25) 4
def sg_Web_ties : Sig := ⟨[(.f, false)], .f⟩
def mir_Web_ties : Mo (Option U) :=
  (retM (op1M uList (op1M (uFld "Web" "pairs") (vM 0))))
def fn_Web_ties : Fn := runF sg_Web_ties 0 mir_Web_ties
theorem Sc_Web_ties : FnScope [("self" : Str)] ["self"] (defScope st_Web_ties) := ⟨rfl, rfl, rfl, by decide +kernel, rfl, by decide +kernel, by decide +kernel⟩
theorem ok_Web_ties {K : PySem.W.Frag} {mg : Str → Option Value} {wd : World} (T : Tx K mg wd) {P : Program} {base : Heap} {f : Addr} {fd : FuncData} (F : Fun K "ties" "Web.ties" st_Web_ties f fd)
     :
    FnG P wd K mg base (L2.CX P wd) 1 f fd ["self"] (SpOf K FM0 sg_Web_ties fn_Web_ties) :=
  fn_ok F Sc_Web_ties rfl (.inr fun us s' => (show NoNx mir_Web_ties from nn_ret) us s') fun cdv A outer s H E hr => by
  have hu := hr65 hr
  have hu1 := hr1 hr
  have hg0 := hr.gd
  exact (sone_ (sret_ (fz_ (c1O_ (bcT (call_listU rfl) T.n_list bt_list) pr_listU tk_list (fd_ T.cl_Web T.no_Web_pairs (v_ 0))))))
abbrev st_web_text : Stmt := top 30
def sg_web_text : Sig := ⟨[(.f, false)], .f⟩
def mir_web_text : Mo (Option U) :=
  (seqM (asgM 1 (lstM (consM (sm1M uJoin (.pure (U.str " ")) (op2M uAdd (lstM (consM (.pure (U.str "places")) nilM)) (callM fn_Web_places [] (recvM "Web" "places" (vM 0) nilM)))) nilM)))
  (seqM (forM' (itM (callM fn_Web_ties [] (recvM "Web" "ties" (vM 0) nilM))) (ttM (tgcM (setM 2) (tgcM (setM 3) tgnM)))
    (exM (mutM 1 (.pure []) (consM (op2M uAdd (op2M uAdd (vM 2) (.pure (U.str " > "))) (vM 3)) nilM) uAppend)))
  (retM (sm1M uJoin (.pure (U.str "")) (lcM [4] (itM (vM 1)) (setM 4) (.pure true) (op2M uAdd (vM 4) (.pure (U.str "\n"))))))))
def fn_web_text : Fn := runF sg_web_text 4 mir_web_text
theorem Sc_web_text : FnScope [("web" : Str), ("rows" : Str), ("one" : Str), ("other" : Str), ("row" : Str)] ["web"] (defScope st_web_text) := ⟨rfl, rfl, rfl, by decide +kernel, rfl, by decide +kernel, by decide +kernel⟩
theorem ok_web_text {K : PySem.W.Frag} {mg : Str → Option Value} {wd : World} (T : Tx K mg wd) {P : Program} {base : Heap} {f : Addr} {fd : FuncData} (F : Fun K "web_text" "web_text" st_web_text f fd)
    {a_Web_places : Addr} {fd_Web_places : FuncData} (G_Web_places : FnG P wd K mg base (L2.CX P wd) 1 a_Web_places fd_Web_places ["self"] (SpOf K FM0 sg_Web_places fn_Web_places)) (M_Web_places : Meth K (clsAt K "Web") "places" a_Web_places) (B_Web_places : Binds K fd_Web_places ["self"] [])
    {a_Web_ties : Addr} {fd_Web_ties : FuncData} (G_Web_ties : FnG P wd K mg base (L2.CX P wd) 1 a_Web_ties fd_Web_ties ["self"] (SpOf K FM0 sg_Web_ties fn_Web_ties)) (M_Web_ties : Meth K (clsAt K "Web") "ties" a_Web_ties) (B_Web_ties : Binds K fd_Web_ties ["self"] []) :
    FnG P wd K mg base (L2.CX P wd) 2 f fd ["web"] (SpOf K FM0 sg_web_text fn_web_text) :=
  fn_ok F Sc_web_text rfl (.inr fun us s' => (show NoNx mir_web_text from (nn_seq (nn_seq nn_ret))) us s') fun cdv A outer s H E hr => by
  have hu := hr65 hr
  have hu1 := hr1 hr
  have hg0 := hr.gd
  exact (scons_ (sasg_ 1 (lst_ .f (acons_ (join_ str_ (bin_ op_addU pr_add (lst_ .f (acons_ (glob_ T.c_HEAD fun _ => .str _ (by decide +kernel)) anil_)) (me0_ tk0 T.cl_Web M_Web_places G_Web_places (hr.mono (by decide)) B_Web_places (v_ 0) []))) anil_)) Sc_web_text.nd)
  (scons_ (sfor_ [.f, (.l .f), .n, .n, .n] cx_po rfl (kw_ (me0_ tk0 T.cl_Web M_Web_ties G_Web_ties (hr.mono (by decide)) B_Web_ties (v_ 0) [])) (ttup_ rfl (tgc_ (tname_ 2 .f Sc_web_text.nd) (tgc_ (tname_ 3 .f Sc_web_text.nd) tgn_)))
    (swk_ (sone_ (sexpr_ (mut_ r_append mu_append tk_append (pv_ 1 (.l .f)) (acons_ (bin_ op_addU pr_add (bin_ op_addU pr_add (v_ 2) (glob_ T.c_LEADS fun _ => .str _ (by decide +kernel))) (v_ 3)) anil_)))) [1, 2, 3] [.f, (.l .f), .n, .n, .n]))
  (sfrz_ 1 (sone_ (sret_ (join_ str_ (lc_ (own := [("row", 4)]) [4] rfl Sc_web_text.nd (kw_ (v_ 1)) (by change BlkOk [("web" : Str), ("rows" : Str), ("one" : Str), ("other" : Str), ("row" : Str)] (defScope st_web_text) _ _; exact blkOk_by (by decide +kernel)) (fun _ => (tname_ 4 .f Sc_web_text.nd)) ts0_ (fun _ => (bin_ op_addU pr_add (v_ 4) str_)))))))))
abbrev st_show_web : Stmt := top 41
def sg_show_web : Sig := ⟨[(.f, false)], .f⟩
def mir_show_web : Mo (Option U) :=
  (retM (op1M (uRepl "\n" "; ") (slM (callM fn_web_text [] (consM (vM 0) nilM)) (.pure none) (ptM (op1M uNeg (.pure (U.int 1)))))))
def fn_show_web : Fn := runF sg_show_web 0 mir_show_web
theorem Sc_show_web : FnScope [("web" : Str)] ["web"] (defScope st_show_web) := ⟨rfl, rfl, rfl, by decide +kernel, rfl, by decide +kernel, by decide +kernel⟩
theorem ok_show_web {K : PySem.W.Frag} {mg : Str → Option Value} {wd : World} (T : Tx K mg wd) {P : Program} {base : Heap} {f : Addr} {fd : FuncData} (F : Fun K "show_web" "show_web" st_show_web f fd)
    {a_web_text : Addr} {fd_web_text : FuncData} (G_web_text : FnG P wd K mg base (L2.CX P wd) 2 a_web_text fd_web_text ["web"] (SpOf K FM0 sg_web_text fn_web_text)) (m_web_text : mg "web_text" = some (Value.ref a_web_text)) (k_web_text : PySem.W.keepIn K (Value.ref a_web_text) = true) (B_web_text : Binds K fd_web_text ["web"] []) :
    FnG P wd K mg base (L2.CX P wd) 3 f fd ["web"] (SpOf K FM0 sg_show_web fn_show_web) :=
  fn_ok F Sc_show_web rfl (.inr fun us s' => (show NoNx mir_show_web from nn_ret) us s') fun cdv A outer s H E hr => by
  have hu := hr65 hr
  have hu1 := hr1 hr
  have hg0 := hr.gd
  exact (sone_ (sret_ (replG_ T.rp_BREAK_BETWEEN (sl_ (fn1_ tk0 G_web_text (hr.mono (by decide)) m_web_text k_web_text B_web_text (acons_ (v_ 0) anil_) []) ptn_ (pts_ (un_ un_neg pr_neg int_))))))
abbrev st_tie_in : Stmt := top 31
def sg_tie_in : Sig := ⟨[(.f, false)], .f⟩
def mir_tie_in : Mo (Option U) :=
  (seqM (tgM (sm1M uPartition (vM 0) (.pure (U.str " > "))) (ttM (tgcM (setM 1) (tgcM (setM 2) (tgcM (setM 3) tgnM)))))
  (retM (tupM (consM (vM 1) (consM (vM 3) nilM)))))
def fn_tie_in : Fn := runF sg_tie_in 3 mir_tie_in
theorem Sc_tie_in : FnScope [("row" : Str), ("one" : Str), ("leads" : Str), ("other" : Str)] ["row"] (defScope st_tie_in) := ⟨rfl, rfl, rfl, by decide +kernel, rfl, by decide +kernel, by decide +kernel⟩
theorem ok_tie_in {K : PySem.W.Frag} {mg : Str → Option Value} {wd : World} (T : Tx K mg wd) {P : Program} {base : Heap} {f : Addr} {fd : FuncData} (F : Fun K "tie_in" "tie_in" st_tie_in f fd)
     :
    FnG P wd K mg base (L2.CX P wd) 1 f fd ["row"] (SpOf K FM0 sg_tie_in fn_tie_in) :=
  fn_ok F Sc_tie_in rfl (.inr fun us s' => (show NoNx mir_tie_in from (nn_seq nn_ret)) us s') fun cdv A outer s H E hr => by
  have hu := hr65 hr
  have hu1 := hr1 hr
  have hg0 := hr.gd
  exact (scons_ (sasgT_ (partition_ (v_ 0) (glob_ T.c_LEADS fun _ => .str _ (by decide +kernel))) (ttup_ rfl (tgc_ (tname_ 1 .f Sc_tie_in.nd) (tgc_ (tname_ 2 .f Sc_tie_in.nd) (tgc_ (tname_ 3 .f Sc_tie_in.nd) tgn_)))))
  (sone_ (sret_ (tup_ (acons_ (v_ 1) (acons_ (v_ 3) anil_))))))
theorem okN_tie_in {K : PySem.W.Frag} {mg : Str → Option Value} {wd : World} (T : Tx K mg wd) {P : Program} {base : Heap} {f : Addr} {fd : FuncData} (F : Fun K "tie_in" "tie_in" st_tie_in f fd)
     :
    FnG P wd K mg base (L2N.CX P wd) 1 f fd ["row"] (SpOf K FM0 sg_tie_in fn_tie_in) :=
  fn_okN F Sc_tie_in rfl (.inr fun us s' => (show NoNx mir_tie_in from (nn_seq nn_ret)) us s') fun cdv A outer s H E hr => by
  have hu := hr65 hr
  have hu1 := hr1 hr
  have hg0 := hr.gd
  exact (scons_ (sasgT_ (partition_ (v_ 0) (glob_ T.c_LEADS fun _ => .str _ (by decide +kernel))) (ttup_ rfl (tgc_ (tname_ 1 .f Sc_tie_in.nd) (tgc_ (tname_ 2 .f Sc_tie_in.nd) (tgc_ (tname_ 3 .f Sc_tie_in.nd) tgn_)))))
  (sone_ (sret_ (tup_ (acons_ (v_ 1) (acons_ (v_ 3) anil_))))))
abbrev st_read_web : Stmt := top 32
def sg_read_web : Sig := ⟨[(.f, false)], .f⟩
def mir_read_web : Mo (Option U) :=
  (seqM (ifM (notM (asBM (op1M (uIsi "str") (vM 0))))
    (raiseM "NoText")
    (.pure none))
  (seqM (asgM 1 (sm1M uSplit (vM 0) (.pure (U.str "\n"))))
  (seqM (tryRM [("NoWeb", true)] (asgM 2 (mkM "Web" fn_Web_init (consM (slM (sm1M uSplit (op2M uIdx (vM 1) (.pure (U.int 0))) (.pure (U.str " "))) (ptM (.pure (U.int 1))) (.pure none)) (consM (lcM [3] (itM (slM (vM 1) (ptM (.pure (U.int 1))) (ptM (op1M uNeg (.pure (U.int 1)))))) (setM 3) (.pure true) (callM fn_tie_in [] (consM (vM 3) nilM))) nilM)))) "NoText")
  (seqM (ifM (asBM (op2M uNe (callM fn_web_text [] (consM (vM 2) nilM)) (vM 0)))
    (raiseM "NoText")
    (.pure none))
  (retM (vM 2))))))
def fn_read_web : Fn := runF sg_read_web 3 mir_read_web
theorem Sc_read_web : FnScope [("text" : Str), ("rows" : Str), ("found" : Str), ("row" : Str)] ["text"] (defScope st_read_web) := ⟨rfl, rfl, rfl, by decide +kernel, rfl, by decide +kernel, by decide +kernel⟩
theorem ok_read_web {K : PySem.W.Frag} {mg : Str → Option Value} {wd : World} (T : Tx K mg wd) {P : Program} {base : Heap} {f : Addr} {fd : FuncData} (F : Fun K "read_web" "read_web" st_read_web f fd)
    {a_tie_in : Addr} {fd_tie_in : FuncData} (G_tie_in : FnG P wd K mg base (L2.CX P wd) 1 a_tie_in fd_tie_in ["row"] (SpOf K FM0 sg_tie_in fn_tie_in)) (m_tie_in : mg "tie_in" = some (Value.ref a_tie_in)) (k_tie_in : PySem.W.keepIn K (Value.ref a_tie_in) = true) (B_tie_in : Binds K fd_tie_in ["row"] []) (GN_tie_in : FnG P wd K mg base (L2N.CX P wd) 1 a_tie_in fd_tie_in ["row"] (SpOf K FM0 sg_tie_in fn_tie_in))
    {a_Web_init : Addr} {fd_Web_init : FuncData} (G_Web_init : FnG P wd K mg base (L2.CX P wd) 3 a_Web_init fd_Web_init ["self", "places", "ties"] (SpOf K FM0 sg_Web_init fn_Web_init)) (MK_Web_init : L2.Mk K (clsAt K "Web") a_Web_init) (B_Web_init : Binds K fd_Web_init ["self", "places", "ties"] []) (GN_Web_init : FnG P wd K mg base (L2N.CX P wd) 3 a_Web_init fd_Web_init ["self", "places", "ties"] (SpOf K FM0 sg_Web_init fn_Web_init))
    {a_web_text : Addr} {fd_web_text : FuncData} (G_web_text : FnG P wd K mg base (L2.CX P wd) 2 a_web_text fd_web_text ["web"] (SpOf K FM0 sg_web_text fn_web_text)) (m_web_text : mg "web_text" = some (Value.ref a_web_text)) (k_web_text : PySem.W.keepIn K (Value.ref a_web_text) = true) (B_web_text : Binds K fd_web_text ["web"] []) :
    FnG P wd K mg base (L2.CX P wd) 5 f fd ["text"] (SpOf K FM0 sg_read_web fn_read_web) :=
  fn_ok F Sc_read_web rfl (.inr fun us s' => (show NoNx mir_read_web from (nn_seq (nn_seq (nn_seq (nn_seq nn_ret))))) us s') fun cdv A outer s H E hr => by
  have hu := hr65 hr
  have hu1 := hr1 hr
  have hg0 := hr.gd
  exact (scons_ (sif_ (tnot_ (t_ (b_ (isi_ (v_ 0) T.n_isinstance T.n_str bt_str))))
    (sdead_ nn_raise (sone_ (sraise_ (cn := "NoText") rfl tk0 (mk_err T.e_NoText))) [] [.f, .n, .n, .n])
    (swk_ snil_ [] [.f, .n, .n, .n]))
  (scons_ (sasg_ 1 (fz_ (split_ (v_ 0) str_)) Sc_read_web.nd)
  (scons_ (strR_ (dn := "NoText") [("NoWeb", true)] rfl rfl tk0 (by exact ⟨rfl, by decide, .inl T.g_NoWeb⟩) (tb_cons T.xm_NoWeb_NoWeb tb_nil) (fun W pn xe tk2 po =>
    (sone_ (sasg_ 2 (fz_ (mk1N_ tk2 MK_Web_init GN_Web_init (hr.mono (by decide)) T.mg_Web B_Web_init (acons_ (sl_ (split_ (ixs_ ix_seq pr_idx (v_ 1) int_) str_) (pts_ int_) ptn_) (acons_ (fz_ (lc_ (own := [("row", 3)]) [3] rfl Sc_read_web.nd (kw_ (sl_ (v_ 1) (pts_ int_) (pts_ (un_ un_neg pr_neg int_)))) (by change BlkOk [("text" : Str), ("rows" : Str), ("found" : Str), ("row" : Str)] (defScope st_read_web) _ _; exact blkOk_by (by decide +kernel)) (fun _ => (tname_ 3 .f Sc_read_web.nd)) ts0_ (fun _ => (fn1N_ takes_noN GN_tie_in (hr.mono (by decide)) m_tie_in k_tie_in B_tie_in (acons_ (v_ 3) anil_) [])))) anil_)))) Sc_read_web.nd))) (fun _ _ _ => mk_errN T.e_NoText) [.f, .f, .f, .n])
  (scons_ (sif_ (tcmp_ (op_neD hr.units) pr_ne pl_ne (fn1_ tk0 G_web_text (hr.mono (by decide)) m_web_text k_web_text B_web_text (acons_ (v_ 2) anil_) []) (v_ 0))
    (sdead_ nn_raise (sone_ (sraise_ (cn := "NoText") rfl tk0 (mk_err T.e_NoText))) [] [.f, .f, .f, .n])
    (swk_ snil_ [] [.f, .f, .f, .n]))
  (sone_ (sret_ (v_ 2)))))))
abbrev st_read_row : Stmt := top 42
def sg_read_row : Sig := ⟨[(.f, false)], .f⟩
def mir_read_row : Mo (Option U) :=
  (seqM (ifM (notM (asBM (op1M (uIsi "str") (vM 0))))
    (raiseM "NoText")
    (.pure none))
  (seqM (asgM 1 (callM fn_read_web [] (consM (op2M uAdd (op1M (uRepl "; " "\n") (vM 0)) (.pure (U.str "\n"))) nilM)))
  (seqM (ifM (asBM (op2M uNe (callM fn_show_web [] (consM (vM 1) nilM)) (vM 0)))
    (raiseM "NoText")
    (.pure none))
  (retM (vM 1)))))
def fn_read_row : Fn := runF sg_read_row 1 mir_read_row
theorem Sc_read_row : FnScope [("text" : Str), ("found" : Str)] ["text"] (defScope st_read_row) := ⟨rfl, rfl, rfl, by decide +kernel, rfl, by decide +kernel, by decide +kernel⟩
theorem ok_read_row {K : PySem.W.Frag} {mg : Str → Option Value} {wd : World} (T : Tx K mg wd) {P : Program} {base : Heap} {f : Addr} {fd : FuncData} (F : Fun K "read_row" "read_row" st_read_row f fd)
    {a_read_web : Addr} {fd_read_web : FuncData} (G_read_web : FnG P wd K mg base (L2.CX P wd) 5 a_read_web fd_read_web ["text"] (SpOf K FM0 sg_read_web fn_read_web)) (m_read_web : mg "read_web" = some (Value.ref a_read_web)) (k_read_web : PySem.W.keepIn K (Value.ref a_read_web) = true) (B_read_web : Binds K fd_read_web ["text"] [])
    {a_show_web : Addr} {fd_show_web : FuncData} (G_show_web : FnG P wd K mg base (L2.CX P wd) 3 a_show_web fd_show_web ["web"] (SpOf K FM0 sg_show_web fn_show_web)) (m_show_web : mg "show_web" = some (Value.ref a_show_web)) (k_show_web : PySem.W.keepIn K (Value.ref a_show_web) = true) (B_show_web : Binds K fd_show_web ["web"] []) :
    FnG P wd K mg base (L2.CX P wd) 6 f fd ["text"] (SpOf K FM0 sg_read_row fn_read_row) :=
  fn_ok F Sc_read_row rfl (.inr fun us s' => (show NoNx mir_read_row from (nn_seq (nn_seq (nn_seq nn_ret)))) us s') fun cdv A outer s H E hr => by
  have hu := hr65 hr
  have hu1 := hr1 hr
  have hg0 := hr.gd
  exact (scons_ (sif_ (tnot_ (t_ (b_ (isi_ (v_ 0) T.n_isinstance T.n_str bt_str))))
    (sdead_ nn_raise (sone_ (sraise_ (cn := "NoText") rfl tk0 (mk_err T.e_NoText))) [] [.f, .n])
    (swk_ snil_ [] [.f, .n]))
  (scons_ (sasg_ 1 (fn1_ tk0 G_read_web (hr.mono (by decide)) m_read_web k_read_web B_read_web (acons_ (bin_ op_addU pr_add (replG_ T.rp_BETWEEN_BREAK (v_ 0)) (glob_ T.c_BREAK fun _ => .str _ (by decide +kernel))) anil_) []) Sc_read_row.nd)
  (scons_ (sif_ (tcmp_ (op_neD hr.units) pr_ne pl_ne (fn1_ tk0 G_show_web (hr.mono (by decide)) m_show_web k_show_web B_show_web (acons_ (v_ 1) anil_) []) (v_ 0))
    (sdead_ nn_raise (sone_ (sraise_ (cn := "NoText") rfl tk0 (mk_err T.e_NoText))) [] [.f, .f])
    (swk_ snil_ [] [.f, .f]))
  (sone_ (sret_ (v_ 1))))))
abbrev st_show_ties : Stmt := top 37
def sg_show_ties : Sig := ⟨[(.f, false)], .f⟩
def mir_show_ties : Mo (Option U) :=
  (seqM (ifM (asBM (op2M uEq (vM 0) (lstM nilM)))
    (retM (.pure (U.str "-")))
    (.pure none))
  (retM (sm1M uJoin (.pure (U.str " ")) (lcM [1] (itM (vM 0)) (setM 1) (.pure true) (op1M uStrI (vM 1))))))
def fn_show_ties : Fn := runF sg_show_ties 1 mir_show_ties
theorem Sc_show_ties : FnScope [("ties" : Str), ("k" : Str)] ["ties"] (defScope st_show_ties) := ⟨rfl, rfl, rfl, by decide +kernel, rfl, by decide +kernel, by decide +kernel⟩
theorem ok_show_ties {K : PySem.W.Frag} {mg : Str → Option Value} {wd : World} (T : Tx K mg wd) {P : Program} {base : Heap} {f : Addr} {fd : FuncData} (F : Fun K "show_ties" "show_ties" st_show_ties f fd)
     :
    FnG P wd K mg base (L2.CX P wd) 1 f fd ["ties"] (SpOf K FM0 sg_show_ties fn_show_ties) :=
  fn_ok F Sc_show_ties rfl (.inr fun us s' => (show NoNx mir_show_ties from (nn_seq nn_ret)) us s') fun cdv A outer s H E hr => by
  have hu := hr65 hr
  have hu1 := hr1 hr
  have hg0 := hr.gd
  exact (scons_ (sif_ (tcmp_ (op_eqD hr.units) pr_eq pl_eq (v_ 0) (lst_ .f anil_))
    (sdead_ nn_ret (sone_ (sret_ (glob_ T.c_NOTHING fun _ => .str _ (by decide +kernel)))) [] [.f, .n])
    (swk_ snil_ [] [.f, .n]))
  (sone_ (sret_ (join_ str_ (lc_ (own := [("k", 1)]) [1] rfl Sc_show_ties.nd (kw_ (v_ 0)) (by change BlkOk [("ties" : Str), ("k" : Str)] (defScope st_show_ties) _ _; exact blkOk_by (by decide +kernel)) (fun _ => (tname_ 1 .f Sc_show_ties.nd)) ts0_ (fun _ => (c1_ (bcT call_str_int T.n_str bt_str) pr_strI (v_ 1))))))))
abbrev st_show_cut : Stmt := top 38
def sg_show_cut : Sig := ⟨[(.f, false)], .f⟩
def mir_show_cut : Mo (Option U) :=
  (retM (sm1M uJoin (.pure (U.str "+")) (vM 0)))
def fn_show_cut : Fn := runF sg_show_cut 0 mir_show_cut
theorem Sc_show_cut : FnScope [("cut" : Str)] ["cut"] (defScope st_show_cut) := ⟨rfl, rfl, rfl, by decide +kernel, rfl, by decide +kernel, by decide +kernel⟩
theorem ok_show_cut {K : PySem.W.Frag} {mg : Str → Option Value} {wd : World} (T : Tx K mg wd) {P : Program} {base : Heap} {f : Addr} {fd : FuncData} (F : Fun K "show_cut" "show_cut" st_show_cut f fd)
     :
    FnG P wd K mg base (L2.CX P wd) 1 f fd ["cut"] (SpOf K FM0 sg_show_cut fn_show_cut) :=
  fn_ok F Sc_show_cut rfl (.inr fun us s' => (show NoNx mir_show_cut from nn_ret) us s') fun cdv A outer s H E hr => by
  have hu := hr65 hr
  have hu1 := hr1 hr
  have hg0 := hr.gd
  exact (sone_ (sret_ (join_ str_ (v_ 0))))
abbrev st_show_times : Stmt := top 39
def sg_show_times : Sig := ⟨[(.f, false)], .f⟩
def mir_show_times : Mo (Option U) :=
  (seqM (ifM (asBM (op1M (uIsi "tuple") (op2M uIdx (vM 0) (.pure (U.int 0)))))
    (retM (op2M uAdd (op2M uAdd (callM fn_show_cut [] (consM (op2M uIdx (vM 0) (.pure (U.int 0))) nilM)) (.pure (U.str "*"))) (op1M uStrI (op2M uIdx (vM 0) (.pure (U.int 1))))))
    (.pure none))
  (retM (callM fn_show_cut [] (consM (vM 0) nilM))))
def fn_show_times : Fn := runF sg_show_times 0 mir_show_times
theorem Sc_show_times : FnScope [("one" : Str)] ["one"] (defScope st_show_times) := ⟨rfl, rfl, rfl, by decide +kernel, rfl, by decide +kernel, by decide +kernel⟩
theorem ok_show_times {K : PySem.W.Frag} {mg : Str → Option Value} {wd : World} (T : Tx K mg wd) {P : Program} {base : Heap} {f : Addr} {fd : FuncData} (F : Fun K "show_times" "show_times" st_show_times f fd)
    {a_show_cut : Addr} {fd_show_cut : FuncData} (G_show_cut : FnG P wd K mg base (L2.CX P wd) 1 a_show_cut fd_show_cut ["cut"] (SpOf K FM0 sg_show_cut fn_show_cut)) (m_show_cut : mg "show_cut" = some (Value.ref a_show_cut)) (k_show_cut : PySem.W.keepIn K (Value.ref a_show_cut) = true) (B_show_cut : Binds K fd_show_cut ["cut"] []) :
    FnG P wd K mg base (L2.CX P wd) 2 f fd ["one"] (SpOf K FM0 sg_show_times fn_show_times) :=
  fn_ok F Sc_show_times rfl (.inr fun us s' => (show NoNx mir_show_times from (nn_seq nn_ret)) us s') fun cdv A outer s H E hr => by
  have hu := hr65 hr
  have hu1 := hr1 hr
  have hg0 := hr.gd
  exact (scons_ (sif_ (t_ (b_ (isi_ (ixs_ ix_seq pr_idx (v_ 0) int_) T.n_isinstance T.n_tuple bt_tuple)))
    (sdead_ nn_ret (sone_ (sret_ (bin_ op_addU pr_add (bin_ op_addU pr_add (fn1_ tk0 G_show_cut (hr.mono (by decide)) m_show_cut k_show_cut B_show_cut (acons_ (ixs_ ix_seq pr_idx (v_ 0) int_) anil_) []) str_) (c1_ (bcT call_str_int T.n_str bt_str) pr_strI (ixs_ ix_seq pr_idx (v_ 0) int_))))) [] [.f])
    (swk_ snil_ [] [.f]))
  (sone_ (sret_ (fn1_ tk0 G_show_cut (hr.mono (by decide)) m_show_cut k_show_cut B_show_cut (acons_ (v_ 0) anil_) []))))
abbrev st_show_cuts : Stmt := top 40
def sg_show_cuts : Sig := ⟨[(.f, false)], .f⟩
def mir_show_cuts : Mo (Option U) :=
  (seqM (ifM (asBM (op2M uEq (vM 0) (lstM nilM)))
    (retM (.pure (U.str "-")))
    (.pure none))
  (retM (sm1M uJoin (.pure (U.str " ")) (lcM [1] (itM (vM 0)) (setM 1) (.pure true) (callM fn_show_times [] (consM (vM 1) nilM))))))
def fn_show_cuts : Fn := runF sg_show_cuts 1 mir_show_cuts
theorem Sc_show_cuts : FnScope [("cuts" : Str), ("one" : Str)] ["cuts"] (defScope st_show_cuts) := ⟨rfl, rfl, rfl, by decide +kernel, rfl, by decide +kernel, by decide +kernel⟩
theorem ok_show_cuts {K : PySem.W.Frag} {mg : Str → Option Value} {wd : World} (T : Tx K mg wd) {P : Program} {base : Heap} {f : Addr} {fd : FuncData} (F : Fun K "show_cuts" "show_cuts" st_show_cuts f fd)
    {a_show_times : Addr} {fd_show_times : FuncData} (G_show_times : FnG P wd K mg base (L2.CX P wd) 2 a_show_times fd_show_times ["one"] (SpOf K FM0 sg_show_times fn_show_times)) (m_show_times : mg "show_times" = some (Value.ref a_show_times)) (k_show_times : PySem.W.keepIn K (Value.ref a_show_times) = true) (B_show_times : Binds K fd_show_times ["one"] []) :
    FnG P wd K mg base (L2.CX P wd) 3 f fd ["cuts"] (SpOf K FM0 sg_show_cuts fn_show_cuts) :=
  fn_ok F Sc_show_cuts rfl (.inr fun us s' => (show NoNx mir_show_cuts from (nn_seq nn_ret)) us s') fun cdv A outer s H E hr => by
  have hu := hr65 hr
  have hu1 := hr1 hr
  have hg0 := hr.gd
  exact (scons_ (sif_ (tcmp_ (op_eqD hr.units) pr_eq pl_eq (v_ 0) (lst_ .f anil_))
    (sdead_ nn_ret (sone_ (sret_ (glob_ T.c_NOTHING fun _ => .str _ (by decide +kernel)))) [] [.f, .n])
    (swk_ snil_ [] [.f, .n]))
  (sone_ (sret_ (join_ str_ (lc_ (own := [("one", 1)]) [1] rfl Sc_show_cuts.nd (kw_ (v_ 0)) (by change BlkOk [("cuts" : Str), ("one" : Str)] (defScope st_show_cuts) _ _; exact blkOk_by (by decide +kernel)) (fun _ => (tname_ 1 .f Sc_show_cuts.nd)) ts0_ (fun _ => (fn1_ takes_no G_show_times (hr.mono (by decide)) m_show_times k_show_times B_show_times (acons_ (v_ 1) anil_) [])))))))
abbrev st__law_shown_right : Stmt := top 158
def sg__law_shown_right : Sig := ⟨[((.l .f), true), (.f, false)], .f⟩
def mir__law_shown_right : Mo (Option U) :=
  (seqM (asgM 2 (lcM [3] (rngM (.pure (.int 0)) (.pure (U.int 30))) (setM 3) (asBM (op2M uEq (callM fn__law_draw [(0, 0, 0)] (consM (vM 0) (consM (.pure (U.int 3)) nilM))) (.pure (U.int 0)))) (vM 3)))
  (seqM (asgM 4 (sm1M uJoin (.pure (U.str " ")) (lcM [3] (itM (vM 2)) (setM 3) (.pure true) (op1M uStrI (vM 3)))))
  (seqM (ifM (asBM (op2M uEq (vM 2) (lstM nilM)))
    (asgM 4 (.pure (U.str "-")))
    (.pure none))
  (seqM (ifM (orM (asBM (op2M uNe (callM fn_show_ties [] (permM [0] (consM (vM 2) nilM))) (vM 4))) (asBM (op2M uNe (callM fn_show_ties [] (consM (vM 2) nilM)) (vM 4))))
    (retM (.pure (U.bool false)))
    (.pure none))
  (seqM (asgM 5 (callM fn__law_draw [(0, 0, 0)] (consM (vM 0) (consM (op1M uLen (vM 1)) nilM))))
  (seqM (asgM 6 (op1M uTuple (slM (lcM [7] (itM (vM 1)) (setM 7) (orM (asBM (op2M uEq (vM 7) (op2M uIdx (vM 1) (vM 5)))) (asBM (op2M uEq (callM fn__law_draw [(0, 0, 0)] (consM (vM 0) (consM (.pure (U.int 2)) nilM))) (.pure (U.int 1))))) (vM 7)) (.pure none) (ptM (.pure (U.int 11))))))
  (seqM (asgM 8 (op2M uAdd (.pure (U.int 1)) (callM fn__law_draw [(0, 0, 0)] (consM (vM 0) (consM (op2M uSub (op2M uPow (.pure (U.int 10)) (.pure (U.int 12))) (.pure (U.int 1))) nilM)))))
  (seqM (ifM (orM (asBM (op2M uNe (callM fn_show_cut [] (permM [0] (consM (vM 6) nilM))) (sm1M uJoin (.pure (U.str "+")) (vM 6)))) (asBM (op2M uNe (callM fn_show_cuts [] (permM [0] (consM (lstM (consM (vM 6) nilM)) nilM))) (sm1M uJoin (.pure (U.str "+")) (vM 6)))))
    (retM (.pure (U.bool false)))
    (.pure none))
  (retM (ofBM (andM (asBM (op2M uEq (callM fn_show_cuts [] (permM [0] (consM (lstM (consM (tupM (consM (vM 6) (consM (vM 8) nilM))) nilM)) nilM))) (op2M uAdd (op2M uAdd (sm1M uJoin (.pure (U.str "+")) (vM 6)) (.pure (U.str "*"))) (op1M uStrI (vM 8))))) (asBM (op2M uEq (callM fn_show_cuts [] (permM [0] (consM (lstM nilM) nilM))) (.pure (U.str "-")))))))))))))))
def fn__law_shown_right : Fn := runF sg__law_shown_right 7 mir__law_shown_right
theorem Sc__law_shown_right : FnScope [("_law_pot" : Str), ("_law_names" : Str), ("_law_some" : Str), ("_law_k" : Str), ("_law_due" : Str), ("_law_at" : Str), ("_law_part" : Str), ("_law_name_here" : Str), ("_law_often" : Str)] ["_law_pot", "_law_names"] (defScope st__law_shown_right) := ⟨rfl, rfl, rfl, by decide +kernel, rfl, by decide +kernel, by decide +kernel⟩
theorem ok__law_shown_right {K : PySem.W.Frag} {mg : Str → Option Value} {wd : World} (T : Tx K mg wd) {P : Program} {base : Heap} {f : Addr} {fd : FuncData} (F : Fun K "_law_shown_right" "_law_shown_right" st__law_shown_right f fd)
    {a__law_draw : Addr} {fd__law_draw : FuncData} (G__law_draw : FnG P wd K mg base (L2.CX P wd) 1 a__law_draw fd__law_draw ["_law_pot", "_law_many"] (SpOf K FM0 sg__law_draw fn__law_draw)) (m__law_draw : mg "_law_draw" = some (Value.ref a__law_draw)) (k__law_draw : PySem.W.keepIn K (Value.ref a__law_draw) = true) (B__law_draw : Binds K fd__law_draw ["_law_pot", "_law_many"] [])
    {a_show_ties : Addr} {fd_show_ties : FuncData} (G_show_ties : FnG P wd K mg base (L2.CX P wd) 1 a_show_ties fd_show_ties ["ties"] (SpOf K FM0 sg_show_ties fn_show_ties)) (m_show_ties : mg "show_ties" = some (Value.ref a_show_ties)) (k_show_ties : PySem.W.keepIn K (Value.ref a_show_ties) = true) (B_show_ties : Binds K fd_show_ties ["ties"] []) (KB_show_ties_0_ties : KwB K fd_show_ties ["ties"] 0 ["ties"] [0])
    {a_show_cut : Addr} {fd_show_cut : FuncData} (G_show_cut : FnG P wd K mg base (L2.CX P wd) 1 a_show_cut fd_show_cut ["cut"] (SpOf K FM0 sg_show_cut fn_show_cut)) (m_show_cut : mg "show_cut" = some (Value.ref a_show_cut)) (k_show_cut : PySem.W.keepIn K (Value.ref a_show_cut) = true) (B_show_cut : Binds K fd_show_cut ["cut"] []) (KB_show_cut_0_cut : KwB K fd_show_cut ["cut"] 0 ["cut"] [0])
    {a_show_cuts : Addr} {fd_show_cuts : FuncData} (G_show_cuts : FnG P wd K mg base (L2.CX P wd) 3 a_show_cuts fd_show_cuts ["cuts"] (SpOf K FM0 sg_show_cuts fn_show_cuts)) (m_show_cuts : mg "show_cuts" = some (Value.ref a_show_cuts)) (k_show_cuts : PySem.W.keepIn K (Value.ref a_show_cuts) = true) (B_show_cuts : Binds K fd_show_cuts ["cuts"] []) (KB_show_cuts_0_cuts : KwB K fd_show_cuts ["cuts"] 0 ["cuts"] [0]) :
    FnG P wd K mg base (L2.CX P wd) 4 f fd ["_law_pot", "_law_names"] (SpOf K FM0 sg__law_shown_right fn__law_shown_right) :=
  fn_ok F Sc__law_shown_right rfl (.inr fun us s' => (show NoNx mir__law_shown_right from (nn_seq (nn_seq (nn_seq (nn_seq (nn_seq (nn_seq (nn_seq (nn_seq nn_ret))))))))) us s') fun cdv A outer s H E hr => by
  have hu := hr65 hr
  have hu1 := hr1 hr
  have hg0 := hr.gd
  exact (scons_ (sasgC_ 2 (own := [("_law_k", 3)]) [3] rfl Sc__law_shown_right.nd (krange1_ T.n_range int_) (by change BlkOk [("_law_pot" : Str), ("_law_names" : Str), ("_law_some" : Str), ("_law_k" : Str), ("_law_due" : Str), ("_law_at" : Str), ("_law_part" : Str), ("_law_name_here" : Str), ("_law_often" : Str)] (defScope st__law_shown_right) _ _; exact blkOk_by (by decide +kernel)) (fun _ => (tname_ 3 .f Sc__law_shown_right.nd)) (ts1_ fun _ => (tcmp_ (op_eqD hr.units) pr_eq pl_eq (fn1_ takes_no G__law_draw (hr.mono (by decide)) m__law_draw k__law_draw B__law_draw (acons_ (w_ 0 (.l .f)) (acons_ int_ anil_)) [(0, 0, 0)]) int_)) (fun _ => (v_ 3)))
  (sfrz_ 2 (scons_ (sasg_ 4 (join_ str_ (lc_ (own := [("_law_k", 3)]) [3] rfl Sc__law_shown_right.nd (kw_ (v_ 2)) (by change BlkOk [("_law_pot" : Str), ("_law_names" : Str), ("_law_some" : Str), ("_law_k" : Str), ("_law_due" : Str), ("_law_at" : Str), ("_law_part" : Str), ("_law_name_here" : Str), ("_law_often" : Str)] (defScope st__law_shown_right) _ _; exact blkOk_by (by decide +kernel)) (fun _ => (tname_ 3 .f Sc__law_shown_right.nd)) ts0_ (fun _ => (c1_ (bcT call_str_int T.n_str bt_str) pr_strI (v_ 3))))) Sc__law_shown_right.nd)
  (scons_ (sif_ (tcmp_ (op_eqD hr.units) pr_eq pl_eq (v_ 2) (lst_ .f anil_))
    (swk_ (sone_ (sasg_ 4 str_ Sc__law_shown_right.nd)) [4] [(.l .f), .f, .f, .n, .f, .n, .n, .n, .n])
    (swk_ snil_ [] [(.l .f), .f, .f, .n, .f, .n, .n, .n, .n]))
  (scons_ (sif_ (tw_ (wor_ (tcmp_ (op_neD hr.units) pr_ne pl_ne (fnk0_ [0] tk0 G_show_ties (hr.mono (by decide)) m_show_ties k_show_ties KB_show_ties_0_ties (kcons_ (v_ 2) knil_) []) (v_ 4)) (wor1_ (tcmp_ (op_neD hr.units) pr_ne pl_ne (fn1_ tk0 G_show_ties (hr.mono (by decide)) m_show_ties k_show_ties B_show_ties (acons_ (v_ 2) anil_) []) (v_ 4)))))
    (sdead_ nn_ret (sone_ (sret_ bool_)) [] [(.l .f), .f, .f, .n, .f, .n, .n, .n, .n])
    (swk_ snil_ [] [(.l .f), .f, .f, .n, .f, .n, .n, .n, .n]))
  (scons_ (sasg_ 5 (fn1_ tk0 G__law_draw (hr.mono (by decide)) m__law_draw k__law_draw B__law_draw (acons_ (w_ 0 (.l .f)) (acons_ (c1A_ (bcB call_len T.n_len bt_len) pr_len pl_len (v_ 1)) anil_)) [(0, 0, 0)]) Sc__law_shown_right.nd)
  (scons_ (sasg_ 6 (c1_ (bcT call_tuple_of T.n_tuple bt_tuple) pr_tuple (sl_ (lc_ (own := [("_law_name_here", 7)]) [7] rfl Sc__law_shown_right.nd (kw_ (v_ 1)) (by change BlkOk [("_law_pot" : Str), ("_law_names" : Str), ("_law_some" : Str), ("_law_k" : Str), ("_law_due" : Str), ("_law_at" : Str), ("_law_part" : Str), ("_law_name_here" : Str), ("_law_often" : Str)] (defScope st__law_shown_right) _ _; exact blkOk_by (by decide +kernel)) (fun _ => (tname_ 7 .f Sc__law_shown_right.nd)) (ts1_ fun _ => (tw_ (wor_ (tcmp_ (op_eqD hr.units) pr_eq pl_eq (v_ 7) (ixs_ ix_seq pr_idx (v_ 1) (v_ 5))) (wor1_ (tcmp_ (op_eqD hr.units) pr_eq pl_eq (fn1_ takes_no G__law_draw (hr.mono (by decide)) m__law_draw k__law_draw B__law_draw (acons_ (w_ 0 (.l .f)) (acons_ int_ anil_)) [(0, 0, 0)]) int_))))) (fun _ => (v_ 7))) ptn_ (pts_ int_))) Sc__law_shown_right.nd)
  (scons_ (sasg_ 8 (bin_ op_addU pr_add int_ (fn1_ tk0 G__law_draw (hr.mono (by decide)) m__law_draw k__law_draw B__law_draw (acons_ (w_ 0 (.l .f)) (acons_ (bin_ op_sub pr_sub (bin_ op_pow pr_pow int_ int_) int_) anil_)) [(0, 0, 0)])) Sc__law_shown_right.nd)
  (scons_ (sif_ (tw_ (wor_ (tcmp_ (op_neD hr.units) pr_ne pl_ne (fnk0_ [0] tk0 G_show_cut (hr.mono (by decide)) m_show_cut k_show_cut KB_show_cut_0_cut (kcons_ (v_ 6) knil_) []) (join_ str_ (v_ 6))) (wor1_ (tcmp_ (op_neD hr.units) pr_ne pl_ne (fnk0_ [0] tk0 G_show_cuts (hr.mono (by decide)) m_show_cuts k_show_cuts KB_show_cuts_0_cuts (kcons_ (fz_ (lst_ .f (acons_ (v_ 6) anil_))) knil_) []) (join_ str_ (v_ 6))))))
    (sdead_ nn_ret (sone_ (sret_ bool_)) [] [(.l .f), .f, .f, .n, .f, .f, .f, .n, .f])
    (swk_ snil_ [] [(.l .f), .f, .f, .n, .f, .f, .f, .n, .f]))
  (sone_ (sret_ (ofb_ (band_ (b_ (cmp_ (op_eqD hr.units) pr_eq pl_eq (fnk0_ [0] tk0 G_show_cuts (hr.mono (by decide)) m_show_cuts k_show_cuts KB_show_cuts_0_cuts (kcons_ (fz_ (lst_ .f (acons_ (tup_ (acons_ (v_ 6) (acons_ (v_ 8) anil_))) anil_))) knil_) []) (bin_ op_addU pr_add (bin_ op_addU pr_add (join_ str_ (v_ 6)) str_) (c1_ (bcT call_str_int T.n_str bt_str) pr_strI (v_ 8))))) (bone_ (b_ (cmp_ (op_eqD hr.units) pr_eq pl_eq (fnk0_ [0] tk0 G_show_cuts (hr.mono (by decide)) m_show_cuts k_show_cuts KB_show_cuts_0_cuts (kcons_ (fz_ (lst_ .f anil_)) knil_) []) str_))))))))))))))))
abbrev st_Desk_init : Stmt := inClass (top 151) 0
def sg_Desk_init : Sig := ⟨[((.i "Desk"), true)], .f⟩
def mir_Desk_init : Mo (Option U) :=
  (fldM "Desk" "webs" 0 (.pure []) (.pure (U.dict [])))
def fn_Desk_init : Fn := runF sg_Desk_init 0 mir_Desk_init
theorem Sc_Desk_init : FnScope [("self" : Str)] ["self"] (defScope st_Desk_init) := ⟨rfl, rfl, rfl, by decide +kernel, rfl, by decide +kernel, by decide +kernel⟩
theorem ok_Desk_init {K : PySem.W.Frag} {mg : Str → Option Value} {wd : World} (T : Tx K mg wd) {P : Program} {base : Heap} {f : Addr} {fd : FuncData} (F : Fun K "__init__" "Desk.__init__" st_Desk_init f fd)
     :
    FnG P wd K mg base (L2.CX P wd) 1 f fd ["self"] (SpOf K FM0 sg_Desk_init fn_Desk_init) :=
  fn_ok F Sc_Desk_init rfl (.inl rfl) fun cdv A outer s H E hr => by
  have hu := hr65 hr
  have hu1 := hr1 hr
  have hg0 := hr.gd
  exact (sone_ (sfld_ T.cl_Desk T.no_Desk_webs (dct0_ .f) (pv_ 0 (.i "Desk"))))
abbrev st_want : Stmt := top 140
def sg_want : Sig := ⟨[(.f, false)], .f⟩
def mir_want : Mo (Option U) :=
  (ifM (notM (asBM (vM 0)))
    (raiseM "NoRow")
    (.pure none))
def fn_want : Fn := runF sg_want 0 mir_want
theorem Sc_want : FnScope [("good" : Str)] ["good"] (defScope st_want) := ⟨rfl, rfl, rfl, by decide +kernel, rfl, by decide +kernel, by decide +kernel⟩
theorem ok_want {K : PySem.W.Frag} {mg : Str → Option Value} {wd : World} (T : Tx K mg wd) {P : Program} {base : Heap} {f : Addr} {fd : FuncData} (F : Fun K "want" "want" st_want f fd)
     :
    FnG P wd K mg base (L2.CX P wd) 1 f fd ["good"] (SpOf K FM0 sg_want fn_want) :=
  fn_ok F Sc_want rfl (.inl rfl) fun cdv A outer s H E hr => by
  have hu := hr65 hr
  have hu1 := hr1 hr
  have hg0 := hr.gd
  exact (sone_ (sif_ (tnot_ (t_ (b_ (v_ 0))))
    (sdead_ nn_raise (sone_ (sraise_ (cn := "NoRow") rfl tk0 (mk_err T.e_NoRow))) [] [.f])
    (swk_ snil_ [] [.f])))
abbrev st_Desk_look_at_name : Stmt := inClass (top 151) 2
def sg_Desk_look_at_name : Sig := ⟨[((.i "Desk"), true), (.f, false)], .f⟩
def mir_Desk_look_at_name : Mo (Option U) :=
  (ifM (notM (asBM (callM fn_is_name [] (consM (vM 1) nilM))))
    (raiseM "NoName")
    (.pure none))
def fn_Desk_look_at_name : Fn := runF sg_Desk_look_at_name 0 mir_Desk_look_at_name
theorem Sc_Desk_look_at_name : FnScope [("self" : Str), ("name" : Str)] ["self", "name"] (defScope st_Desk_look_at_name) := ⟨rfl, rfl, rfl, by decide +kernel, rfl, by decide +kernel, by decide +kernel⟩
theorem ok_Desk_look_at_name {K : PySem.W.Frag} {mg : Str → Option Value} {wd : World} (T : Tx K mg wd) {P : Program} {base : Heap} {f : Addr} {fd : FuncData} (F : Fun K "look_at_name" "Desk.look_at_name" st_Desk_look_at_name f fd)
    {a_is_name : Addr} {fd_is_name : FuncData} (G_is_name : FnG P wd K mg base (L2.CX P wd) 1 a_is_name fd_is_name ["thing"] (SpOf K FM0 sg_is_name fn_is_name)) (m_is_name : mg "is_name" = some (Value.ref a_is_name)) (k_is_name : PySem.W.keepIn K (Value.ref a_is_name) = true) (B_is_name : Binds K fd_is_name ["thing"] []) :
    FnG P wd K mg base (L2.CX P wd) 2 f fd ["self", "name"] (SpOf K FM0 sg_Desk_look_at_name fn_Desk_look_at_name) :=
  fn_ok F Sc_Desk_look_at_name rfl (.inl rfl) fun cdv A outer s H E hr => by
  have hu := hr65 hr
  have hu1 := hr1 hr
  have hg0 := hr.gd
  exact (sone_ (sif_ (tnot_ (t_ (b_ (fn1_ tk0 G_is_name (hr.mono (by decide)) m_is_name k_is_name B_is_name (acons_ (v_ 1) anil_) []))))
    (sdead_ nn_raise (sone_ (sraise_ (cn := "NoName") rfl tk0 (mk_err T.e_NoName))) [] [(.i "Desk"), .f])
    (swk_ snil_ [] [(.i "Desk"), .f])))
abbrev st_Desk_said_web : Stmt := inClass (top 151) 3
def sg_Desk_said_web : Sig := ⟨[((.i "Desk"), true), (.f, false)], .f⟩
def mir_Desk_said_web : Mo (Option U) :=
  (seqM (tgM (sm1M uPartition (vM 1) (.pure (U.str " "))) (ttM (tgcM (setM 2) (tgcM (setM 3) (tgcM (setM 4) tgnM)))))
  (seqM (tgM (sm1M uPartition (vM 4) (.pure (U.str " "))) (ttM (tgcM (setM 5) (tgcM (setM 3) (tgcM (setM 6) tgnM)))))
  (seqM (exM (callM fn_want [] (consM (ofBM (andM (asBM (op2M uNe (vM 5) (.pure (U.str "")))) (asBM (op2M uNe (vM 6) (.pure (U.str "")))))) nilM)))
  (seqM (exM (callM fn_Desk_look_at_name [(0, 0, 0)] (recvM "Desk" "look_at_name" (vM 0) (consM (vM 5) nilM))))
  (seqM (tgM (callM fn_read_row [] (consM (vM 6) nilM)) (subM 0 (pfldM "Desk" "webs" 0 (.pure [])) (vM 5)))
  (retM (.pure (U.str "ok"))))))))
def fn_Desk_said_web : Fn := runF sg_Desk_said_web 5 mir_Desk_said_web
theorem Sc_Desk_said_web : FnScope [("self" : Str), ("row" : Str), ("verb" : Str), ("blank" : Str), ("rest" : Str), ("name" : Str), ("told" : Str)] ["self", "row"] (defScope st_Desk_said_web) := ⟨rfl, rfl, rfl, by decide +kernel, rfl, by decide +kernel, by decide +kernel⟩
theorem ok_Desk_said_web {K : PySem.W.Frag} {mg : Str → Option Value} {wd : World} (T : Tx K mg wd) {P : Program} {base : Heap} {f : Addr} {fd : FuncData} (F : Fun K "said_web" "Desk.said_web" st_Desk_said_web f fd)
    {a_want : Addr} {fd_want : FuncData} (G_want : FnG P wd K mg base (L2.CX P wd) 1 a_want fd_want ["good"] (SpOf K FM0 sg_want fn_want)) (m_want : mg "want" = some (Value.ref a_want)) (k_want : PySem.W.keepIn K (Value.ref a_want) = true) (B_want : Binds K fd_want ["good"] [])
    {a_Desk_look_at_name : Addr} {fd_Desk_look_at_name : FuncData} (G_Desk_look_at_name : FnG P wd K mg base (L2.CX P wd) 2 a_Desk_look_at_name fd_Desk_look_at_name ["self", "name"] (SpOf K FM0 sg_Desk_look_at_name fn_Desk_look_at_name)) (M_Desk_look_at_name : Meth K (clsAt K "Desk") "look_at_name" a_Desk_look_at_name) (B_Desk_look_at_name : Binds K fd_Desk_look_at_name ["self", "name"] [])
    {a_read_row : Addr} {fd_read_row : FuncData} (G_read_row : FnG P wd K mg base (L2.CX P wd) 6 a_read_row fd_read_row ["text"] (SpOf K FM0 sg_read_row fn_read_row)) (m_read_row : mg "read_row" = some (Value.ref a_read_row)) (k_read_row : PySem.W.keepIn K (Value.ref a_read_row) = true) (B_read_row : Binds K fd_read_row ["text"] []) :
    FnG P wd K mg base (L2.CX P wd) 7 f fd ["self", "row"] (SpOf K FM0 sg_Desk_said_web fn_Desk_said_web) :=
  fn_ok F Sc_Desk_said_web rfl (.inr fun us s' => (show NoNx mir_Desk_said_web from (nn_seq (nn_seq (nn_seq (nn_seq (nn_seq nn_ret)))))) us s') fun cdv A outer s H E hr => by
  have hu := hr65 hr
  have hu1 := hr1 hr
  have hg0 := hr.gd
  exact (scons_ (sasgT_ (partition_ (v_ 1) str_) (ttup_ rfl (tgc_ (tname_ 2 .f Sc_Desk_said_web.nd) (tgc_ (tname_ 3 .f Sc_Desk_said_web.nd) (tgc_ (tname_ 4 .f Sc_Desk_said_web.nd) tgn_)))))
  (scons_ (sasgT_ (partition_ (v_ 4) str_) (ttup_ rfl (tgc_ (tname_ 5 .f Sc_Desk_said_web.nd) (tgc_ (tname_ 3 .f Sc_Desk_said_web.nd) (tgc_ (tname_ 6 .f Sc_Desk_said_web.nd) tgn_)))))
  (scons_ (sexpr_ (fn1_ tk0 G_want (hr.mono (by decide)) m_want k_want B_want (acons_ (ofb_ (band_ (b_ (cmp_ (op_neD hr.units) pr_ne pl_ne (v_ 5) str_)) (bone_ (b_ (cmp_ (op_neD hr.units) pr_ne pl_ne (v_ 6) str_))))) anil_) []))
  (scons_ (sexpr_ (me1_ tk0 T.cl_Desk M_Desk_look_at_name G_Desk_look_at_name (hr.mono (by decide)) B_Desk_look_at_name (w_ 0 (.i "Desk")) (acons_ (v_ 5) anil_) [(0, 0, 0)]))
  (scons_ (sasgT_ (fn1_ tk0 G_read_row (hr.mono (by decide)) m_read_row k_read_row B_read_row (acons_ (v_ 6) anil_) []) (tdput_ hu1 (pfld_ T.cl_Desk T.no_Desk_webs (pv_ 0 (.i "Desk"))) (v_ 5)))
  (sone_ (sret_ str_)))))))
abbrev st_told_of : Stmt := top 143
def sg_told_of : Sig := ⟨[(.f, false), (.f, false)], .f⟩
def mir_told_of : Mo (Option U) :=
  (seqM (ifM (asBM (op2M uEq (vM 0) (.pure (U.str "number"))))
    offM
    (.pure none))
  (seqM (ifM (asBM (op2M uEq (vM 0) (.pure (U.str "cut"))))
    offM
    (.pure none))
  (retM (vM 1))))
def fn_told_of : Fn := runF sg_told_of 0 mir_told_of
theorem Sc_told_of : FnScope [("sort" : Str), ("word" : Str)] ["sort", "word"] (defScope st_told_of) := ⟨rfl, rfl, rfl, by decide +kernel, rfl, by decide +kernel, by decide +kernel⟩
theorem ok_told_of {K : PySem.W.Frag} {mg : Str → Option Value} {wd : World} (T : Tx K mg wd) {P : Program} {base : Heap} {f : Addr} {fd : FuncData} (F : Fun K "told_of" "told_of" st_told_of f fd)
     :
    FnG P wd K mg base (L2.CX P wd) 1 f fd ["sort", "word"] (SpOf K FM0 sg_told_of fn_told_of) :=
  fn_ok F Sc_told_of rfl (.inr fun us s' => (show NoNx mir_told_of from (nn_seq (nn_seq nn_ret))) us s') fun cdv A outer s H E hr => by
  have hu := hr65 hr
  have hu1 := hr1 hr
  have hg0 := hr.gd
  exact (scons_ (sif_ (tcmp_ (op_eqD hr.units) pr_eq pl_eq (v_ 0) (glob_ T.c_NUMBER fun _ => .str _ (by decide +kernel)))
    (sdead_ nn_off (sone_ soff_) [] [.f, .f])
    (swk_ snil_ [] [.f, .f]))
  (scons_ (sif_ (tcmp_ (op_eqD hr.units) pr_eq pl_eq (v_ 0) (glob_ T.c_CUT fun _ => .str _ (by decide +kernel)))
    (sdead_ nn_off (sone_ soff_) [] [.f, .f])
    (swk_ snil_ [] [.f, .f]))
  (sone_ (sret_ (v_ 1)))))
abbrev st_parts_of_desk : Stmt := top 144
def sg_parts_of_desk : Sig := ⟨[(.f, false), (.f, false)], .f⟩
def mir_parts_of_desk : Mo (Option U) :=
  (seqM (asgM 2 (lstM nilM))
  (seqM (forM' (enTM (vM 0)) (ttM (tgcM (setM 3) (tgcM (setM 4) tgnM)))
    (seqM (ifM (asBM (op2M uEq (vM 4) (.pure (U.str "numbers"))))
      (seqM offM
      (retM (vM 2)))
      (.pure none))
    (seqM (exM (callM fn_want [] (consM (op2M uLt (vM 3) (op1M uLen (vM 1))) nilM)))
    (exM (mutM 2 (.pure []) (consM (callM fn_told_of [] (consM (vM 4) (consM (op2M uIdx (vM 1) (vM 3)) nilM))) nilM) uAppend)))))
  (seqM (exM (callM fn_want [] (consM (op2M uEq (op1M uLen (vM 1)) (op1M uLen (vM 0))) nilM)))
  (retM (vM 2)))))
def fn_parts_of_desk : Fn := runF sg_parts_of_desk 4 mir_parts_of_desk
theorem Sc_parts_of_desk : FnScope [("form" : Str), ("words" : Str), ("found" : Str), ("k" : Str), ("sort" : Str), ("word" : Str)] ["form", "words"] (defScope st_parts_of_desk) := ⟨rfl, rfl, rfl, by decide +kernel, rfl, by decide +kernel, by decide +kernel⟩
theorem ok_parts_of_desk {K : PySem.W.Frag} {mg : Str → Option Value} {wd : World} (T : Tx K mg wd) {P : Program} {base : Heap} {f : Addr} {fd : FuncData} (F : Fun K "parts_of" "parts_of" st_parts_of_desk f fd)
    {a_want : Addr} {fd_want : FuncData} (G_want : FnG P wd K mg base (L2.CX P wd) 1 a_want fd_want ["good"] (SpOf K FM0 sg_want fn_want)) (m_want : mg "want" = some (Value.ref a_want)) (k_want : PySem.W.keepIn K (Value.ref a_want) = true) (B_want : Binds K fd_want ["good"] [])
    {a_told_of : Addr} {fd_told_of : FuncData} (G_told_of : FnG P wd K mg base (L2.CX P wd) 1 a_told_of fd_told_of ["sort", "word"] (SpOf K FM0 sg_told_of fn_told_of)) (m_told_of : mg "told_of" = some (Value.ref a_told_of)) (k_told_of : PySem.W.keepIn K (Value.ref a_told_of) = true) (B_told_of : Binds K fd_told_of ["sort", "word"] []) :
    FnG P wd K mg base (L2.CX P wd) 2 f fd ["form", "words"] (SpOf K FM0 sg_parts_of_desk fn_parts_of_desk) :=
  fn_ok F Sc_parts_of_desk rfl (.inr fun us s' => (show NoNx mir_parts_of_desk from (nn_seq (nn_seq (nn_seq nn_ret)))) us s') fun cdv A outer s H E hr => by
  have hu := hr65 hr
  have hu1 := hr1 hr
  have hg0 := hr.gd
  exact (scons_ (sasg_ 2 (lst_ .f anil_) Sc_parts_of_desk.nd)
  (scons_ (sfor_ [.f, .f, (.l .f), .n, .n, .n] cx_po rfl (kenumT_ T.n_enumerate (v_ 0)) (ttup_ rfl (tgc_ (tname_ 3 .f Sc_parts_of_desk.nd) (tgc_ (tname_ 4 .f Sc_parts_of_desk.nd) tgn_)))
    (swk_ (scons_ (sif_ (tcmp_ (op_eqD hr.units) pr_eq pl_eq (v_ 4) (glob_ T.c_NUMBERS fun _ => .str _ (by decide +kernel)))
      (sdead_ (nn_seq nn_ret) (scons_ soff_
      (sfrz_ 2 (sone_ (sret_ (v_ 2))))) [2] [.f, .f, (.l .f), .f, .f, .n])
      (swk_ snil_ [] [.f, .f, (.l .f), .f, .f, .n]))
    (scons_ (sexpr_ (fn1_ tk0 G_want (hr.mono (by decide)) m_want k_want B_want (acons_ (cmp_ op_ltU pr_lt pl_lt (v_ 3) (c1A_ (bcB call_len T.n_len bt_len) pr_len pl_len (v_ 1))) anil_) []))
    (sone_ (sexpr_ (mut_ r_append mu_append tk_append (pv_ 2 (.l .f)) (acons_ (fn1_ tk0 G_told_of (hr.mono (by decide)) m_told_of k_told_of B_told_of (acons_ (v_ 4) (acons_ (ixs_ ix_seq pr_idx (v_ 1) (v_ 3)) anil_)) []) anil_)))))) [2, 3, 4] [.f, .f, (.l .f), .n, .n, .n]))
  (sfrz_ 2 (scons_ (sexpr_ (fn1_ tk0 G_want (hr.mono (by decide)) m_want k_want B_want (acons_ (cmp_ (op_eqD hr.units) pr_eq pl_eq (c1A_ (bcB call_len T.n_len bt_len) pr_len pl_len (v_ 1)) (c1A_ (bcB call_len T.n_len bt_len) pr_len pl_len (v_ 0))) anil_) []))
  (sone_ (sret_ (v_ 2)))))))
abbrev st_Desk_web_by : Stmt := inClass (top 151) 1
def sg_Desk_web_by : Sig := ⟨[((.i "Desk"), true), (.f, false)], .f⟩
def mir_Desk_web_by : Mo (Option U) :=
  (seqM (ifM (asBM (op2M uDNotIn (vM 1) (rdM 0 (pfldM "Desk" "webs" 0 (.pure [])))))
    (raiseM "NoName")
    (.pure none))
  (retM (rdM 0 (pixM 0 (pfldM "Desk" "webs" 0 (.pure [])) ((vM 1)) false))))
def fn_Desk_web_by : Fn := runF sg_Desk_web_by 0 mir_Desk_web_by
theorem Sc_Desk_web_by : FnScope [("self" : Str), ("name" : Str)] ["self", "name"] (defScope st_Desk_web_by) := ⟨rfl, rfl, rfl, by decide +kernel, rfl, by decide +kernel, by decide +kernel⟩
theorem ok_Desk_web_by {K : PySem.W.Frag} {mg : Str → Option Value} {wd : World} (T : Tx K mg wd) {P : Program} {base : Heap} {f : Addr} {fd : FuncData} (F : Fun K "web_by" "Desk.web_by" st_Desk_web_by f fd)
     :
    FnG P wd K mg base (L2.CX P wd) 1 f fd ["self", "name"] (SpOf K FM0 sg_Desk_web_by fn_Desk_web_by) :=
  fn_ok F Sc_Desk_web_by rfl (.inr fun us s' => (show NoNx mir_Desk_web_by from (nn_seq nn_ret)) us s') fun cdv A outer s H E hr => by
  have hu := hr65 hr
  have hu1 := hr1 hr
  have hg0 := hr.gd
  exact (scons_ (sif_ (tdnotin_ hu1 (v_ 1) (rd_ (pfld_ T.cl_Desk T.no_Desk_webs (pv_ 0 (.i "Desk")))))
    (sdead_ nn_raise (sone_ (sraise_ (cn := "NoName") rfl tk0 (mk_err T.e_NoName))) [] [(.i "Desk"), .f])
    (swk_ snil_ [] [(.i "Desk"), .f]))
  (sone_ (sret_ (frd_ (rd_ (pkey_ (k1 := .f) hu1 (pfld_ T.cl_Desk T.no_Desk_webs (pv_ 0 (.i "Desk"))) (v_ 1) (by intro _ _; rfl)))))))
abbrev st_asked_of_ways : Stmt := top 148
def sg_asked_of_ways : Sig := ⟨[(.f, false), (.f, false), (.f, false)], .f⟩
def mir_asked_of_ways : Mo (Option U) :=
  (seqM (ifM (asBM (op2M uEq (vM 0) (.pure (U.str "text"))))
    (retM (callM fn_show_web [] (consM (vM 1) nilM)))
    (.pure none))
  (seqM (ifM (asBM (op2M uEq (vM 0) (.pure (U.str "reach"))))
    offM
    (.pure none))
  (seqM (ifM (asBM (op2M uEq (vM 0) (.pure (U.str "way"))))
    offM
    (.pure none))
  (seqM (ifM (asBM (op2M uEq (vM 0) (.pure (U.str "cuts"))))
    offM
    (.pure none))
  (seqM (ifM (asBM (op2M uEq (vM 0) (.pure (U.str "least"))))
    offM
    (.pure none))
  offM)))))
def fn_asked_of_ways : Fn := runF sg_asked_of_ways 0 mir_asked_of_ways
theorem Sc_asked_of_ways : FnScope [("verb" : Str), ("web" : Str), ("rest" : Str)] ["verb", "web", "rest"] (defScope st_asked_of_ways) := ⟨rfl, rfl, rfl, by decide +kernel, rfl, by decide +kernel, by decide +kernel⟩
theorem ok_asked_of_ways {K : PySem.W.Frag} {mg : Str → Option Value} {wd : World} (T : Tx K mg wd) {P : Program} {base : Heap} {f : Addr} {fd : FuncData} (F : Fun K "asked_of_ways" "asked_of_ways" st_asked_of_ways f fd)
    {a_show_web : Addr} {fd_show_web : FuncData} (G_show_web : FnG P wd K mg base (L2.CX P wd) 3 a_show_web fd_show_web ["web"] (SpOf K FM0 sg_show_web fn_show_web)) (m_show_web : mg "show_web" = some (Value.ref a_show_web)) (k_show_web : PySem.W.keepIn K (Value.ref a_show_web) = true) (B_show_web : Binds K fd_show_web ["web"] []) :
    FnG P wd K mg base (L2.CX P wd) 4 f fd ["verb", "web", "rest"] (SpOf K FM0 sg_asked_of_ways fn_asked_of_ways) :=
  fn_ok F Sc_asked_of_ways rfl (.inr fun us s' => (show NoNx mir_asked_of_ways from (nn_seq (nn_seq (nn_seq (nn_seq (nn_seq nn_off)))))) us s') fun cdv A outer s H E hr => by
  have hu := hr65 hr
  have hu1 := hr1 hr
  have hg0 := hr.gd
  exact (scons_ (sif_ (tcmp_ (op_eqD hr.units) pr_eq pl_eq (v_ 0) str_)
    (sdead_ nn_ret (sone_ (sret_ (fn1_ tk0 G_show_web (hr.mono (by decide)) m_show_web k_show_web B_show_web (acons_ (v_ 1) anil_) []))) [] [.f, .f, .f])
    (swk_ snil_ [] [.f, .f, .f]))
  (scons_ (sif_ (tcmp_ (op_eqD hr.units) pr_eq pl_eq (v_ 0) str_)
    (sdead_ nn_off (sone_ soff_) [] [.f, .f, .f])
    (swk_ snil_ [] [.f, .f, .f]))
  (scons_ (sif_ (tcmp_ (op_eqD hr.units) pr_eq pl_eq (v_ 0) str_)
    (sdead_ nn_off (sone_ soff_) [] [.f, .f, .f])
    (swk_ snil_ [] [.f, .f, .f]))
  (scons_ (sif_ (tcmp_ (op_eqD hr.units) pr_eq pl_eq (v_ 0) str_)
    (sdead_ nn_off (sone_ soff_) [] [.f, .f, .f])
    (swk_ snil_ [] [.f, .f, .f]))
  (scons_ (sif_ (tcmp_ (op_eqD hr.units) pr_eq pl_eq (v_ 0) str_)
    (sdead_ nn_off (sone_ soff_) [] [.f, .f, .f])
    (swk_ snil_ [] [.f, .f, .f]))
  (sone_ soff_))))))
abbrev st_Desk_say : Stmt := inClass (top 151) 5
def sg_Desk_say : Sig := ⟨[((.i "Desk"), true), (.f, false)], .f⟩
def mir_Desk_say : Mo (Option U) :=
  (seqM (exM (callM fn_want [] (consM (op1M (uIsi "str") (vM 1)) nilM)))
  (seqM (asgM 2 (sm1M uSplit (vM 1) (.pure (U.str " "))))
  (seqM (ifM (asBM (op2M uEq (op2M uIdx (vM 2) (.pure (U.int 0))) (.pure (U.str "web"))))
    (retM (callM fn_Desk_said_web [(0, 0, 0)] (recvM "Desk" "said_web" (vM 0) (consM (vM 1) nilM))))
    (.pure none))
  (seqM (exM (callM fn_want [] (consM (ofBM (andM (asBM (op2M (uInF "FORMS" tab_FORMS) (op2M uIdx (vM 2) (.pure (U.int 0))) (.pure (U.fn "FORMS")))) (asBM (op2M uNotIn (.pure (U.str "")) (vM 2))))) nilM)))
  (seqM (asgM 3 (op2M (uIxF "FORMS" tab_FORMS) (.pure (U.fn "FORMS")) (op2M uIdx (vM 2) (.pure (U.int 0)))))
  (seqM (asgM 4 (callM fn_parts_of_desk [] (consM (vM 3) (consM (slM (vM 2) (ptM (.pure (U.int 1))) (.pure none)) nilM))))
  (seqM (exM (callM fn_want [] (consM (ofBM (orM (asBM (op2M uNotIn (op2M uIdx (vM 2) (.pure (U.int 0))) (tupM (consM (.pure (U.str "draw")) (consM (.pure (U.str "turn")) nilM))))) (asBM (op2M uNe (op2M uIdx (vM 4) (.pure (U.int 2))) (lstM nilM))))) nilM)))
  (seqM (exM (callM fn_want [] (consM (ofBM (orM (asBM (op2M uNe (op2M uIdx (vM 2) (.pure (U.int 0))) (.pure (U.str "times")))) (asBM (op2M uGt (op2M uIdx (vM 4) (.pure (U.int 1))) (.pure (U.int 0)))))) nilM)))
  (seqM (ifM (asBM (op2M uEq (op2M uIdx (vM 3) (.pure (U.int 0))) (.pure (U.str "new"))))
    offM
    (.pure none))
  (seqM (asgM 5 (callM fn_Desk_web_by [(0, 0, 0)] (recvM "Desk" "web_by" (vM 0) (consM (op2M uIdx (vM 4) (.pure (U.int 0))) nilM))))
  (seqM (ifM (asBM (op2M uIn (op2M uIdx (vM 2) (.pure (U.int 0))) (tupM (consM (.pure (U.str "text")) (consM (.pure (U.str "reach")) (consM (.pure (U.str "way")) (consM (.pure (U.str "cuts")) (consM (.pure (U.str "least")) (consM (.pure (U.str "bare")) nilM)))))))))
    (retM (callM fn_asked_of_ways [] (consM (op2M uIdx (vM 2) (.pure (U.int 0))) (consM (vM 5) (consM (slM (vM 4) (ptM (.pure (U.int 1))) (.pure none)) nilM)))))
    (.pure none))
  offM)))))))))))
def fn_Desk_say : Fn := runF sg_Desk_say 4 mir_Desk_say
theorem Sc_Desk_say : FnScope [("self" : Str), ("row" : Str), ("words" : Str), ("form" : Str), ("parts" : Str), ("web" : Str)] ["self", "row"] (defScope st_Desk_say) := ⟨rfl, rfl, rfl, by decide +kernel, rfl, by decide +kernel, by decide +kernel⟩
theorem ok_Desk_say {K : PySem.W.Frag} {mg : Str → Option Value} {wd : World} (T : Tx K mg wd) {P : Program} {base : Heap} {f : Addr} {fd : FuncData} (F : Fun K "say" "Desk.say" st_Desk_say f fd)
    {a_want : Addr} {fd_want : FuncData} (G_want : FnG P wd K mg base (L2.CX P wd) 1 a_want fd_want ["good"] (SpOf K FM0 sg_want fn_want)) (m_want : mg "want" = some (Value.ref a_want)) (k_want : PySem.W.keepIn K (Value.ref a_want) = true) (B_want : Binds K fd_want ["good"] [])
    {a_Desk_said_web : Addr} {fd_Desk_said_web : FuncData} (G_Desk_said_web : FnG P wd K mg base (L2.CX P wd) 7 a_Desk_said_web fd_Desk_said_web ["self", "row"] (SpOf K FM0 sg_Desk_said_web fn_Desk_said_web)) (M_Desk_said_web : Meth K (clsAt K "Desk") "said_web" a_Desk_said_web) (B_Desk_said_web : Binds K fd_Desk_said_web ["self", "row"] [])
    {a_parts_of_desk : Addr} {fd_parts_of_desk : FuncData} (G_parts_of_desk : FnG P wd K mg base (L2.CX P wd) 2 a_parts_of_desk fd_parts_of_desk ["form", "words"] (SpOf K FM0 sg_parts_of_desk fn_parts_of_desk)) (m_parts_of_desk : mg "parts_of_desk" = some (Value.ref a_parts_of_desk)) (k_parts_of_desk : PySem.W.keepIn K (Value.ref a_parts_of_desk) = true) (B_parts_of_desk : Binds K fd_parts_of_desk ["form", "words"] [])
    {a_Desk_web_by : Addr} {fd_Desk_web_by : FuncData} (G_Desk_web_by : FnG P wd K mg base (L2.CX P wd) 1 a_Desk_web_by fd_Desk_web_by ["self", "name"] (SpOf K FM0 sg_Desk_web_by fn_Desk_web_by)) (M_Desk_web_by : Meth K (clsAt K "Desk") "web_by" a_Desk_web_by) (B_Desk_web_by : Binds K fd_Desk_web_by ["self", "name"] [])
    {a_asked_of_ways : Addr} {fd_asked_of_ways : FuncData} (G_asked_of_ways : FnG P wd K mg base (L2.CX P wd) 4 a_asked_of_ways fd_asked_of_ways ["verb", "web", "rest"] (SpOf K FM0 sg_asked_of_ways fn_asked_of_ways)) (m_asked_of_ways : mg "asked_of_ways" = some (Value.ref a_asked_of_ways)) (k_asked_of_ways : PySem.W.keepIn K (Value.ref a_asked_of_ways) = true) (B_asked_of_ways : Binds K fd_asked_of_ways ["verb", "web", "rest"] []) :
    FnG P wd K mg base (L2.CX P wd) 8 f fd ["self", "row"] (SpOf K FM0 sg_Desk_say fn_Desk_say) :=
  fn_ok F Sc_Desk_say rfl (.inr fun us s' => (show NoNx mir_Desk_say from (nn_seq (nn_seq (nn_seq (nn_seq (nn_seq (nn_seq (nn_seq (nn_seq (nn_seq (nn_seq (nn_seq nn_off)))))))))))) us s') fun cdv A outer s H E hr => by
  have hu := hr65 hr
  have hu1 := hr1 hr
  have hg0 := hr.gd
  exact (scons_ (sexpr_ (fn1_ tk0 G_want (hr.mono (by decide)) m_want k_want B_want (acons_ (isi_ (v_ 1) T.n_isinstance T.n_str bt_str) anil_) []))
  (scons_ (sasg_ 2 (fz_ (split_ (v_ 1) str_)) Sc_Desk_say.nd)
  (scons_ (sif_ (tcmp_ (op_eqD hr.units) pr_eq pl_eq (ixs_ ix_seq pr_idx (v_ 2) int_) str_)
    (sdead_ nn_ret (sone_ (sret_ (me1_ tk0 T.cl_Desk M_Desk_said_web G_Desk_said_web (hr.mono (by decide)) B_Desk_said_web (w_ 0 (.i "Desk")) (acons_ (v_ 1) anil_) [(0, 0, 0)]))) [0] [(.i "Desk"), .f, .f, .n, .n, .n])
    (swk_ snil_ [] [(.i "Desk"), .f, .f, .n, .n, .n]))
  (scons_ (sexpr_ (fn1_ tk0 G_want (hr.mono (by decide)) m_want k_want B_want (acons_ (ofb_ (band_ (b_ (inF_ T.d_FORMS (ixs_ ix_seq pr_idx (v_ 2) int_) (gfn_ T.fv_FORMS rfl))) (bone_ (b_ (cmp_ (op_notInU hu) pr_notIn pl_notIn str_ (v_ 2)))))) anil_) []))
  (scons_ (sasg_ 3 (ixs_ ix_kdict (pr_ixF T.d_FORMS) (gfn_ T.fv_FORMS rfl) (ixs_ ix_seq pr_idx (v_ 2) int_)) Sc_Desk_say.nd)
  (scons_ (sasg_ 4 (fn1_ tk0 G_parts_of_desk (hr.mono (by decide)) m_parts_of_desk k_parts_of_desk B_parts_of_desk (acons_ (v_ 3) (acons_ (sl_ (v_ 2) (pts_ int_) ptn_) anil_)) []) Sc_Desk_say.nd)
  (scons_ (sexpr_ (fn1_ tk0 G_want (hr.mono (by decide)) m_want k_want B_want (acons_ (ofb_ (bor_ (b_ (cmp_ (op_notInU hu) pr_notIn pl_notIn (ixs_ ix_seq pr_idx (v_ 2) int_) (tup_ (acons_ str_ (acons_ str_ anil_))))) (bone_ (b_ (cmp_ (op_neD hr.units) pr_ne pl_ne (ixs_ ix_seq pr_idx (v_ 4) int_) (lst_ .f anil_)))))) anil_) []))
  (scons_ (sexpr_ (fn1_ tk0 G_want (hr.mono (by decide)) m_want k_want B_want (acons_ (ofb_ (bor_ (b_ (cmp_ (op_neD hr.units) pr_ne pl_ne (ixs_ ix_seq pr_idx (v_ 2) int_) str_)) (bone_ (b_ (cmp_ op_gtU pr_gt pl_gt (ixs_ ix_seq pr_idx (v_ 4) int_) int_))))) anil_) []))
  (scons_ (sif_ (tcmp_ (op_eqD hr.units) pr_eq pl_eq (ixs_ ix_seq pr_idx (v_ 3) int_) (glob_ T.c_NEW fun _ => .str _ (by decide +kernel)))
    (sdead_ nn_off (sone_ soff_) [] [(.i "Desk"), .f, .f, .f, .f, .n])
    (swk_ snil_ [] [(.i "Desk"), .f, .f, .f, .f, .n]))
  (scons_ (sasg_ 5 (me1_ tk0 T.cl_Desk M_Desk_web_by G_Desk_web_by (hr.mono (by decide)) B_Desk_web_by (w_ 0 (.i "Desk")) (acons_ (ixs_ ix_seq pr_idx (v_ 4) int_) anil_) [(0, 0, 0)]) Sc_Desk_say.nd)
  (scons_ (sif_ (tcmp_ (op_inU hu) pr_in pl_in (ixs_ ix_seq pr_idx (v_ 2) int_) (tup_ (acons_ str_ (acons_ str_ (acons_ str_ (acons_ str_ (acons_ str_ (acons_ str_ anil_))))))))
    (sdead_ nn_ret (sone_ (sret_ (fn1_ tk0 G_asked_of_ways (hr.mono (by decide)) m_asked_of_ways k_asked_of_ways B_asked_of_ways (acons_ (ixs_ ix_seq pr_idx (v_ 2) int_) (acons_ (v_ 5) (acons_ (sl_ (v_ 4) (pts_ int_) ptn_) anil_))) []))) [] [(.i "Desk"), .f, .f, .f, .f, .f])
    (swk_ snil_ [] [(.i "Desk"), .f, .f, .f, .f, .f]))
  (sone_ soff_))))))))))))
abbrev st_law : Stmt := top 159
def sg_law : Sig := ⟨[(.f, false)], .f⟩
def mir_law : Mo (Option U) :=
  (seqM (forM' (rngM (.pure (.int 0)) (op2M uMax2 (.pure (U.int 1)) (op2M uMin2 (op1M uLen (vM 0)) (.pure (U.int 8))))) (setM 1)
    (seqM (asgM 2 (callM fn__law_pot_at [] (consM (vM 0) (consM (vM 1) nilM))))
    (seqM (tgM (callM fn__law_drawn [(0, 0, 2)] (consM (vM 2) nilM)) (ttM (tgcM (setM 3) (tgcM (setM 4) tgnM))))
    (seqM (asgM 5 (callM fn__law_written [] (consM (vM 3) (consM (vM 4) nilM))))
    (seqM (ifM (asBM (op2M uNe (callM fn_show_web [] (permM [0] (consM (mkM "Web" fn_Web_init (consM (vM 3) (consM (vM 4) nilM))) nilM))) (vM 5)))
      (retM (.pure (U.bool false)))
      (.pure none))
    (seqM (asgM 6 (callM fn_read_row [] (permM [0] (consM (vM 5) nilM))))
    (seqM (ifM (orM (asBM (op2M uNe (callM fn_Web_places [] (recvM "Web" "places" (vM 6) nilM)) (vM 3))) (orM (asBM (op2M uNe (callM fn_Web_ties [] (recvM "Web" "ties" (vM 6) nilM)) (vM 4))) (notM (asBM (callM fn__law_shown_right [(0, 0, 2)] (consM (vM 2) (consM (vM 3) nilM)))))))
      (retM (.pure (U.bool false)))
      (.pure none))
    (seqM (asgM 7 (mkM "Desk" fn_Desk_init nilM))
    (ifM (orM (asBM (op2M uNe (callM fn_Desk_say [(0, 0, 7)] (recvM "Desk" "say" (vM 7) (permM [0] (consM (op2M uAdd (op2M uAdd (op2M uAdd (.pure (U.str "web ")) (op2M uIdx (vM 3) (.pure (U.int 0)))) (.pure (U.str " "))) (vM 5)) nilM)))) (.pure (U.str "ok")))) (asBM (op2M uNe (callM fn_Desk_say [(0, 0, 7)] (recvM "Desk" "say" (vM 7) (permM [0] (consM (op2M uAdd (.pure (U.str "text ")) (op2M uIdx (vM 3) (.pure (U.int 0)))) nilM)))) (vM 5))))
      (retM (.pure (U.bool false)))
      (.pure none))))))))))
  (retM (.pure (U.bool true))))
def fn_law : Fn := runF sg_law 7 mir_law
theorem Sc_law : FnScope [("_law_script" : Str), ("_law_k" : Str), ("_law_pot" : Str), ("_law_names" : Str), ("_law_pairs" : Str), ("_law_due" : Str), ("_law_told" : Str), ("_law_desk" : Str)] ["_law_script"] (defScope st_law) := ⟨rfl, rfl, rfl, by decide +kernel, rfl, by decide +kernel, by decide +kernel⟩
theorem ok_law {K : PySem.W.Frag} {mg : Str → Option Value} {wd : World} (T : Tx K mg wd) {P : Program} {base : Heap} {f : Addr} {fd : FuncData} (F : Fun K "law" "law" st_law f fd)
    {a__law_pot_at : Addr} {fd__law_pot_at : FuncData} (G__law_pot_at : FnG P wd K mg base (L2.CX P wd) 1 a__law_pot_at fd__law_pot_at ["_law_script", "_law_k"] (SpOf K FM0 sg__law_pot_at fn__law_pot_at)) (m__law_pot_at : mg "_law_pot_at" = some (Value.ref a__law_pot_at)) (k__law_pot_at : PySem.W.keepIn K (Value.ref a__law_pot_at) = true) (B__law_pot_at : Binds K fd__law_pot_at ["_law_script", "_law_k"] [])
    {a__law_drawn : Addr} {fd__law_drawn : FuncData} (G__law_drawn : FnG P wd K mg base (L2.CX P wd) 3 a__law_drawn fd__law_drawn ["_law_pot"] (SpOf K FM0 sg__law_drawn fn__law_drawn)) (m__law_drawn : mg "_law_drawn" = some (Value.ref a__law_drawn)) (k__law_drawn : PySem.W.keepIn K (Value.ref a__law_drawn) = true) (B__law_drawn : Binds K fd__law_drawn ["_law_pot"] [])
    {a__law_written : Addr} {fd__law_written : FuncData} (G__law_written : FnG P wd K mg base (L2.CX P wd) 1 a__law_written fd__law_written ["_law_names", "_law_pairs"] (SpOf K FM0 sg__law_written fn__law_written)) (m__law_written : mg "_law_written" = some (Value.ref a__law_written)) (k__law_written : PySem.W.keepIn K (Value.ref a__law_written) = true) (B__law_written : Binds K fd__law_written ["_law_names", "_law_pairs"] [])
    {a_Web_init : Addr} {fd_Web_init : FuncData} (G_Web_init : FnG P wd K mg base (L2.CX P wd) 3 a_Web_init fd_Web_init ["self", "places", "ties"] (SpOf K FM0 sg_Web_init fn_Web_init)) (MK_Web_init : L2.Mk K (clsAt K "Web") a_Web_init) (B_Web_init : Binds K fd_Web_init ["self", "places", "ties"] [])
    {a_show_web : Addr} {fd_show_web : FuncData} (G_show_web : FnG P wd K mg base (L2.CX P wd) 3 a_show_web fd_show_web ["web"] (SpOf K FM0 sg_show_web fn_show_web)) (m_show_web : mg "show_web" = some (Value.ref a_show_web)) (k_show_web : PySem.W.keepIn K (Value.ref a_show_web) = true) (B_show_web : Binds K fd_show_web ["web"] []) (KB_show_web_0_web : KwB K fd_show_web ["web"] 0 ["web"] [0])
    {a_read_row : Addr} {fd_read_row : FuncData} (G_read_row : FnG P wd K mg base (L2.CX P wd) 6 a_read_row fd_read_row ["text"] (SpOf K FM0 sg_read_row fn_read_row)) (m_read_row : mg "read_row" = some (Value.ref a_read_row)) (k_read_row : PySem.W.keepIn K (Value.ref a_read_row) = true) (B_read_row : Binds K fd_read_row ["text"] []) (KB_read_row_0_text : KwB K fd_read_row ["text"] 0 ["text"] [0])
    {a_Web_places : Addr} {fd_Web_places : FuncData} (G_Web_places : FnG P wd K mg base (L2.CX P wd) 1 a_Web_places fd_Web_places ["self"] (SpOf K FM0 sg_Web_places fn_Web_places)) (M_Web_places : Meth K (clsAt K "Web") "places" a_Web_places) (B_Web_places : Binds K fd_Web_places ["self"] [])
    {a_Web_ties : Addr} {fd_Web_ties : FuncData} (G_Web_ties : FnG P wd K mg base (L2.CX P wd) 1 a_Web_ties fd_Web_ties ["self"] (SpOf K FM0 sg_Web_ties fn_Web_ties)) (M_Web_ties : Meth K (clsAt K "Web") "ties" a_Web_ties) (B_Web_ties : Binds K fd_Web_ties ["self"] [])
    {a__law_shown_right : Addr} {fd__law_shown_right : FuncData} (G__law_shown_right : FnG P wd K mg base (L2.CX P wd) 4 a__law_shown_right fd__law_shown_right ["_law_pot", "_law_names"] (SpOf K FM0 sg__law_shown_right fn__law_shown_right)) (m__law_shown_right : mg "_law_shown_right" = some (Value.ref a__law_shown_right)) (k__law_shown_right : PySem.W.keepIn K (Value.ref a__law_shown_right) = true) (B__law_shown_right : Binds K fd__law_shown_right ["_law_pot", "_law_names"] [])
    {a_Desk_init : Addr} {fd_Desk_init : FuncData} (G_Desk_init : FnG P wd K mg base (L2.CX P wd) 1 a_Desk_init fd_Desk_init ["self"] (SpOf K FM0 sg_Desk_init fn_Desk_init)) (MK_Desk_init : L2.Mk K (clsAt K "Desk") a_Desk_init) (B_Desk_init : Binds K fd_Desk_init ["self"] [])
    {a_Desk_say : Addr} {fd_Desk_say : FuncData} (G_Desk_say : FnG P wd K mg base (L2.CX P wd) 8 a_Desk_say fd_Desk_say ["self", "row"] (SpOf K FM0 sg_Desk_say fn_Desk_say)) (M_Desk_say : Meth K (clsAt K "Desk") "say" a_Desk_say) (B_Desk_say : Binds K fd_Desk_say ["self", "row"] []) (KB_Desk_say_1_row : KwB K fd_Desk_say ["self", "row"] 1 ["row"] [0, 0]) :
    FnG P wd K mg base (L2.CX P wd) 9 f fd ["_law_script"] (SpOf K FM0 sg_law fn_law) :=
  fn_ok F Sc_law rfl (.inr fun us s' => (show NoNx mir_law from (nn_seq nn_ret)) us s') fun cdv A outer s H E hr => by
  have hu := hr65 hr
  have hu1 := hr1 hr
  have hg0 := hr.gd
  exact (scons_ (sfor_ [.f, .n, .n, .n, .n, .n, .n, .n] cx_po rfl (krange1_ T.n_range (c2_ (bcB (call_max2 rfl) T.n_max bt_max) pr_max2 int_ (c2_ (bcB (call_min2 rfl) T.n_min bt_min) pr_min2 (c1A_ (bcB call_len T.n_len bt_len) pr_len pl_len (v_ 0)) int_))) (tname_ 1 .f Sc_law.nd)
    (swk_ (scons_ (sasg_ 2 (fn1_ tk0 G__law_pot_at (hr.mono (by decide)) m__law_pot_at k__law_pot_at B__law_pot_at (acons_ (v_ 0) (acons_ (v_ 1) anil_)) []) Sc_law.nd)
    (scons_ (sasgT_ (fn1_ tk0 G__law_drawn (hr.mono (by decide)) m__law_drawn k__law_drawn B__law_drawn (acons_ (w_ 2 (.l .f)) anil_) [(0, 0, 2)]) (ttup_ rfl (tgc_ (tname_ 3 .f Sc_law.nd) (tgc_ (tname_ 4 .f Sc_law.nd) tgn_))))
    (scons_ (sasg_ 5 (fn1_ tk0 G__law_written (hr.mono (by decide)) m__law_written k__law_written B__law_written (acons_ (v_ 3) (acons_ (v_ 4) anil_)) []) Sc_law.nd)
    (scons_ (sif_ (tcmp_ (op_neD hr.units) pr_ne pl_ne (fnk0_ [0] tk0 G_show_web (hr.mono (by decide)) m_show_web k_show_web KB_show_web_0_web (kcons_ (fz_ (mk1_ tk0 MK_Web_init G_Web_init (hr.mono (by decide)) T.mg_Web B_Web_init (acons_ (v_ 3) (acons_ (v_ 4) anil_)))) knil_) []) (v_ 5))
      (sdead_ nn_ret (sone_ (sret_ bool_)) [] [.f, .f, (.l .f), .f, .f, .f, .n, .n])
      (swk_ snil_ [] [.f, .f, (.l .f), .f, .f, .f, .n, .n]))
    (scons_ (sasg_ 6 (fnk0_ [0] tk0 G_read_row (hr.mono (by decide)) m_read_row k_read_row KB_read_row_0_text (kcons_ (v_ 5) knil_) []) Sc_law.nd)
    (scons_ (sif_ (tw_ (wor_ (tcmp_ (op_neD hr.units) pr_ne pl_ne (me0_ tk0 T.cl_Web M_Web_places G_Web_places (hr.mono (by decide)) B_Web_places (v_ 6) []) (v_ 3)) (wor_ (tcmp_ (op_neD hr.units) pr_ne pl_ne (me0_ tk0 T.cl_Web M_Web_ties G_Web_ties (hr.mono (by decide)) B_Web_ties (v_ 6) []) (v_ 4)) (wor1_ (tnot_ (t_ (b_ (fn1_ tk0 G__law_shown_right (hr.mono (by decide)) m__law_shown_right k__law_shown_right B__law_shown_right (acons_ (w_ 2 (.l .f)) (acons_ (v_ 3) anil_)) [(0, 0, 2)]))))))))
      (sdead_ nn_ret (sone_ (sret_ bool_)) [] [.f, .f, (.l .f), .f, .f, .f, .f, .n])
      (swk_ snil_ [] [.f, .f, (.l .f), .f, .f, .f, .f, .n]))
    (scons_ (sasg_ 7 (mk0_ tk0 MK_Desk_init G_Desk_init (hr.mono (by decide)) T.mg_Desk B_Desk_init) Sc_law.nd)
    (sone_ (sif_ (tw_ (wor_ (tcmp_ (op_neD hr.units) pr_ne pl_ne (mek0_ [0] tk0 T.cl_Desk M_Desk_say G_Desk_say (hr.mono (by decide)) KB_Desk_say_1_row (w_ 7 (.i "Desk")) (kcons_ (bin_ op_addU pr_add (bin_ op_addU pr_add (bin_ op_addU pr_add str_ (ixs_ ix_seq pr_idx (v_ 3) int_)) str_) (v_ 5)) knil_) [(0, 0, 7)]) str_) (wor1_ (tcmp_ (op_neD hr.units) pr_ne pl_ne (mek0_ [0] tk0 T.cl_Desk M_Desk_say G_Desk_say (hr.mono (by decide)) KB_Desk_say_1_row (w_ 7 (.i "Desk")) (kcons_ (bin_ op_addU pr_add str_ (ixs_ ix_seq pr_idx (v_ 3) int_)) knil_) [(0, 0, 7)]) (v_ 5)))))
      (sdead_ nn_ret (sone_ (sret_ bool_)) [] [.f, .f, (.l .f), .f, .f, .f, .f, (.i "Desk")])
      (swk_ snil_ [] [.f, .f, (.l .f), .f, .f, .f, .f, (.i "Desk")])))))))))) [1, 2, 3, 4, 5, 6, 7] [.f, .n, .n, .n, .n, .n, .n, .n]))
  (sone_ (sret_ bool_)))
end
end V4.C_k90
namespace V4.C_k90
open PySem PySem.Spec PyProof.Rows L2 L3 RZ
local macro_rules | `(tactic| walk_at "mx") => `(tactic| simp (maxSteps := 1000000) only [ok_seqT, thn_none, thn_some, ok_bind, ok_pure, ok_v, ok_op1, ok_op2, ok_asBM, ok_ofBM, ok_notM, ok_andM, ok_orM, ok_ifM, ok_chM, ok_chM3, ok_nilM, ok_consM, ok_tupM, ok_lstM, ok_ret, ok_asg, ok_ex, ok_par, ok_tg, ok_call, ok_mut0z, ok_mutvz, ok_mutPz, subM0, subNM0, okS_pure, okS_v, okS_op2, pxt_pix, getK_t0, getK_t1, setK_t0, setK_t1, keyU_str, keyU_int, in_dS, notin_dS, in_dI, notin_dI, ok_for, ok_it, ok_rng2, ok_ok, ok_exc, ok_stuck, ok_sm1, ok_recv, ok_mk, ok_mkLM, ok_ck2, uLtA_int, uLtA_str, uLtA_cut, ok_nolM, ok_mutU, ok_rdU, ok_vcall, ok_fld, ok_aug, ok_en, ok_zp, ok_pt, ok_sl, ok_dct, ok_dct1, ok_atm, ok_ck1, ok_tmut, ok_unq, ok_rdP, ok_late, ok_sla, isDic_dS, isLst_list, uGetD_dS, uNe_nil, uEq_nil, ok_prc, ok_prn, ok_permM, permF_e, permF_0, permF_1, permF_2, permF_3, ok_isE, ok_fail, wrL, rst, setM, ttM, tgcM, tgnM, Option.bind_some, Option.bind_none, Option.map_some, Option.map_none, List.getElem?_cons_zero, List.getElem?_cons_succ, List.set_cons_zero, List.set_cons_succ, List.getD_cons_zero, List.getD_cons_succ, List.cons_append, List.nil_append, List.replicate, List.map_cons, List.map_nil, Option.some.injEq, List.length_cons, List.length_nil, Nat.reduceAdd, Int.cast_ofNat_Int, Int.reduceLT, Int.reduceLE, Int.reduceEq, Int.reduceAdd, Nat.zero_add, Option.getD_some, Option.getD_none, U.int.injEq, U.bool.injEq, U.str.injEq, exists_eq_left, exists_eq_left', exists_eq_right, and_true, true_and, and_false, false_and, ite_true, ite_false, Bool.false_eq_true, Bool.true_eq_false, reduceCtorEq, decide_true, decide_eq_true_eq, Bool.not_eq_true', Bool.not_true, Bool.not_false, decide_eq_false_iff_not, if_true, if_false, eq_self, not_true_eq_false, not_false_eq_true, Bool.not_not, isStrU_str, uMul_s, uMul_l, uMod_p, uFdiv_s, uDivmod_s, uPow_s, uEq_int, uNe_int, uEq_str, uNe_str, uLen_list, uLen_tuple, uLt_int, uLe_int, uGt_int, uGe_int, uAdd_int, uSub_int, uNeg_int, uMin2_int, uMax2_int, idx_row0, idx_row1, idx_l0, idx_l1, idx_l2, idx_t0, idx_t1, idx_t2, uAll_list, List.head?_cons, List.lookup_cons_self, uAddI_int, uSubI_int, uReverse_list, uClear_list, all_trues, uAny_list, blsU_map, blsU_mapf, uIn_str, uNotIn_str, uIn_int, uNotIn_int, uEq_strs, uNe_strs, uEq_ints, uNe_ints, uEq_ties, uNe_ties, uSorted_strs, iterU_list, uList_list, uList_tuple, uTuple_list, uTuple_tuple, fld_names, fld_pairs, web_is_places, web_is_many, web_is_tie, web_is_ties, iterU_tuple, isi_NoneType_str, isi_bool_str, isi_int_str, isi_str_str, isi_list_str, isi_tuple_str, isi_dict_str, isi_NoneType_int, isi_bool_int, isi_int_int, isi_str_int, isi_list_int, isi_tuple_int, isi_dict_int, isi_NoneType_bool, isi_bool_bool, isi_int_bool, isi_str_bool, isi_list_bool, isi_tuple_bool, isi_dict_bool, isi_NoneType_list, isi_bool_list, isi_int_list, isi_str_list, isi_list_list, isi_tuple_list, isi_dict_list, isi_NoneType_tuple, isi_bool_tuple, isi_int_tuple, isi_str_tuple, isi_list_tuple, isi_tuple_tuple, isi_dict_tuple, isi_NoneType_dict, isi_bool_dict, isi_int_dict, isi_str_dict, isi_list_dict, isi_tuple_dict, isi_dict_dict, List.length_map])
theorem lents_draw : sg__law_draw.lents = [0] := by decide
theorem draw_ok {n : Int} {s : U} (h0 : 0 < n) (hn : n.natAbs < 2 ^ 64) (hs : RowU s) : Ok (fn__law_draw [s, .int n]) fun u fin => ∃ s', fin = [s'] ∧ RowU s' ∧ ∃ d : Int, u = .int d ∧ 0 ≤ d ∧ d < n := by
  obtain ⟨a, b, rfl⟩ := hs
  have h1 := Int.emod_nonneg a (show n ≠ 0 by omega)
  have h2 := Int.emod_lt_of_pos a h0
  have e0 : ∀ (c : Int) (t : U), subM 0 (.pure []) (.pure (U.int 0)) (.int c) [U.list [U.int a, U.int b], U.int n, t] = some [U.list [U.int c, U.int b], U.int n, t] := fun c t => sub_root (u := U.list [U.int a, U.int b]) rfl rfl rfl
  have e1 : ∀ (c : Int) (t : U), subM 0 (.pure []) (.pure (U.int 1)) (.int c) [U.list [U.int a, U.int b], U.int n, t] = some [U.list [U.int a, U.int c], U.int n, t] := fun c t => sub_root (u := U.list [U.int a, U.int b]) rfl rfl rfl
  unfold fn__law_draw
  rw [ok_fn]
  unfold mir__law_draw
  simp [ok_seq, h0, hn, RowU, ttM, tgcM, tgnM, setM, lents_draw, e0, e1, h1, h2, -subM0]
  have h3 := Int.emod_nonneg ((b * 48271 + 11213) % 2147483647 / 32) (show n ≠ 0 by omega)
  have h4 := Int.emod_lt_of_pos ((b * 48271 + 11213) % 2147483647 / 32) h0
  by_cases ha : 0 < a
  · simp [ha, h1, h2]
  · by_cases hb : 0 ≤ b
    · simp [ha, hb, h3, h4]; omega
    · simp [ha, hb]; omega
theorem row_at {ns : List Int} {k : Nat} : Ok (fn__law_pot_at [.list (ns.map U.int), .int k]) fun u _ => RowU u := by
  unfold fn__law_pot_at
  rw [ok_fn]
  unfold mir__law_pot_at
  simp [ok_seq, RowU]
  by_cases hk : k < ns.length
  · refine .inr ⟨hk, ?_⟩
    rw [idx_at (n := k) rfl (u := .int ns[k]) (by simp [hk])]
    simp
    omega
  · exact .inl (by omega)
theorem lents_name : sg__law_name.lents = [0, 1] := by decide
theorem name_ok {s : U} {taken : List Str} (hs : RowU s) (ht : taken.length ≤ 25) : Ok (fn__law_name [s, .list (taken.map U.str)]) fun u fin => ∃ s' z, fin = [s', .list (taken.map U.str)] ∧ RowU s' ∧ u = .str z ∧ nameB z = true ∧ z ∉ taken := by
  unfold fn__law_name
  rw [ok_fn]
  unfold mir__law_name
  simp [ok_seq, lents_name]
  refine ok_lcI (α := Int) ?_
  simp
  refine ok_mono (draw_ok (by decide) (by decide) hs) fun u fin ⟨s1, e, hs1, d, e2, d0, d1⟩ => ?_
  subst e e2
  simp [wrL]
  refine ⟨by omega, rangeL 0 (1 + d), U.int, rfl, fun p acc st => ∃ s', RowU s' ∧ ∃ cs : List Nat, cs.length = p.length ∧ (∀ c ∈ cs, lowC c = true) ∧ acc = cs.map (fun c => U.str (chS c)) ∧ st = [s', .list (taken.map U.str), .str "abcdefghijklmnopqrstuvwxyz", .none, .none, .none], ⟨s1, hs1, [], by simp⟩, ?_, ?_⟩
  · rintro p x q acc st e ⟨s2, h2, cs, hl, hc, rfl, rfl⟩
    simp [setM]
    refine ok_mono (draw_ok (by decide) (by decide) h2) fun u fin ⟨s3, e, h3, d, e2, d0, d1⟩ => ?_
    subst e e2
    simp [wrL, rst, letter_idx d0 d1]
    refine ⟨s3, h3, cs ++ [97 + d.toNat], by simp [hl], fun c hc' => ?_, by simp, rfl⟩
    rcases List.mem_append.mp hc' with h | h
    · exact hc c h
    · rw [List.mem_singleton.mp h]; simp [lowC]; omega
  · rintro ys st ⟨s2, h2, cs, hl, hc, rfl, rfl⟩
    rw [rangeL_len] at hl
    obtain ⟨z, e, ez⟩ := join_letters hc (by omega)
    have hz := nameB_of ez (by omega) (by omega) hc
    simp [e]
    by_cases h : z ∈ taken
    · simp [h]
      refine ok_lcT (α := Str) ?_
      rw [ok_it, ok_v]
      refine ⟨_, rfl, _, iterU_str (by decide +kernel), L3.signs "abcdefghijklmnopqrstuvwxyz", U.str, rfl, fun z => !decide (z ∈ taken), U.str, fun x hx => ?_, ?_⟩
      · simp [setM, rst]; exact Classical.em _
      · have := fresh_letter (n := 26) (taken := taken) (by omega)
        rw [← signs_letters] at this
        obtain ⟨y, ys, ey⟩ := List.exists_cons_of_ne_nil this
        have hy : y ∈ (L3.signs "abcdefghijklmnopqrstuvwxyz").filter fun z => !decide (z ∈ taken) := by rw [ey]; exact List.mem_cons_self
        obtain ⟨hy1, hy2⟩ := List.mem_filter.mp hy
        rw [signs_letters] at hy1
        obtain ⟨c, hc, rfl⟩ := List.mem_map.mp hy1
        have hc2 : lowC c = true := by
          obtain ⟨i, h1, h2⟩ := List.mem_range'.mp hc
          simp [lowC]; omega
        simp [ey]
        exact ⟨h2, nameB_ch hc2, by simpa using hy2⟩
    · simp [h]
      exact ⟨h2, hz⟩
theorem name_no {z : Str} (h : z.length < 1 ∨ 8 < z.length) : nameB z = false := by
  unfold nameB
  rcases h with h | h
  · rw [decide_eq_false (show ¬ 1 ≤ z.length by omega)]; rfl
  · rw [decide_eq_false (show ¬ z.length ≤ 8 by omega), Bool.and_false]; rfl
theorem name_all {z : Str} (h1 : ¬ z.length < 1) (h2 : ¬ 8 < z.length) : z.cps.toList.all lowC = nameB z := by
  unfold nameB
  rw [decide_eq_true (show 1 ≤ z.length by omega), decide_eq_true (show z.length ≤ 8 by omega)]
  rfl
theorem is_name_eq {z : Str} (h : z.length ≤ 1000000) : fn_is_name [.str z] = .ok (.bool (nameB z)) [] := ok_eq (by
  unfold fn_is_name
  rw [ok_fn, show sg_is_name.lents = [] from rfl]
  unfold mir_is_name
  try walk_at "mx"
  rw [uLen_str h]
  try walk_at "mx"
  have hs : z.length ≤ sizeLine := by have := sizeLine_eq; omega
  split
  · exact (name_no (z := z) (by omega)).symm
  split
  · exact (name_no (z := z) (by omega)).symm
  refine ok_lcA (α := Str) ?_
  rw [ok_it, ok_v]
  refine ⟨_, rfl, _, iterU_str hs, L3.signs z, U.str, rfl, fun y => .bool (lowC (y.cps.getD 0 0)), fun x hx => ⟨_, rfl, rfl, ?_⟩, ?_⟩
  · obtain ⟨c, _, rfl⟩ := List.mem_map.mp hx
    try walk_at "mx"
    rw [uIn_letters]
    rfl
  · try walk_at "mx"
    rw [signs_all (g := lowC) fun c => rfl, name_all (by omega) (by omega)])
theorem name_short {z : Str} (h : nameB z = true) : z.length ≤ 1000000 := by have := (nameB_len h).2; omega
theorem is_name_true {z : Str} (h : nameB z = true) : fn_is_name [.str z] = .ok (.bool true) [] := by rw [is_name_eq (name_short h), h]
theorem are_places_ok {names : List Str} (nd : names.Nodup) (nm : ∀ z ∈ names, nameB z = true) (h1 : 1 ≤ names.length) (h2 : names.length ≤ 12) : fn_are_places [.list (names.map U.str)] = .ok (.bool true) [] := ok_eq (by
  unfold fn_are_places
  rw [ok_fn, show sg_are_places.lents = [] from rfl]
  unfold mir_are_places
  try walk_at "mx"
  rw [if_pos (by omega), if_neg (by omega)]
  refine ok_lcA (α := Str) ?_
  try walk_at "mx"
  refine ⟨names, U.str, rfl, fun _ => .bool true, fun x hx => ?_, ?_⟩
  · rw [is_name_true (nm x hx)]
    rfl
  · rw [uLenSet_nd (by omega) nd]
    try walk_at "mx")
theorem is_tie_ok {names : List Str} {e : Str × Str} (h1 : nameB e.1 = true) (h2 : nameB e.2 = true) (m1 : e.1 ∈ names) (m2 : e.2 ∈ names) : fn_is_tie [tieU e, .list (names.map U.str)] = .ok (.bool true) [] := ok_eq (by
  unfold fn_is_tie
  rw [ok_fn, show sg_is_tie.lents = [] from rfl]
  unfold mir_is_tie
  try walk_at "mx"
  refine ok_lcA (α := Str) ?_
  try walk_at "mx"
  refine ⟨[e.1, e.2], U.str, rfl, fun _ => .bool true, fun x hx => ?_, ?_⟩
  · have hm : nameB x = true ∧ x ∈ names := by
      rcases List.mem_cons.mp hx with rfl | hx
      · exact ⟨h1, m1⟩
      · rw [List.mem_singleton.mp hx]; exact ⟨h2, m2⟩
    rw [is_name_true hm.1]
    try walk_at "mx"
    exact hm.2
  · rfl)
theorem web_init {names : List Str} {ties : List (Str × Str)} (h : Hand names ties) : fn_Web_init [.ins "Web" [], .list (names.map U.str), .list (ties.map tieU)] = .ok .none [webU ⟨sortS names, ties⟩] := ok_eq (by
  unfold fn_Web_init
  rw [ok_fn, show sg_Web_init.lents = [0] from rfl]
  unfold mir_Web_init
  try walk_at "mx"
  rw [are_places_ok h.nd h.nm h.one h.most]
  try walk_at "mx"
  have hf := h.few
  rw [if_neg (by omega)]
  refine ok_lcA (α := Str × Str) ?_
  try walk_at "mx"
  refine ⟨ties, tieU, rfl, fun _ => .bool true, fun x hx => ?_, ?_⟩
  · rw [is_tie_ok (h.nm _ (h.inn x hx).1) (h.nm _ (h.inn x hx).2) (h.inn x hx).1 (h.inn x hx).2]
    rfl
  · try walk_at "mx"
    exact ⟨_, rfl, by decide, _, rfl, (show (1 : Nat) < 1000 by decide), rfl⟩)
theorem places_eq {w : Wb} : fn_Web_places [webU w] = .ok (.list (w.pl.map U.str)) [] := rfl
theorem ties_eq {w : Wb} : fn_Web_ties [webU w] = .ok (.list (w.ties.map tieU)) [] := rfl
theorem web_text_eq {w : Wb} (W : w.Ok) : fn_web_text [webU w] = .ok (.str (webT w)) [] := ok_eq (by
  have hm := W.most
  have hf := W.few
  unfold fn_web_text
  rw [ok_fn, show sg_web_text.lents = [] from rfl]
  unfold mir_web_text
  try walk_at "mx"
  rw [places_eq]
  try walk_at "mx"
  rw [show [U.str "places"] = ([("places" : Str)]).map U.str from rfl, uAdd_list (by simp; omega), ← List.map_append]
  try walk_at "mx"
  rw [show U.str "places" :: w.pl.map U.str = (("places" : Str) :: w.pl).map U.str from rfl, uJoin_le (n := 8) (by decide +kernel) (fun y hy => by
    rcases List.mem_cons.mp hy with rfl | hy
    · exact ⟨by decide +kernel, by decide +kernel⟩
    · exact ⟨nameB_strOk (W.nm y hy), (nameB_len (W.nm y hy)).2⟩) (by rw [List.length_cons]; show _ * (8 + 1) ≤ _; omega)]
  try walk_at "mx"
  rw [ties_eq]
  try walk_at "mx"
  refine ok_forP (α := Str × Str) (fun p st => ∃ x y, st = [webU w, .list ((headT w :: p.map rowT).map U.str), x, y, .none]) ?_ ⟨_, _, rfl⟩ ?_
  · rintro p e q st e1 ⟨x, y, rfl⟩
    have he : e ∈ w.ties := by rw [e1]; simp
    have h1 := W.nm _ (W.inn e he).1
    have h2 := W.nm _ (W.inn e he).2
    have l1 := (nameB_len h1).2
    have l2 := (nameB_len h2).2
    have hpl : p.length < 31 := by
      have := congrArg List.length e1
      simp at this
      omega
    try walk_at "mx"
    rw [uAdd_str (by show _ + 3 ≤ _; omega)]
    try walk_at "mx"
    rw [uAdd_str (by rw [str_len]; show _ + 3 + _ ≤ _; omega)]
    try walk_at "mx"
    rw [show U.str (headT w) :: (p.map rowT).map U.str = (headT w :: p.map rowT).map U.str from rfl]
    refine ⟨_, append_map (f := U.str) (xs := headT w :: p.map rowT) (a := rowT e) (by simp; omega) rfl, .str e.1, .str e.2, ?_⟩
    rw [List.map_append (l₁ := p)]
    rfl
  · rintro st ⟨x, y, rfl⟩
    try walk_at "mx"
    refine ok_lcA (α := Str) ?_
    try walk_at "mx"
    refine ⟨webRows w, U.str, rfl, fun r => .str (r ++ ("\n" : Str)), fun r hr => ?_, ?_⟩
    · have := rows_len W hr
      try walk_at "mx"
      rw [uAdd_str (by show _ + 1 ≤ _; omega)]
      try walk_at "mx"
    · rw [show (webRows w).map (fun r => U.str (r ++ ("\n" : Str))) = ((webRows w).map fun r => r ++ ("\n" : Str)).map U.str by rw [List.map_map]; rfl, uJoin_le (n := 118) (by decide +kernel) (fun y hy => by
        obtain ⟨r, hr, rfl⟩ := List.mem_map.mp hy
        have := rows_len W hr
        refine ⟨strOk_append (rows_ok W hr) (by decide +kernel), ?_⟩
        rw [str_len]
        show _ + 1 ≤ 118
        omega) (by
        have := rows_many W
        rw [List.length_map]
        show _ * (118 + 0) ≤ _
        omega)]
      try walk_at "mx"
      rfl)
theorem tie_in_eq {e : Str × Str} (h1 : nameB e.1 = true) (h2 : nameB e.2 = true) : fn_tie_in [.str (rowT e)] = .ok (tieU e) [] := ok_eq (by
  unfold fn_tie_in
  rw [ok_fn, show sg_tie_in.lents = [] from rfl]
  unfold mir_tie_in
  try walk_at "mx"
  rw [uPartition_row h1 h2]
  try walk_at "mx")
theorem web_init_self {w : Wb} (W : w.Ok) : fn_Web_init [.ins "Web" [], .list (w.pl.map U.str), .list (w.ties.map tieU)] = .ok .none [webU w] := by rw [web_init W.hand, W.self]
theorem read_web_eq {w : Wb} (W : w.Ok) : fn_read_web [.str (webT w)] = .ok (webU w) [] := ok_eq (by
  have hl := webT_len W
  unfold fn_read_web
  rw [ok_fn, show sg_read_web.lents = [] from rfl]
  unfold mir_read_web
  try walk_at "mx"
  rw [uSplit_ok (by decide +kernel) (by omega) (split_lines W) fun r hr => by
    rcases List.mem_append.mp hr with h | h
    · exact rows_ok W h
    · rw [List.mem_singleton.mp h]; decide +kernel]
  try walk_at "mx"
  refine ok_tryRM ?_
  try walk_at "mx"
  rw [show (webRows w ++ [("" : Str)]).map U.str = U.str (headT w) :: (w.ties.map rowT).map U.str ++ [U.str ""] by unfold webRows; rw [List.map_append]; rfl]
  rw [show U.str (headT w) :: (w.ties.map rowT).map U.str ++ [U.str ""] = U.str (headT w) :: ((w.ties.map rowT).map U.str ++ [U.str ""]) from rfl]
  try walk_at "mx"
  have := head_len W
  rw [uSplit_ok (by decide +kernel) (by omega) (split_head W) fun r hr => by
    rcases List.mem_cons.mp hr with rfl | h
    · decide +kernel
    · exact nameB_strOk (W.nm r h)]
  try walk_at "mx"
  rw [uCut_drop (by decide)]
  rw [show (U.str "places" :: w.pl.map U.str).drop (1 : Int).toNat = w.pl.map U.str from rfl]
  try walk_at "mx"
  refine ok_lcA (α := Str × Str) ?_
  try walk_at "mx"
  rw [show U.str (headT w) :: ((w.ties.map rowT).map U.str ++ [U.str ""]) = U.str (headT w) :: (w.ties.map rowT).map U.str ++ [U.str ""] from rfl, uCut_mid]
  try walk_at "mx"
  refine ⟨w.ties, fun e => .str (rowT e), by rw [List.map_map]; rfl, fun e => tieU e, fun e he => ?_, ?_⟩
  · try walk_at "mx"
    rw [tie_in_eq (W.nm _ (W.inn e he).1) (W.nm _ (W.inn e he).2)]
    try walk_at "mx"
  · try walk_at "mx"
    rw [web_init_self W]
    try walk_at "mx"
    rw [web_text_eq W]
    try walk_at "mx")
theorem rowS_len {w : Wb} (W : w.Ok) : (rowS w).length ≤ 3800 := by
  have h := join_len_le (y := "; ") (n := 119) (xs := webRows w) fun x hx => by
    have := rows_len W hx
    show x.length + 2 ≤ _
    omega
  have := rows_many W
  unfold rowS
  omega
theorem rowS_ok {w : Wb} (W : w.Ok) : PyData.strOk (rowS w) = true := join_ok "; " (by decide +kernel) _ fun y hy => rows_ok W hy
theorem show_web_eq {w : Wb} (W : w.Ok) : fn_show_web [webU w] = .ok (.str (rowS w)) [] := ok_eq (by
  have lw := webT_len W
  unfold fn_show_web
  rw [ok_fn, show sg_show_web.lents = [] from rfl]
  unfold mir_show_web
  try walk_at "mx"
  rw [web_text_eq W]
  try walk_at "mx"
  rw [uCut_str (by omega), webT_join, cut_last (by decide +kernel)]
  try walk_at "mx"
  have lj : (Str.join "\n" (webRows w)).length ≤ 3700 := by
    rw [webT_join, str_len] at lw
    omega
  rw [uRepl_ok (by decide +kernel) (by show _ + (_ + 1) * 2 ≤ _; omega) (join_ok "\n" (by decide +kernel) _ fun y hy => rows_ok W hy) (by decide +kernel), show_rows W])
theorem read_row_eq {w : Wb} (W : w.Ok) : fn_read_row [.str (rowS w)] = .ok (webU w) [] := ok_eq (by
  have lr := rowS_len W
  unfold fn_read_row
  rw [ok_fn, show sg_read_row.lents = [] from rfl]
  unfold mir_read_row
  try walk_at "mx"
  rw [uRepl_ok (by decide +kernel) (by show _ + (_ + 1) * 1 ≤ _; omega) (rowS_ok W) (by decide +kernel), read_rows W]
  try walk_at "mx"
  have lw := webT_len W
  have lj : (Str.join "\n" (webRows w)).length + ("\n" : Str).length ≤ 3700 := by
    rw [webT_join, str_len] at lw
    omega
  rw [uAdd_str (by omega), ← webT_join]
  try walk_at "mx"
  rw [read_web_eq W]
  try walk_at "mx"
  rw [show_web_eq W]
  try walk_at "mx")
def numS (i : Int) : Str := Str.ofString (toString i)
theorem numS_ok (i : Int) : PyData.strOk (numS i) = true := by
  unfold numS PyData.strOk
  rw [Str.ofString_eq_toList, ← Array.all_toList]
  refine List.all_eq_true.mpr fun c hc => ?_
  obtain ⟨x, _, rfl⟩ := List.mem_map.mp (show c ∈ (toString i).toList.map Char.toNat by simpa using hc)
  have := x.valid
  simp only [decide_eq_true_eq]
  show x.val.toNat < _
  rcases this with h | ⟨_, h⟩
  · exact Nat.lt_of_lt_of_le h (by decide)
  · exact h
theorem numS_len {i : Int} (h0 : 0 ≤ i) (h : i < 10 ^ 13) : (numS i).length ≤ 13 := toString_length_le h0 (by decide) h
theorem strI_ok {i : Int} (h0 : 0 ≤ i) (h : i < 10 ^ 13) : uStrI (.int i) = some (.str (numS i)) := by
  have h2 : i.natAbs.log2 < 1920 := by
    have : i.natAbs < 2 ^ 1920 := Nat.lt_of_lt_of_le (show i.natAbs < 10 ^ 13 by omega) (by decide +kernel)
    by_cases c : i.natAbs = 0
    · rw [c]; decide
    · exact (Nat.log2_lt c).mpr this
  exact if_pos ⟨h2, numS_ok i⟩
theorem join_short {y : Str} {xs : List Str} {n : Nat} (hy : PyData.strOk y = true) (h : ∀ x ∈ xs, PyData.strOk x = true ∧ x.length ≤ n) (hz : xs.length * (n + y.length) ≤ 1000000) : uJoin (.str y) (.list (xs.map U.str)) = some (.str (Str.join y xs)) := uJoin_le hy h hz
theorem join_tup {y : Str} {xs : List Str} : uJoin (.str y) (.tuple (xs.map U.str)) = uJoin (.str y) (.list (xs.map U.str)) := rfl
def tiesS (L : List Int) : Str := Str.join " " (L.map numS)
theorem num_in {L : List Int} (h : ∀ k ∈ L, 0 ≤ k ∧ k < 10 ^ 13) {x : Str} (hx : x ∈ L.map numS) : PyData.strOk x = true ∧ x.length ≤ 13 := by
  obtain ⟨k, hk, rfl⟩ := List.mem_map.mp hx
  exact ⟨numS_ok k, numS_len (h k hk).1 (h k hk).2⟩
theorem show_ties_ok {L : List Int} (hl : L.length ≤ 1000) (h : ∀ k ∈ L, 0 ≤ k ∧ k < 10 ^ 13) : fn_show_ties [.list (L.map U.int)] = .ok (.str (if L = [] then "-" else tiesS L)) [] := ok_eq (by
  unfold fn_show_ties
  rw [ok_fn, show sg_show_ties.lents = [] from rfl]
  unfold mir_show_ties
  try walk_at "mx"
  rw [show U.list [] = U.list (([] : List Int).map U.int) from rfl, uEq_ints]
  by_cases c : L = []
  · refine ⟨_, rfl, true, by simp [c], ?_⟩
    rw [if_pos rfl, if_pos c]
    try walk_at "mx"
  · refine ⟨_, rfl, false, by simp [c], ?_⟩
    rw [if_neg (by decide), if_neg c]
    try walk_at "mx"
    refine ok_lcA (α := Int) ?_
    try walk_at "mx"
    refine ⟨L, U.int, rfl, fun k => .str (numS k), fun k hk => ?_, ?_⟩
    · exact strI_ok (h k hk).1 (h k hk).2
    · rw [show L.map (fun k => U.str (numS k)) = (L.map numS).map U.str by rw [List.map_map]; rfl, join_short (n := 13) (by decide +kernel) (fun x hx => num_in h hx) (by rw [List.length_map]; show _ * (13 + 1) ≤ _; omega)]
      try rfl)
def plusS (C : List Str) : Str := Str.join "+" C
structure CutS (C : List Str) : Prop where
  one : 1 ≤ C.length
  most : C.length ≤ 12
  nm : ∀ z ∈ C, nameB z = true
theorem plusS_join {C : List Str} (h : CutS C) : uJoin (.str "+") (.list (C.map U.str)) = some (.str (plusS C)) := join_short (n := 8) (by decide +kernel) (fun y hy => ⟨nameB_strOk (h.nm y hy), (nameB_len (h.nm y hy)).2⟩) (by have := h.most; show _ * (8 + 1) ≤ _; omega)
theorem plusS_ok {C : List Str} (h : CutS C) : PyData.strOk (plusS C) = true ∧ (plusS C).length ≤ 108 := by
  refine ⟨join_ok "+" (by decide +kernel) _ fun y hy => nameB_strOk (h.nm y hy), ?_⟩
  have := join_len_le (y := "+") (n := 9) (xs := C) fun x hx => by
    have := (nameB_len (h.nm x hx)).2
    show x.length + 1 ≤ _
    omega
  have := h.most
  unfold plusS
  omega
theorem show_cut_ok {C : List Str} (h : CutS C) : fn_show_cut [.tuple (C.map U.str)] = .ok (.str (plusS C)) [] := ok_eq (by
  unfold fn_show_cut
  rw [ok_fn, show sg_show_cut.lents = [] from rfl]
  unfold mir_show_cut
  try walk_at "mx"
  rw [join_tup, plusS_join h])
def timesS (c : List Str × Int) : Str := plusS c.1 ++ "*" ++ numS c.2
def oneU (c : List Str × Int) : U := .tuple [.tuple (c.1.map U.str), .int c.2]
structure TimS (c : List Str × Int) : Prop extends CutS c.1 where
  t0 : 0 ≤ c.2
  t1 : c.2 < 10 ^ 13
theorem times_add {c : List Str × Int} (h : TimS c) : uAdd (.str (plusS c.1)) (.str "*") = some (.str (plusS c.1 ++ "*")) ∧ uAdd (.str (plusS c.1 ++ "*")) (.str (numS c.2)) = some (.str (timesS c)) := by
  have h1 := (plusS_ok h.toCutS).2
  have h2 := numS_len h.t0 h.t1
  have l1 : ("*" : Str).length = 1 := rfl
  exact ⟨uAdd_str (by omega), uAdd_str (by rw [str_len]; omega)⟩
theorem timesS_ok {c : List Str × Int} (h : TimS c) : PyData.strOk (timesS c) = true ∧ (timesS c).length ≤ 122 := by
  have h1 := plusS_ok h.toCutS
  have h2 := numS_len h.t0 h.t1
  have l1 : ("*" : Str).length = 1 := rfl
  exact ⟨strOk_append (strOk_append h1.1 (by decide +kernel)) (numS_ok _), by unfold timesS; rw [str_len, str_len]; omega⟩
theorem show_times_two {c : List Str × Int} (h : TimS c) : fn_show_times [oneU c] = .ok (.str (timesS c)) [] := ok_eq (by
  unfold fn_show_times oneU
  rw [ok_fn, show sg_show_times.lents = [] from rfl]
  unfold mir_show_times
  try walk_at "mx"
  rw [show_cut_ok h.toCutS]
  try walk_at "mx"
  rw [(times_add h).1]
  try walk_at "mx"
  rw [strI_ok h.t0 h.t1]
  try walk_at "mx"
  rw [(times_add h).2])
theorem show_times_one {C : List Str} (h : CutS C) : fn_show_times [.tuple (C.map U.str)] = .ok (.str (plusS C)) [] := ok_eq (by
  obtain ⟨z, r, rfl⟩ : ∃ z r, C = z :: r := by
    cases C with
    | nil => have := h.one; simp at this
    | cons z r => exact ⟨z, r, rfl⟩
  have h3 := show_cut_ok h
  unfold fn_show_times
  rw [ok_fn, show sg_show_times.lents = [] from rfl]
  unfold mir_show_times
  rw [List.map_cons] at h3 ⊢
  try walk_at "mx"
  rw [h3]
  try walk_at "mx")
theorem cuts_join {xs : List Str} (hl : xs.length ≤ 100) (h : ∀ x ∈ xs, PyData.strOk x = true ∧ x.length ≤ 122) : uJoin (.str " ") (.list (xs.map U.str)) = some (.str (Str.join " " xs)) := join_short (n := 122) (by decide +kernel) h (by show _ * (122 + 1) ≤ _; omega)
theorem show_cuts_none : fn_show_cuts [.list []] = .ok (.str "-") [] := ok_eq (by
  unfold fn_show_cuts
  rw [ok_fn, show sg_show_cuts.lents = [] from rfl]
  unfold mir_show_cuts
  try walk_at "mx"
  rw [show uEq (.list []) (.list []) = some (.bool true) from good_eq (good_list good_int) [] []]
  try walk_at "mx")
theorem show_cuts_some {α : Type} {f : α → U} {g : α → Str} {L : List α} (hl : L.length ≤ 100) (h0 : ∃ b, uEq (.list (L.map f)) (.list []) = some (.bool b) ∧ b = false) (h : ∀ x ∈ L, fn_show_times [f x] = .ok (.str (g x)) [] ∧ PyData.strOk (g x) = true ∧ (g x).length ≤ 122) :
    fn_show_cuts [.list (L.map f)] = .ok (.str (Str.join " " (L.map g))) [] := ok_eq (by
  obtain ⟨b, h0, rfl⟩ := h0
  unfold fn_show_cuts
  rw [ok_fn, show sg_show_cuts.lents = [] from rfl]
  unfold mir_show_cuts
  try walk_at "mx"
  rw [h0]
  try walk_at "mx"
  refine ok_lcA (α := α) ?_
  try walk_at "mx"
  refine ⟨L, f, rfl, fun x => .str (g x), fun x hx => ?_, ?_⟩
  · rw [(h x hx).1]
    try walk_at "mx"
  · rw [show L.map (fun x => U.str (g x)) = (L.map g).map U.str by rw [List.map_map]; rfl, cuts_join (by rw [List.length_map]; exact hl) fun y hy => by
      obtain ⟨x, hx, rfl⟩ := List.mem_map.mp hy
      exact (h x hx).2])
theorem good_int1 : Good U.int 1 := ⟨good_int.nd, fun a => Nat.le_trans (good_int.dp a) (Nat.zero_le 1), good_int.inj, good_int.alk⟩
theorem cuts_ne {L : List (List Str × Int)} : uEq (.list (L.map oneU)) (.list []) = some (.bool (decide (L = []))) := good_eq (good_list (show Good oneU 2 from good_pair (good_tup good_str) good_int1)) L []
theorem split_first {a b : Str} (h : 32 ∉ TL.tl a) : Txt.split (a ++ " " ++ b) " " = a :: Txt.split b " " := by
  have e : Str.join " " (a :: Txt.split b " ") = a ++ " " ++ b := by
    obtain ⟨z, zs, ez⟩ := List.exists_cons_of_ne_nil (split_ne (x := b) (y := " "))
    rw [ez, join_cons, ← ez, StrLaws.join_split]
  rw [← e, ← TL.join_eq]
  refine TL.split_join (s := 32) (S := []) (by decide +kernel) (by decide +kernel) (by simp) fun p hp => ?_
  rcases List.mem_cons.mp hp with rfl | hp
  · exact h
  · exact StrLaws.split_free b 32 p hp
theorem split_name {a : Str} (h : nameB a = true) : Txt.split a " " = [a] := by
  have := TL.split_join (y := " ") (s := 32) (S := []) (by decide +kernel) (by decide +kernel) (parts := [a]) (by simp) fun p hp => by
    rw [List.mem_singleton.mp hp]
    exact low_not h (by decide)
  rw [TL.join_eq] at this
  exact this
theorem part_first {a b : Str} (h : 32 ∉ TL.tl a) : Txt.partition (a ++ " " ++ b) " " = (a, (" " : Str), b) := TL.partition_app (y := (" " : Str)) (s := 32) (S := []) (by decide +kernel) h
theorem str_assoc {a b c : Str} : a ++ b ++ c = a ++ (b ++ c) := str_ext (by simp only [str_cps, List.append_assoc])
theorem web_row {n T : Str} : "web " ++ n ++ " " ++ T = ("web" : Str) ++ " " ++ (n ++ " " ++ T) := by
  rw [show ("web " : Str) = ("web" : Str) ++ " " by decide +kernel]
  simp only [str_assoc]
theorem text_row {n : Str} : "text " ++ n = ("text" : Str) ++ " " ++ n := by
  rw [show ("text " : Str) = ("text" : Str) ++ " " by decide +kernel]
theorem lents_drawn : sg__law_drawn.lents = [0] := by decide
theorem drawn_ok {s : U} (hs : RowU s) : Ok (fn__law_drawn [s]) fun u fin => ∃ s' names ties, fin = [s'] ∧ RowU s' ∧ u = .tuple [.list ((sortS names).map U.str), .list (ties.map tieU)] ∧ Hand names ties := by
  unfold fn__law_drawn
  rw [ok_fn]
  unfold mir__law_drawn
  rw [lents_drawn]
  try walk_at "mx"
  refine ok_mono (draw_ok (by decide) (by decide) hs) fun u fin ⟨s1, e, hs1, d, e2, d0, d1⟩ => ?_
  subst e e2
  try walk_at "mx"
  refine ⟨by omega, ok_forP (α := Int) (fun p st => ∃ s' names x, RowU s' ∧ names.length = p.length ∧ names.Nodup ∧ (∀ z ∈ names, nameB z = true) ∧ st = [s', .list (names.map U.str), x, .none]) ?_ ⟨s1, [], .none, hs1, rfl, by simp, by simp, rfl⟩ ?_⟩
  · rintro p x q st e ⟨s2, names, y, h2, hl, nd, nm, rfl⟩
    have hp : p.length < 12 := by
      have := congrArg List.length e
      rw [rangeL_len] at this
      simp at this
      omega
    try walk_at "mx"
    refine ok_mono (name_ok h2 (by omega)) fun u fin ⟨s3, z, e, h3, e2, hz, hn⟩ => ?_
    subst e e2
    try walk_at "mx"
    refine ⟨_, append_map (f := U.str) (by omega) rfl, s3, names ++ [z], _, h3, by simp [hl], nodup_snoc nd hn, fun w hw => ?_, rfl⟩
    rcases List.mem_append.mp hw with h | h
    · exact nm w h
    · rw [List.mem_singleton.mp h]; exact hz
  · rintro st ⟨s2, names, y, h2, hl, nd, nm, rfl⟩
    rw [rangeL_len] at hl
    have l1 : 1 ≤ names.length := by omega
    have l2 : names.length ≤ 12 := by omega
    try walk_at "mx"
    refine ok_mono (draw_ok (by decide) (by decide) h2) fun u fin ⟨s4, e, h4, d5, e2, d50, d51⟩ => ?_
    subst e e2
    try walk_at "mx"
    refine ⟨by omega, ok_forP (α := Int) (fun p st => ∃ s' ties x, RowU s' ∧ ties.length = p.length ∧ (∀ e ∈ ties, e.1 ∈ names ∧ e.2 ∈ names) ∧ st = [s', .list (names.map U.str), x, .list (ties.map tieU)]) ?_ ⟨s4, [], _, h4, rfl, by simp, rfl⟩ ?_⟩
    · rintro p x q st e ⟨s5, ties, y, h5, tl, ti, rfl⟩
      have hp : p.length < 30 := by
        have := congrArg List.length e
        rw [rangeL_len] at this
        simp at this
        omega
      try walk_at "mx"
      refine ok_mono (draw_ok (by omega) (by omega) h5) fun u fin ⟨s6, e, h6, a, e2, a0, a1⟩ => ?_
      subst e e2
      obtain ⟨z1, m1, -, e1⟩ := idx_in (f := U.str) (xs := names) a0 a1
      try walk_at "mx"
      rw [e1]
      try walk_at "mx"
      refine ok_mono (draw_ok (by omega) (by omega) h6) fun u fin ⟨s7, e, h7, b, e2, b0, b1⟩ => ?_
      subst e e2
      obtain ⟨z2, m2, -, e2⟩ := idx_in (f := U.str) (xs := names) b0 b1
      try walk_at "mx"
      rw [e2]
      try walk_at "mx"
      refine ⟨_, append_map (f := tieU) (a := (z1, z2)) (by omega) rfl, s7, ties ++ [(z1, z2)], _, h7, by simp [tl], fun e he => ?_, rfl⟩
      rcases List.mem_append.mp he with h | h
      · exact ti e h
      · rw [List.mem_singleton.mp h]; exact ⟨m1, m2⟩
    · rintro st ⟨s5, ties, y, h5, tl, ti, rfl⟩
      rw [rangeL_len] at tl
      try walk_at "mx"
      exact ⟨s5, names, ties, rfl, h5, rfl, ⟨nd, nm, l1, l2, by omega, ti⟩⟩
theorem hand_sort {names : List Str} {ties : List (Str × Str)} (H : Hand names ties) : Hand (sortS names) ties :=
  ⟨sortS_nodup H.nd, fun z hz => H.nm z (sortS_mem.mp hz), by rw [sortS_len]; exact H.one, by rw [sortS_len]; exact H.most, H.few, fun e he => ⟨sortS_mem.mpr (H.inn e he).1, sortS_mem.mpr (H.inn e he).2⟩⟩
theorem join_more {y r : Str} : ∀ {xs : List Str}, xs ≠ [] → Str.join y (xs ++ [r]) = Str.join y xs ++ y ++ r
  | [x], _ => rfl
  | x :: z :: xs, _ => by
    rw [List.cons_append, List.cons_append, join_cons, join_cons, ← List.cons_append, join_more (by simp)]
    refine str_ext ?_
    simp only [str_cps, List.append_assoc]
theorem written90 {names : List Str} {ties : List (Str × Str)} (H : Hand names ties) (hs : sortS names = names) : fn__law_written [.list (names.map U.str), .list (ties.map tieU)] = .ok (.str (rowS ⟨names, ties⟩)) [] := ok_eq (by
  have W : (⟨names, ties⟩ : Wb).Ok := by have := H.ok; rwa [hs] at this
  have hm := H.most
  have hf := H.few
  unfold fn__law_written
  rw [ok_fn, show sg__law_written.lents = [] from rfl]
  unfold mir__law_written
  try walk_at "mx"
  rw [show [U.str "places"] = ([("places" : Str)]).map U.str from rfl, uAdd_list (by simp only [List.length_map, List.length_singleton]; omega), ← List.map_append]
  try walk_at "mx"
  rw [show U.str "places" :: names.map U.str = (("places" : Str) :: names).map U.str from rfl, uJoin_le (n := 8) (by decide +kernel) (fun y hy => by
    rcases List.mem_cons.mp hy with rfl | hy
    · exact ⟨by decide +kernel, by decide +kernel⟩
    · exact ⟨nameB_strOk (W.nm y hy), (nameB_len (W.nm y hy)).2⟩) (by rw [List.length_cons]; show _ * (8 + 1) ≤ _; omega)]
  try walk_at "mx"
  have hh := head_len W
  rw [show Str.join " " (("places" : Str) :: names) = rowS ⟨names, []⟩ from rfl]
  refine ok_forP (α := Str × Str) (fun p st => ∃ x y, st = [.list (names.map U.str), .list (ties.map tieU), .str (rowS ⟨names, p⟩), x, y]) ?_ ⟨.none, .none, rfl⟩ ?_
  · rintro p e q st e1 ⟨x, y, rfl⟩
    have he : e ∈ ties := by rw [e1]; simp
    have h1 := (nameB_len (H.nm _ (H.inn e he).1)).2
    have h2 := (nameB_len (H.nm _ (H.inn e he).2)).2
    have Hp : Hand names p := ⟨H.nd, H.nm, H.one, H.most, by have := congrArg List.length e1; simp at this; omega, fun f hf => H.inn f (by rw [e1]; simp [hf])⟩
    have Wp : (⟨names, p⟩ : Wb).Ok := by have := Hp.ok; rwa [hs] at this
    have lw := rowS_len Wp
    have l3 : (" > " : Str).length = 3 := rfl
    have l4 : ("; " : Str).length = 2 := rfl
    try walk_at "mx"
    rw [uAdd_str (by omega)]
    try walk_at "mx"
    rw [uAdd_str (by simp only [str_len]; omega)]
    try walk_at "mx"
    rw [uAdd_str (by simp only [str_len]; omega)]
    try walk_at "mx"
    rw [uAdd_str (by simp only [str_len]; omega)]
    refine ⟨_, rfl, .str e.1, .str e.2, ?_⟩
    have em : rowS (⟨names, p ++ [e]⟩ : Wb) = rowS ⟨names, p⟩ ++ "; " ++ e.1 ++ " > " ++ e.2 := by
      have : webRows (⟨names, p ++ [e]⟩ : Wb) = webRows ⟨names, p⟩ ++ [rowT e] := by
        unfold webRows
        rw [List.cons_append, List.map_append]
        rfl
      unfold rowS
      rw [this, join_more (by unfold webRows; simp)]
      refine str_ext ?_
      unfold rowT
      simp only [str_cps, List.append_assoc]
    rw [em]
  · rintro st ⟨x, y, rfl⟩
    try walk_at "mx")
theorem lents_shown : sg__law_shown_right.lents = [0] := by decide
theorem shown90 {s : U} {names : List Str} (hs : RowU s) (n1 : 1 ≤ names.length) (n2 : names.length ≤ 12) (nm : ∀ z ∈ names, nameB z = true) : Ok (fn__law_shown_right [s, .list (names.map U.str)]) fun u fin => ∃ s', fin = [s'] ∧ RowU s' ∧ u = .bool true := by
  unfold fn__law_shown_right
  rw [ok_fn]
  unfold mir__law_shown_right
  rw [lents_shown, ok_seqT]
  refine ok_mono (P := fun o st => o = none ∧ ∃ (s' x : U) (L : List Int), RowU s' ∧ L.Sublist (rangeL 0 30) ∧ st = [s', .list (names.map U.str), .list (L.map U.int), x, .none, .none, .none, .none, .none]) ?_ ?_
  · try walk_at "mx"
    refine ok_lcI (α := Int) ?_
    try walk_at "mx"
    refine ⟨by decide, rangeL 0 30, U.int, rfl, fun p acc st => ∃ (s' x : U) (L : List Int), RowU s' ∧ acc = L.map U.int ∧ L.Sublist p ∧ st = [s', .list (names.map U.str), .none, x, .none, .none, .none, .none, .none], ⟨s, _, [], hs, rfl, List.Sublist.refl _, rfl⟩, ?_, ?_⟩
    · rintro p x q acc st e ⟨s4, y, L, h4, rfl, hsub, rfl⟩
      try walk_at "mx"
      refine ok_mono (draw_ok (n := 3) (by omega) (by omega) h4) fun u fin ⟨s5, e, h5, d', e2, e0, e1⟩ => ?_
      subst e e2
      try walk_at "mx"
      split
      · exact ⟨s5, _, L ++ [x], h5, by simp, hsub.append (List.Sublist.refl _), rfl⟩
      · exact ⟨s5, _, L, h5, rfl, hsub.trans (List.sublist_append_left _ _), rfl⟩
    · rintro acc st ⟨s4, y, L, h4, rfl, hsub, rfl⟩
      try walk_at "mx"
      exact ⟨s4, y, L, h4, hsub, rfl⟩
  rintro o st ⟨rfl, s4, y, L, h4, hsub, rfl⟩
  have hL : ∀ k ∈ L, 0 ≤ k ∧ k < 10 ^ 13 := fun k hk => by
    have := rangeL_mem (hsub.subset hk)
    omega
  have hll : L.length ≤ 30 := by
    have := hsub.length_le
    rwa [rangeL_len] at this
  rw [thn_none, ok_seqT]
  refine ok_mono (P := fun o st => o = none ∧ st = [s4, .list (names.map U.str), .list (L.map U.int), y, .str (Str.join " " (L.map numS)), .none, .none, .none, .none]) ?_ ?_
  · try walk_at "mx"
    refine ok_lcA (α := Int) ?_
    try walk_at "mx"
    refine ⟨L, U.int, rfl, fun k => .str (numS k), fun k hk => ?_, ?_⟩
    · exact strI_ok (hL k hk).1 (hL k hk).2
    rw [show L.map (fun k => U.str (numS k)) = (L.map numS).map U.str by rw [List.map_map]; rfl, join_short (n := 13) (by decide +kernel) (fun x hx => num_in hL hx) (by rw [List.length_map]; show _ * (13 + 1) ≤ _; omega)]
    try walk_at "mx"
  rintro o st ⟨rfl, rfl⟩
  rw [thn_none, ok_seqT]
  refine ok_mono (P := fun o st => o = none ∧ st = [s4, .list (names.map U.str), .list (L.map U.int), y, .str (if L = [] then "-" else tiesS L), .none, .none, .none, .none]) ?_ ?_
  · try walk_at "mx"
    rw [show U.list [] = U.list (([] : List Int).map U.int) from rfl, uEq_ints]
    try walk_at "mx"
    by_cases h0 : L = []
    · simp [h0]
    · simp [h0, tiesS]
  rintro o st ⟨rfl, rfl⟩
  rw [thn_none, ok_seqT]
  refine ok_mono (P := fun o st => o = none ∧ st = [s4, .list (names.map U.str), .list (L.map U.int), y, .str (if L = [] then "-" else tiesS L), .none, .none, .none, .none]) ?_ ?_
  · try walk_at "mx"
    rw [show_ties_ok (by omega) hL]
    try walk_at "mx"
  rintro o st ⟨rfl, rfl⟩
  rw [thn_none, ok_seqT]
  refine ok_mono (P := fun o st => o = none ∧ ∃ (s' : U) (i : Nat), RowU s' ∧ i < names.length ∧ st = [s', .list (names.map U.str), .list (L.map U.int), y, .str (if L = [] then "-" else tiesS L), .int (i : Nat), .none, .none, .none]) ?_ ?_
  · try walk_at "mx"
    refine ok_mono (draw_ok (by omega) (by omega) h4) fun u fin ⟨s5, e, h5, a, e2, a0, a1⟩ => ?_
    subst e e2
    try walk_at "mx"
    exact ⟨s5, a.toNat, h5, by omega, by rw [show ((a.toNat : Nat) : Int) = a by omega]⟩
  rintro o st ⟨rfl, s5, i, h5, hi, rfl⟩
  obtain ⟨za, ma, -, ea⟩ := idx_in (f := U.str) (xs := names) (d := (i : Int)) (by omega) (by omega)
  rw [thn_none, ok_seqT]
  refine ok_mono (P := fun o st => o = none ∧ ∃ (s' x7 : U) (C : List Str), RowU s' ∧ CutS C ∧ st = [s', .list (names.map U.str), .list (L.map U.int), y, .str (if L = [] then "-" else tiesS L), .int (i : Nat), .tuple (C.map U.str), x7, .none]) ?_ ?_
  · try walk_at "mx"
    refine ok_lcI (α := Str) ?_
    try walk_at "mx"
    refine ⟨names, U.str, rfl, fun p acc st => ∃ (s' x7 : U) (F : List Str), RowU s' ∧ acc = F.map U.str ∧ F.Sublist p ∧ (za ∈ p → za ∈ F) ∧ st = [s', .list (names.map U.str), .list (L.map U.int), y, .str (if L = [] then "-" else tiesS L), .int (i : Nat), .none, x7, .none], ⟨s5, _, [], h5, rfl, List.Sublist.refl _, id, rfl⟩, ?_, ?_⟩
    · rintro p' z q' acc st e' ⟨s8, y8, F, h8, rfl, hF, hz, rfl⟩
      try walk_at "mx"
      rw [ea]
      try walk_at "mx"
      split
      · rename_i c
        exact ⟨s8, _, F ++ [z], h8, by simp, hF.append (List.Sublist.refl _), fun _ => by rw [c]; simp, rfl⟩
      · rename_i c
        refine ok_mono (draw_ok (n := 2) (by omega) (by omega) h8) fun u fin ⟨s9, e, h9, d, e2, d0, d1⟩ => ?_
        subst e e2
        try walk_at "mx"
        have hz2 : za ∈ p' ++ [z] → za ∈ F := fun h => by
          rcases List.mem_append.mp h with h | h
          · exact hz h
          · exact (c (List.mem_singleton.mp h).symm).elim
        split
        · exact ⟨s9, _, F ++ [z], h9, by simp, hF.append (List.Sublist.refl _), fun h => List.mem_append_left _ (hz2 h), rfl⟩
        · exact ⟨s9, _, F, h9, rfl, hF.trans (List.sublist_append_left _ _), hz2, rfl⟩
    · rintro acc st ⟨s8, y8, F, h8, rfl, hF, hz, rfl⟩
      try walk_at "mx"
      have zF := hz ma
      have hFl := hF.length_le
      have hC : CutS (F.take 11) := ⟨by rw [List.length_take]; have := List.length_pos_of_mem zF; omega, by rw [List.length_take]; omega, fun z h => nm z (hF.subset (List.mem_of_mem_take h))⟩
      refine ⟨_, uCut_take (by decide), _, rfl, ?_⟩
      exact ⟨s8, _, F.take 11, h8, hC, by rw [List.map_take]; rfl⟩
  rintro o st ⟨rfl, s6, x7, C, h6, hC, rfl⟩
  rw [thn_none, ok_seqT]
  refine ok_mono (P := fun o st => o = none ∧ ∃ (s' : U) (k : Int), RowU s' ∧ 0 ≤ k ∧ k < 10 ^ 13 ∧ st = [s', .list (names.map U.str), .list (L.map U.int), y, .str (if L = [] then "-" else tiesS L), .int (i : Nat), .tuple (C.map U.str), x7, .int k]) ?_ ?_
  · try walk_at "mx"
    refine ⟨_, (show uPow (.int 10) (.int 12) = some (.int 1000000000000) from rfl), ?_⟩
    try walk_at "mx"
    refine ok_mono (draw_ok (n := 1000000000000 - 1) (by omega) (by decide) h6) fun u fin ⟨s9, e, h9, d, e2, d0, d1⟩ => ?_
    subst e e2
    try walk_at "mx"
    exact ⟨s9, 1 + d, h9, by omega, by omega, rfl⟩
  rintro o st ⟨rfl, s7, k, h7, k0, k1, rfl⟩
  have hT : TimS (C, k) := ⟨hC, k0, k1⟩
  have one : Str.join " " [plusS C] = plusS C := rfl
  have hp := plusS_ok hC
  have e1 : fn_show_cuts [.list [.tuple (C.map U.str)]] = .ok (.str (plusS C)) [] := by
    have := show_cuts_some (f := fun C : List Str => U.tuple (C.map U.str)) (g := plusS) (L := [C]) (by simp) ⟨_, good_eq (good_list good_cut) [C] [], by simp⟩ fun x hx => by
      rw [List.mem_singleton.mp hx]
      exact ⟨show_times_one hC, hp.1, by have := hp.2; omega⟩
    exact this
  have e2 : fn_show_cuts [.list [.tuple [.tuple (C.map U.str), .int k]]] = .ok (.str (timesS (C, k))) [] := by
    have ht := timesS_ok hT
    have := show_cuts_some (f := oneU) (g := timesS) (L := [(C, k)]) (by simp) ⟨_, cuts_ne, by simp⟩ fun x hx => by
      rw [List.mem_singleton.mp hx]
      exact ⟨show_times_two hT, ht⟩
    exact this
  rw [thn_none, ok_seqT]
  refine ok_mono (P := fun o st => o = none ∧ st = [s7, .list (names.map U.str), .list (L.map U.int), y, .str (if L = [] then "-" else tiesS L), .int (i : Nat), .tuple (C.map U.str), x7, .int k]) ?_ ?_
  · try walk_at "mx"
    rw [show_cut_ok hC]
    try walk_at "mx"
    rw [join_tup, plusS_join hC]
    try walk_at "mx"
    rw [e1]
    try walk_at "mx"
  rintro o st ⟨rfl, rfl⟩
  rw [thn_none]
  try walk_at "mx"
  rw [e2]
  try walk_at "mx"
  rw [join_tup, plusS_join hC]
  try walk_at "mx"
  rw [(times_add hT).1]
  try walk_at "mx"
  rw [strI_ok k0 k1]
  try walk_at "mx"
  rw [(times_add hT).2]
  try walk_at "mx"
  rw [show_cuts_none]
  try walk_at "mx"
  exact ⟨s7, rfl, h7⟩
def deskU (kvs : List (Key × U)) : U := .ins "Desk" [("webs", .dict kvs)]
theorem want_ok : fn_want [.bool true] = .ok .none [] := rfl
theorem desk_name {z : Str} {d : U} (h : nameB z = true) (hd : ∃ kvs, d = deskU kvs) : fn_Desk_look_at_name [d, .str z] = .ok .none [d] := ok_eq (by
  obtain ⟨kvs, rfl⟩ := hd
  have hl := (nameB_len h).2
  unfold fn_Desk_look_at_name
  rw [ok_fn, show sg_Desk_look_at_name.lents = [0] by decide]
  unfold mir_Desk_look_at_name
  try walk_at "mx"
  rw [is_name_eq (by omega), h]
  try walk_at "mx")
theorem name_ne {n : Str} (hn : nameB n = true) : n ≠ ("" : Str) := fun e => by
  have h := (nameB_len hn).1
  rw [e] at h
  exact absurd h (by decide +kernel)
theorem row_ne {w : Wb} (W : w.Ok) : rowS w ≠ ("" : Str) := fun e => by
  have h := split_semi W
  rw [e, show Txt.split ("" : Str) "; " = [("" : Str)] by decide +kernel] at h
  have h2 := split_head W
  have h3 : headT w = ("" : Str) := by
    unfold webRows at h
    injection h with h4
    exact h4.symm
  rw [h3, show Txt.split ("" : Str) " " = [("" : Str)] by decide +kernel] at h2
  injection h2 with h4
  exact absurd h4 (by decide +kernel)
theorem said_ok {w : Wb} {n : Str} (W : w.Ok) (hn : nameB n = true) : fn_Desk_said_web [deskU [], .str (("web" : Str) ++ " " ++ (n ++ " " ++ rowS w))] = .ok (.str "ok") [deskU [(.inr n, webU w)]] := ok_eq (by
  have hl := nameB_len hn
  have hT := rowS_len W
  have hTo := rowS_ok W
  have hno := nameB_strOk hn
  have bl : PyData.strOk (" " : Str) = true := by decide +kernel
  have r1 : PyData.strOk (n ++ " " ++ rowS w) = true := strOk_append (strOk_append hno bl) hTo
  have r2 : PyData.strOk (("web" : Str) ++ " " ++ (n ++ " " ++ rowS w)) = true := strOk_append (strOk_append (by decide +kernel) bl) r1
  have l1 : (" " : Str).length = 1 := rfl
  have l2 : ("web" : Str).length = 3 := rfl
  unfold fn_Desk_said_web
  rw [ok_fn, show sg_Desk_said_web.lents = [0] by decide]
  unfold mir_Desk_said_web
  try walk_at "mx"
  rw [uPartition_any rfl (by simp only [str_len]; omega) r2, part_first (a := ("web" : Str)) (by decide +kernel)]
  try walk_at "mx"
  rw [uPartition_any rfl (by simp only [str_len]; omega) r1, part_first (low_not hn (by decide))]
  try walk_at "mx"
  rw [if_pos (name_ne hn), decide_eq_false (row_ne W)]
  try walk_at "mx"
  rw [want_ok]
  try walk_at "mx"
  refine ⟨rfl, ?_⟩
  rw [desk_name hn ⟨_, rfl⟩]
  try walk_at "mx"
  rw [read_row_eq W]
  try walk_at "mx"
  exact ⟨_, sub_fld (cn := "Desk") (f := "webs") (k := .str n) (u := .dict []) (u' := .dict [(.inr n, webU w)]) (fs := [("webs", .dict [])]) rfl rfl rfl rfl, rfl⟩)
theorem rd_desk {n : Str} {w : U} {kvs : List (Key × U)} {P : U → S → Prop} (h : valU kvs (.inr n) = some w) (hp : P w [deskU kvs, .str n]) : Ok (rdM 0 (pixM 0 (pfldM "Desk" "webs" 0 (.pure [])) (vM 1) false) [deskU kvs, .str n]) P := by
  unfold rdM pixM
  simp only [ok_bind]
  rw [pfld_eq (w := .dict kvs) (fs := [("webs", .dict kvs)]) rfl rfl]
  have e : getP [.ix (.str n), .fld "webs"] (deskU kvs) = some w := h
  simp only [ok_ok, ok_v, List.getElem?_cons_succ, List.getElem?_cons_zero, Option.some.injEq, exists_eq_left']
  rw [e]
  simp only [ok_ok, List.getElem?_cons_zero]
  rw [e]
  exact hp
theorem val_one {n : Str} {w : U} : valU [((.inr n : Key), w)] (.inr n) = some w := by simp [valU]
theorem web_by_ok {w : Wb} {n : Str} : fn_Desk_web_by [deskU [(.inr n, webU w)], .str n] = .ok (webU w) [deskU [(.inr n, webU w)]] := ok_eq (by
  unfold fn_Desk_web_by
  rw [ok_fn, show sg_Desk_web_by.lents = [0] by decide]
  unfold mir_Desk_web_by
  try walk_at "mx"
  rw [rdF_eq (fs := [("webs", .dict [(.inr n, webU w)])]) (w := .dict [(.inr n, webU w)]) rfl rfl]
  try walk_at "mx"
  have e : uDNotIn (.str n) (.dict [(.inr n, webU w)]) = some (.bool false) := by
    show some (U.bool (!(valU [((.inr n : Key), webU w)] (.inr n)).isSome)) = _
    rw [val_one]
    rfl
  rw [e]
  refine ⟨_, rfl, _, rfl, ?_⟩
  rw [if_neg (by simp)]
  exact rd_desk val_one ⟨rfl, rfl⟩)
theorem told_ok90 {z : Str} : fn_told_of [.str "name", .str z] = .ok (.str z) [] := ok_eq (by
  unfold fn_told_of
  rw [ok_fn, show sg_told_of.lents = [] from rfl]
  unfold mir_told_of
  try walk_at "mx"
  rw [if_neg (by decide +kernel), if_neg (by decide +kernel)]
  trivial)
theorem ok_enT {m : Mo U} {s : S} {P : List U → S → Prop} : Ok (enTM m s) P ↔ Ok (m s) fun u s1 => ∃ xs, enumTU u = some xs ∧ P xs s1 := by unfold enTM; simp
theorem parts_ok90 {z : Str} : fn_parts_of_desk [.tupK [.str "name"], .list [.str z]] = .ok (.list [.str z]) [] := ok_eq (by
  unfold fn_parts_of_desk
  rw [ok_fn, show sg_parts_of_desk.lents = [] from rfl]
  unfold mir_parts_of_desk
  try walk_at "mx"
  rw [ok_enT]
  try walk_at "mx"
  refine ⟨_, rfl, ok_forP (α := Int × Str) (f := fun p => .tuple [.int p.1, .str p.2]) (xs := [((0 : Int), ("name" : Str))]) (fun p st => ∃ x3 x4 x5 : U, st = [.tupK [.str "name"], .list [.str z], .list (p.map fun _ => U.str z), x3, x4, x5]) ?_ ⟨_, _, _, rfl⟩ ?_⟩
  · rintro p x q st e ⟨x3, x4, x5, rfl⟩
    obtain ⟨rfl, rfl⟩ : p = [] ∧ x = ((0 : Int), ("name" : Str)) := by
      cases p with
      | nil => injection e with a b; exact ⟨rfl, a.symm⟩
      | cons y p => injection e with a b; simp at b
    try walk_at "mx"
    rw [if_neg (by decide +kernel)]
    try walk_at "mx"
    rw [want_ok]
    try walk_at "mx"
    rw [told_ok90]
    try walk_at "mx"
    exact ⟨_, rfl, _, _, _, rfl⟩
  · rintro st ⟨x3, x4, x5, rfl⟩
    try walk_at "mx"
    refine ⟨_, rfl, _, uEq_int, ?_⟩
    rw [decide_eq_true (by rfl), want_ok]
    try walk_at "mx")
theorem say_web {w : Wb} {n : Str} (W : w.Ok) (hn : nameB n = true) : fn_Desk_say [deskU [], .str (("web" : Str) ++ " " ++ (n ++ " " ++ rowS w))] = .ok (.str "ok") [deskU [(.inr n, webU w)]] := ok_eq (by
  have hl := nameB_len hn
  have hT := rowS_len W
  have hTo := rowS_ok W
  have hno := nameB_strOk hn
  have bl : PyData.strOk (" " : Str) = true := by decide +kernel
  have r2 : PyData.strOk (("web" : Str) ++ " " ++ (n ++ " " ++ rowS w)) = true := strOk_append (strOk_append (by decide +kernel) bl) (strOk_append (strOk_append hno bl) hTo)
  have l1 : (" " : Str).length = 1 := rfl
  have l2 : ("web" : Str).length = 3 := rfl
  have hs := said_ok W hn
  have sp := split_strs (x := ("web" : Str) ++ " " ++ (n ++ " " ++ rowS w)) (y := " ") rfl (by simp only [str_len]; omega) r2
  rw [split_first (a := ("web" : Str)) (by decide +kernel)] at sp
  revert sp hs
  generalize ("web" : Str) ++ " " ++ (n ++ " " ++ rowS w) = R
  intro hs sp
  unfold fn_Desk_say
  rw [ok_fn, show sg_Desk_say.lents = [0] by decide]
  unfold mir_Desk_say
  rw [ok_seqT]
  refine ok_mono (P := fun o st => o = none ∧ st = [deskU [], .str R, .none, .none, .none, .none]) ?_ ?_
  · try walk_at "mx"
    rw [want_ok]
    try walk_at "mx"
  rintro o st ⟨rfl, rfl⟩
  rw [thn_none]
  rw [ok_seqT]
  refine ok_mono (P := fun o st => o = none ∧ st = [deskU [], .str R, .list ((("web" : Str) :: Txt.split (n ++ " " ++ rowS w) " ").map U.str), .none, .none, .none]) ?_ ?_
  · try walk_at "mx"
    exact ⟨_, sp, rfl⟩
  rintro o st ⟨rfl, rfl⟩
  rw [thn_none]
  rw [List.map_cons]
  try walk_at "mx"
  refine ⟨rfl, ?_⟩
  rw [hs]
  try walk_at "mx")
theorem asked_text {w : Wb} {r : U} (W : w.Ok) : fn_asked_of_ways [.str "text", webU w, r] = .ok (.str (rowS w)) [] := ok_eq (by
  unfold fn_asked_of_ways
  rw [ok_fn, show sg_asked_of_ways.lents = [] from rfl]
  unfold mir_asked_of_ways
  try walk_at "mx"
  rw [show_web_eq W]
  try walk_at "mx")
theorem say_text {w : Wb} {n : Str} (W : w.Ok) (hn : nameB n = true) : fn_Desk_say [deskU [(.inr n, webU w)], .str (("text" : Str) ++ " " ++ n)] = .ok (.str (rowS w)) [deskU [(.inr n, webU w)]] := ok_eq (by
  have hl := nameB_len hn
  have hno := nameB_strOk hn
  have r2 : PyData.strOk (("text" : Str) ++ " " ++ n) = true := strOk_append (by decide +kernel) hno
  have l1 : (" " : Str).length = 1 := rfl
  have l2 : ("text" : Str).length = 4 := rfl
  have sp := split_strs (x := ("text" : Str) ++ " " ++ n) (y := " ") rfl (by simp only [str_len]; omega) r2
  rw [split_first (a := ("text" : Str)) (by decide +kernel), split_name hn] at sp
  revert sp
  generalize ("text" : Str) ++ " " ++ n = R
  intro sp
  unfold fn_Desk_say
  rw [ok_fn, show sg_Desk_say.lents = [0] by decide]
  unfold mir_Desk_say
  rw [ok_seqT]
  refine ok_mono (P := fun o st => o = none ∧ st = [deskU [(.inr n, webU w)], .str R, .none, .none, .none, .none]) ?_ ?_
  · try walk_at "mx"
    rw [want_ok]
    try walk_at "mx"
  rintro o st ⟨rfl, rfl⟩
  rw [thn_none]
  rw [ok_seqT]
  refine ok_mono (P := fun o st => o = none ∧ st = [deskU [(.inr n, webU w)], .str R, .list [.str "text", .str n], .none, .none, .none]) ?_ ?_
  · try walk_at "mx"
    exact ⟨_, sp, rfl⟩
  rintro o st ⟨rfl, rfl⟩
  rw [thn_none]
  rw [ok_seqT]
  refine ok_mono (P := fun o st => o = none ∧ st = [deskU [(.inr n, webU w)], .str R, .list [.str "text", .str n], .none, .none, .none]) ?_ ?_
  · try walk_at "mx"
    rw [if_neg (by decide +kernel)]
    try walk_at "mx"
  rintro o st ⟨rfl, rfl⟩
  rw [thn_none]
  rw [ok_seqT]
  refine ok_mono (P := fun o st => o = none ∧ st = [deskU [(.inr n, webU w)], .str R, .list [.str "text", .str n], .none, .none, .none]) ?_ ?_
  · try walk_at "mx"
    refine ⟨_, (show uInF "FORMS" tab_FORMS (U.str "text") (U.fn "FORMS") = some (.bool true) from rfl), true, rfl, ?_⟩
    rw [if_pos rfl, show U.list [.str "text", .str n] = .list ((["text", n] : List Str).map U.str) from rfl, uNotIn_str]
    try walk_at "mx"
    have nin : ¬ ("" : Str) ∈ (["text", n] : List Str) := fun h => by
      simp only [List.mem_cons, List.mem_nil_iff, or_false] at h
      rcases h with h | h
      · exact absurd h (by decide +kernel)
      · exact name_ne hn h.symm
    rw [decide_eq_false nin]
    show Ok (fn_want [.bool true]) _
    rw [want_ok]
    try walk_at "mx"
  rintro o st ⟨rfl, rfl⟩
  rw [thn_none]
  rw [ok_seqT]
  refine ok_mono (P := fun o st => o = none ∧ st = [deskU [(.inr n, webU w)], .str R, .list [.str "text", .str n], .tupK [.str "name"], .none, .none]) ?_ ?_
  · try walk_at "mx"
    exact ⟨_, (show uIxF "FORMS" tab_FORMS (U.fn "FORMS") (U.str "text") = some (.tupK [.str "name"]) by rfl), rfl⟩
  rintro o st ⟨rfl, rfl⟩
  rw [thn_none]
  rw [ok_seqT]
  refine ok_mono (P := fun o st => o = none ∧ st = [deskU [(.inr n, webU w)], .str R, .list [.str "text", .str n], .tupK [.str "name"], .list [.str n], .none]) ?_ ?_
  · try walk_at "mx"
    rw [uCut_drop (by decide), show (List.drop (Int.toNat 1) [U.str "text", U.str n]) = [.str n] from rfl]
    try walk_at "mx"
    rw [parts_ok90]
    try walk_at "mx"
  rintro o st ⟨rfl, rfl⟩
  rw [thn_none]
  rw [ok_seqT]
  refine ok_mono (P := fun o st => o = none ∧ st = [deskU [(.inr n, webU w)], .str R, .list [.str "text", .str n], .tupK [.str "name"], .list [.str n], .none]) ?_ ?_
  · try walk_at "mx"
    refine ⟨_, (show uNotIn (U.str "text") (U.tuple [.str "draw", .str "turn"]) = some (.bool true) by rfl), true, rfl, ?_⟩
    rw [if_pos rfl, want_ok]
    try walk_at "mx"
  rintro o st ⟨rfl, rfl⟩
  rw [thn_none]
  rw [ok_seqT]
  refine ok_mono (P := fun o st => o = none ∧ st = [deskU [(.inr n, webU w)], .str R, .list [.str "text", .str n], .tupK [.str "name"], .list [.str n], .none]) ?_ ?_
  · try walk_at "mx"
    rw [if_pos (by decide +kernel), want_ok]
    try walk_at "mx"
  rintro o st ⟨rfl, rfl⟩
  rw [thn_none]
  rw [ok_seqT]
  refine ok_mono (P := fun o st => o = none ∧ st = [deskU [(.inr n, webU w)], .str R, .list [.str "text", .str n], .tupK [.str "name"], .list [.str n], .none]) ?_ ?_
  · try walk_at "mx"
    refine ⟨_, (show uIdx (U.tupK [.str "name"]) (.int 0) = some (.str "name") from rfl), _, uEq_str, _, rfl, ?_⟩
    rw [if_neg (by decide +kernel)]
    trivial
  rintro o st ⟨rfl, rfl⟩
  rw [thn_none]
  rw [ok_seqT]
  refine ok_mono (P := fun o st => o = none ∧ st = [deskU [(.inr n, webU w)], .str R, .list [.str "text", .str n], .tupK [.str "name"], .list [.str n], webU w]) ?_ ?_
  · try walk_at "mx"
    refine ⟨rfl, ?_⟩
    rw [web_by_ok]
    try walk_at "mx"
  rintro o st ⟨rfl, rfl⟩
  rw [thn_none]
  try walk_at "mx"
  refine ⟨_, (show uIn (U.str "text") (U.tuple [U.str "text", U.str "reach", U.str "way", U.str "cuts", U.str "least", U.str "bare"]) = some (.bool true) from rfl), true, rfl, ?_⟩
  rw [if_pos rfl, uCut_drop (by decide)]
  try walk_at "mx"
  rw [asked_text W]
  try walk_at "mx")
theorem self_webU {names : List Str} {ties : List (Str × Str)} (hs : sortS names = names) (H : Hand names ties) : fn_Web_init [.ins "Web" [], .list (names.map U.str), .list (ties.map tieU)] = .ok .none [webU ⟨names, ties⟩] := by
  have := web_init H
  rwa [hs] at this
theorem desk_init : fn_Desk_init [.ins "Desk" []] = .ok .none [deskU []] := rfl
theorem law_ok (ns : List Int) (hl : ns.length ≤ 63) (hb : ∀ z ∈ ns, Builtin.Int.intBits z ≤ 1048576) : ∃ fin, fn_law [.list (ns.map U.int)] = .ok (.bool true) fin := by
  suffices Ok (fn_law [.list (ns.map U.int)]) (fun u _ => u = .bool true) by
    obtain ⟨u, fin, e, rfl⟩ := okF this
    exact ⟨fin, e⟩
  unfold fn_law
  rw [ok_fn]
  unfold mir_law
  try walk_at "mx"
  have hN : ∃ N : Int, (if (if 8 < (ns.length : Int) then 8 else (ns.length : Int)) > 1 then if 8 < (ns.length : Int) then 8 else (ns.length : Int) else 1) = N ∧ N ≤ 8 ∧ 1 ≤ N := ⟨_, rfl, by split <;> split <;> omega, by split <;> omega⟩
  obtain ⟨N, eN, n1, n2⟩ := hN
  rw [eN]
  refine ⟨by omega, ok_forP (α := Int) (fun _ st => ∃ x1 x2 x3 x4 x5 x6 x7 : U, st = [.list (ns.map U.int), x1, x2, x3, x4, x5, x6, x7]) ?_ ⟨_, _, _, _, _, _, _, rfl⟩ ?_⟩
  · rintro p k q st e ⟨x1, x2, x3, x4, x5, x6, x7, rfl⟩
    have hk' : k ∈ rangeL 0 N := by rw [e]; simp
    obtain ⟨k, rfl, hk2⟩ : ∃ i : Nat, k = i ∧ i ≤ 100 := by
      have := rangeL_mem hk'
      exact ⟨k.toNat, by omega, by omega⟩
    try walk_at "mx"
    refine ok_mono (row_at (k := k)) fun s5 fin hs5 => ?_
    try walk_at "mx"
    refine ok_mono (drawn_ok hs5) fun u fin ⟨s6, names0, ties, e, hs5', e2, H0⟩ => ?_
    subst e e2
    have H := hand_sort H0
    have hs : sortS (sortS names0) = sortS names0 := sortS_sortS
    generalize sortS names0 = names at H hs ⊢
    have W : (⟨names, ties⟩ : Wb).Ok := by have := H.ok; rwa [hs] at this
    have h1 := H.one
    have h12 := H.most
    have hlT := rowS_len W
    obtain ⟨n, rest, en⟩ := List.exists_cons_of_length_pos (show 0 < names.length by omega)
    have hn : nameB n = true := H.nm n (by rw [en]; simp)
    have hln := (nameB_len hn).2
    have i0 : uIdx (.list (names.map U.str)) (.int 0) = some (.str n) := by rw [en]; exact idx_at (n := 0) rfl rfl
    try walk_at "mx"
    rw [written90 H hs]
    try walk_at "mx"
    rw [self_webU hs H]
    try walk_at "mx"
    rw [show_web_eq W]
    try walk_at "mx"
    rw [read_row_eq W]
    try walk_at "mx"
    rw [places_eq]
    try walk_at "mx"
    rw [ties_eq]
    try walk_at "mx"
    refine ok_mono (shown90 hs5' h1 h12 H.nm) fun u fin ⟨s7, e, hs7, e2⟩ => ?_
    subst e e2
    try walk_at "mx"
    rw [desk_init]
    try walk_at "mx"
    rw [i0]
    refine ⟨rfl, _, rfl, ?_⟩
    have l4 : ("web " : Str).length = 4 := rfl
    have l1 : (" " : Str).length = 1 := rfl
    have l5 : ("text " : Str).length = 5 := rfl
    rw [uAdd_str (by omega)]
    try walk_at "mx"
    rw [uAdd_str (by simp only [str_len]; omega)]
    try walk_at "mx"
    rw [uAdd_str (by simp only [str_len]; omega)]
    try walk_at "mx"
    rw [web_row, say_web W hn]
    try walk_at "mx"
    refine ⟨rfl, _, uAdd_str (by omega), ?_⟩
    rw [text_row, say_text W hn]
    try walk_at "mx"
    exact ⟨_, _, _, _, _, _, _, rfl⟩
  · rintro st ⟨x1, x2, x3, x4, x5, x6, x7, rfl⟩
    try walk_at "mx"
end V4.C_k90
namespace V4.C_k90
open PySem PySem.Spec PyProof.Rows L2 L3 RZ
theorem clsAt_of {K : PySem.W.Frag} {x : Str} {a : Addr} (h : PySem.W.nsIn K mainGlobals x = some (some (.ref a))) : clsAt K x = a := by unfold clsAt; rw [h]
theorem all_mk {l : PySem.W.OpenLaw} {w : World} {K : PySem.W.Frag} {h : Heap} {mg : Str → Option Value} {fa : Addr} (X : K.In h) (Gn : h.Ns mainGlobals mg) (hfa : mg "law" = some (.ref fa))
    {c_Desk : Addr} (aC_Desk : PySem.W.nsIn K mainGlobals "Desk" = some (some (.ref c_Desk)))
    {c_NoName : Addr} (aC_NoName : PySem.W.nsIn K mainGlobals "NoName" = some (some (.ref c_NoName)))
    {c_NoRow : Addr} (aC_NoRow : PySem.W.nsIn K mainGlobals "NoRow" = some (some (.ref c_NoRow)))
    {c_NoText : Addr} (aC_NoText : PySem.W.nsIn K mainGlobals "NoText" = some (some (.ref c_NoText)))
    {c_NoWeb : Addr} (aC_NoWeb : PySem.W.nsIn K mainGlobals "NoWeb" = some (some (.ref c_NoWeb)))
    {c_Web : Addr} (aC_Web : PySem.W.nsIn K mainGlobals "Web" = some (some (.ref c_Web)))
    {f__law_pot_at : Addr} {oc__law_pot_at kV__law_pot_at dc__law_pot_at pm__law_pot_at cd__law_pot_at ct__law_pot_at : Value} {od__law_pot_at an__law_pot_at : Option Addr} {sl__law_pot_at : Array (Option Value)}
    (a__law_pot_at : PySem.W.nsIn K mainGlobals "_law_pot_at" = some (some (.ref f__law_pot_at)))
    (l__law_pot_at : K.lookup f__law_pot_at = some ⟨oc__law_pot_at, od__law_pot_at, .func (PySem.W.fnOf "_law_pot_at" "_law_pot_at" (defArgs st__law_pot_at) (defBody st__law_pot_at) (defScope st__law_pot_at) .none kV__law_pot_at dc__law_pot_at pm__law_pot_at an__law_pot_at cd__law_pot_at ct__law_pot_at), sl__law_pot_at⟩) (cc__law_pot_at : PySem.W.codeIn K cd__law_pot_at "_law_pot_at" = true) (k__law_pot_at : PySem.W.keepIn K (.ref f__law_pot_at) = true)
    {f__law_draw : Addr} {oc__law_draw kV__law_draw dc__law_draw pm__law_draw cd__law_draw ct__law_draw : Value} {od__law_draw an__law_draw : Option Addr} {sl__law_draw : Array (Option Value)}
    (a__law_draw : PySem.W.nsIn K mainGlobals "_law_draw" = some (some (.ref f__law_draw)))
    (l__law_draw : K.lookup f__law_draw = some ⟨oc__law_draw, od__law_draw, .func (PySem.W.fnOf "_law_draw" "_law_draw" (defArgs st__law_draw) (defBody st__law_draw) (defScope st__law_draw) .none kV__law_draw dc__law_draw pm__law_draw an__law_draw cd__law_draw ct__law_draw), sl__law_draw⟩) (cc__law_draw : PySem.W.codeIn K cd__law_draw "_law_draw" = true) (k__law_draw : PySem.W.keepIn K (.ref f__law_draw) = true)
    {f__law_name : Addr} {oc__law_name kV__law_name dc__law_name pm__law_name cd__law_name ct__law_name : Value} {od__law_name an__law_name : Option Addr} {sl__law_name : Array (Option Value)}
    (a__law_name : PySem.W.nsIn K mainGlobals "_law_name" = some (some (.ref f__law_name)))
    (l__law_name : K.lookup f__law_name = some ⟨oc__law_name, od__law_name, .func (PySem.W.fnOf "_law_name" "_law_name" (defArgs st__law_name) (defBody st__law_name) (defScope st__law_name) .none kV__law_name dc__law_name pm__law_name an__law_name cd__law_name ct__law_name), sl__law_name⟩) (cc__law_name : PySem.W.codeIn K cd__law_name "_law_name" = true) (k__law_name : PySem.W.keepIn K (.ref f__law_name) = true)
    {f__law_drawn : Addr} {oc__law_drawn kV__law_drawn dc__law_drawn pm__law_drawn cd__law_drawn ct__law_drawn : Value} {od__law_drawn an__law_drawn : Option Addr} {sl__law_drawn : Array (Option Value)}
    (a__law_drawn : PySem.W.nsIn K mainGlobals "_law_drawn" = some (some (.ref f__law_drawn)))
    (l__law_drawn : K.lookup f__law_drawn = some ⟨oc__law_drawn, od__law_drawn, .func (PySem.W.fnOf "_law_drawn" "_law_drawn" (defArgs st__law_drawn) (defBody st__law_drawn) (defScope st__law_drawn) .none kV__law_drawn dc__law_drawn pm__law_drawn an__law_drawn cd__law_drawn ct__law_drawn), sl__law_drawn⟩) (cc__law_drawn : PySem.W.codeIn K cd__law_drawn "_law_drawn" = true) (k__law_drawn : PySem.W.keepIn K (.ref f__law_drawn) = true)
    {f__law_written : Addr} {oc__law_written kV__law_written dc__law_written pm__law_written cd__law_written ct__law_written : Value} {od__law_written an__law_written : Option Addr} {sl__law_written : Array (Option Value)}
    (a__law_written : PySem.W.nsIn K mainGlobals "_law_written" = some (some (.ref f__law_written)))
    (l__law_written : K.lookup f__law_written = some ⟨oc__law_written, od__law_written, .func (PySem.W.fnOf "_law_written" "_law_written" (defArgs st__law_written) (defBody st__law_written) (defScope st__law_written) .none kV__law_written dc__law_written pm__law_written an__law_written cd__law_written ct__law_written), sl__law_written⟩) (cc__law_written : PySem.W.codeIn K cd__law_written "_law_written" = true) (k__law_written : PySem.W.keepIn K (.ref f__law_written) = true)
    {f_is_name : Addr} {oc_is_name kV_is_name dc_is_name pm_is_name cd_is_name ct_is_name : Value} {od_is_name an_is_name : Option Addr} {sl_is_name : Array (Option Value)}
    (a_is_name : PySem.W.nsIn K mainGlobals "is_name" = some (some (.ref f_is_name)))
    (l_is_name : K.lookup f_is_name = some ⟨oc_is_name, od_is_name, .func (PySem.W.fnOf "is_name" "is_name" (defArgs st_is_name) (defBody st_is_name) (defScope st_is_name) .none kV_is_name dc_is_name pm_is_name an_is_name cd_is_name ct_is_name), sl_is_name⟩) (cc_is_name : PySem.W.codeIn K cd_is_name "is_name" = true) (k_is_name : PySem.W.keepIn K (.ref f_is_name) = true)
    {f_are_places : Addr} {oc_are_places kV_are_places dc_are_places pm_are_places cd_are_places ct_are_places : Value} {od_are_places an_are_places : Option Addr} {sl_are_places : Array (Option Value)}
    (a_are_places : PySem.W.nsIn K mainGlobals "are_places" = some (some (.ref f_are_places)))
    (l_are_places : K.lookup f_are_places = some ⟨oc_are_places, od_are_places, .func (PySem.W.fnOf "are_places" "are_places" (defArgs st_are_places) (defBody st_are_places) (defScope st_are_places) .none kV_are_places dc_are_places pm_are_places an_are_places cd_are_places ct_are_places), sl_are_places⟩) (cc_are_places : PySem.W.codeIn K cd_are_places "are_places" = true) (k_are_places : PySem.W.keepIn K (.ref f_are_places) = true)
    {f_is_tie : Addr} {oc_is_tie kV_is_tie dc_is_tie pm_is_tie cd_is_tie ct_is_tie : Value} {od_is_tie an_is_tie : Option Addr} {sl_is_tie : Array (Option Value)}
    (a_is_tie : PySem.W.nsIn K mainGlobals "is_tie" = some (some (.ref f_is_tie)))
    (l_is_tie : K.lookup f_is_tie = some ⟨oc_is_tie, od_is_tie, .func (PySem.W.fnOf "is_tie" "is_tie" (defArgs st_is_tie) (defBody st_is_tie) (defScope st_is_tie) .none kV_is_tie dc_is_tie pm_is_tie an_is_tie cd_is_tie ct_is_tie), sl_is_tie⟩) (cc_is_tie : PySem.W.codeIn K cd_is_tie "is_tie" = true) (k_is_tie : PySem.W.keepIn K (.ref f_is_tie) = true)
    {f_Web_init : Addr} {oc_Web_init kV_Web_init dc_Web_init pm_Web_init cd_Web_init ct_Web_init : Value} {od_Web_init an_Web_init : Option Addr} {sl_Web_init : Array (Option Value)}
    (a_Web_init : PySem.W.findIn K (.ref c_Web) "__init__" = some (some (.ref f_Web_init))) (i_Web_init : PySem.W.isFn K (.ref f_Web_init) = true)
    (l_Web_init : K.lookup f_Web_init = some ⟨oc_Web_init, od_Web_init, .func (PySem.W.fnOf "__init__" "Web.__init__" (defArgs st_Web_init) (defBody st_Web_init) (defScope st_Web_init) .none kV_Web_init dc_Web_init pm_Web_init an_Web_init cd_Web_init ct_Web_init), sl_Web_init⟩) (cc_Web_init : PySem.W.codeIn K cd_Web_init "Web.__init__" = true) (k_Web_init : PySem.W.keepIn K (.ref f_Web_init) = true)
    {f_Web_places : Addr} {oc_Web_places kV_Web_places dc_Web_places pm_Web_places cd_Web_places ct_Web_places : Value} {od_Web_places an_Web_places : Option Addr} {sl_Web_places : Array (Option Value)}
    (a_Web_places : PySem.W.findIn K (.ref c_Web) "places" = some (some (.ref f_Web_places))) (i_Web_places : PySem.W.isFn K (.ref f_Web_places) = true)
    (l_Web_places : K.lookup f_Web_places = some ⟨oc_Web_places, od_Web_places, .func (PySem.W.fnOf "places" "Web.places" (defArgs st_Web_places) (defBody st_Web_places) (defScope st_Web_places) .none kV_Web_places dc_Web_places pm_Web_places an_Web_places cd_Web_places ct_Web_places), sl_Web_places⟩) (cc_Web_places : PySem.W.codeIn K cd_Web_places "Web.places" = true) (k_Web_places : PySem.W.keepIn K (.ref f_Web_places) = true)
    {f_Web_ties : Addr} {oc_Web_ties kV_Web_ties dc_Web_ties pm_Web_ties cd_Web_ties ct_Web_ties : Value} {od_Web_ties an_Web_ties : Option Addr} {sl_Web_ties : Array (Option Value)}
    (a_Web_ties : PySem.W.findIn K (.ref c_Web) "ties" = some (some (.ref f_Web_ties))) (i_Web_ties : PySem.W.isFn K (.ref f_Web_ties) = true)
    (l_Web_ties : K.lookup f_Web_ties = some ⟨oc_Web_ties, od_Web_ties, .func (PySem.W.fnOf "ties" "Web.ties" (defArgs st_Web_ties) (defBody st_Web_ties) (defScope st_Web_ties) .none kV_Web_ties dc_Web_ties pm_Web_ties an_Web_ties cd_Web_ties ct_Web_ties), sl_Web_ties⟩) (cc_Web_ties : PySem.W.codeIn K cd_Web_ties "Web.ties" = true) (k_Web_ties : PySem.W.keepIn K (.ref f_Web_ties) = true)
    {f_web_text : Addr} {oc_web_text kV_web_text dc_web_text pm_web_text cd_web_text ct_web_text : Value} {od_web_text an_web_text : Option Addr} {sl_web_text : Array (Option Value)}
    (a_web_text : PySem.W.nsIn K mainGlobals "web_text" = some (some (.ref f_web_text)))
    (l_web_text : K.lookup f_web_text = some ⟨oc_web_text, od_web_text, .func (PySem.W.fnOf "web_text" "web_text" (defArgs st_web_text) (defBody st_web_text) (defScope st_web_text) .none kV_web_text dc_web_text pm_web_text an_web_text cd_web_text ct_web_text), sl_web_text⟩) (cc_web_text : PySem.W.codeIn K cd_web_text "web_text" = true) (k_web_text : PySem.W.keepIn K (.ref f_web_text) = true)
    {f_show_web : Addr} {oc_show_web kV_show_web dc_show_web pm_show_web cd_show_web ct_show_web : Value} {od_show_web an_show_web : Option Addr} {sl_show_web : Array (Option Value)}
    (a_show_web : PySem.W.nsIn K mainGlobals "show_web" = some (some (.ref f_show_web)))
    (l_show_web : K.lookup f_show_web = some ⟨oc_show_web, od_show_web, .func (PySem.W.fnOf "show_web" "show_web" (defArgs st_show_web) (defBody st_show_web) (defScope st_show_web) .none kV_show_web dc_show_web pm_show_web an_show_web cd_show_web ct_show_web), sl_show_web⟩) (cc_show_web : PySem.W.codeIn K cd_show_web "show_web" = true) (k_show_web : PySem.W.keepIn K (.ref f_show_web) = true)
    {f_tie_in : Addr} {oc_tie_in kV_tie_in dc_tie_in pm_tie_in cd_tie_in ct_tie_in : Value} {od_tie_in an_tie_in : Option Addr} {sl_tie_in : Array (Option Value)}
    (a_tie_in : PySem.W.nsIn K mainGlobals "tie_in" = some (some (.ref f_tie_in)))
    (l_tie_in : K.lookup f_tie_in = some ⟨oc_tie_in, od_tie_in, .func (PySem.W.fnOf "tie_in" "tie_in" (defArgs st_tie_in) (defBody st_tie_in) (defScope st_tie_in) .none kV_tie_in dc_tie_in pm_tie_in an_tie_in cd_tie_in ct_tie_in), sl_tie_in⟩) (cc_tie_in : PySem.W.codeIn K cd_tie_in "tie_in" = true) (k_tie_in : PySem.W.keepIn K (.ref f_tie_in) = true)
    {f_read_web : Addr} {oc_read_web kV_read_web dc_read_web pm_read_web cd_read_web ct_read_web : Value} {od_read_web an_read_web : Option Addr} {sl_read_web : Array (Option Value)}
    (a_read_web : PySem.W.nsIn K mainGlobals "read_web" = some (some (.ref f_read_web)))
    (l_read_web : K.lookup f_read_web = some ⟨oc_read_web, od_read_web, .func (PySem.W.fnOf "read_web" "read_web" (defArgs st_read_web) (defBody st_read_web) (defScope st_read_web) .none kV_read_web dc_read_web pm_read_web an_read_web cd_read_web ct_read_web), sl_read_web⟩) (cc_read_web : PySem.W.codeIn K cd_read_web "read_web" = true) (k_read_web : PySem.W.keepIn K (.ref f_read_web) = true)
    {f_read_row : Addr} {oc_read_row kV_read_row dc_read_row pm_read_row cd_read_row ct_read_row : Value} {od_read_row an_read_row : Option Addr} {sl_read_row : Array (Option Value)}
    (a_read_row : PySem.W.nsIn K mainGlobals "read_row" = some (some (.ref f_read_row)))
    (l_read_row : K.lookup f_read_row = some ⟨oc_read_row, od_read_row, .func (PySem.W.fnOf "read_row" "read_row" (defArgs st_read_row) (defBody st_read_row) (defScope st_read_row) .none kV_read_row dc_read_row pm_read_row an_read_row cd_read_row ct_read_row), sl_read_row⟩) (cc_read_row : PySem.W.codeIn K cd_read_row "read_row" = true) (k_read_row : PySem.W.keepIn K (.ref f_read_row) = true)
    {f_show_ties : Addr} {oc_show_ties kV_show_ties dc_show_ties pm_show_ties cd_show_ties ct_show_ties : Value} {od_show_ties an_show_ties : Option Addr} {sl_show_ties : Array (Option Value)}
    (a_show_ties : PySem.W.nsIn K mainGlobals "show_ties" = some (some (.ref f_show_ties)))
    (l_show_ties : K.lookup f_show_ties = some ⟨oc_show_ties, od_show_ties, .func (PySem.W.fnOf "show_ties" "show_ties" (defArgs st_show_ties) (defBody st_show_ties) (defScope st_show_ties) .none kV_show_ties dc_show_ties pm_show_ties an_show_ties cd_show_ties ct_show_ties), sl_show_ties⟩) (cc_show_ties : PySem.W.codeIn K cd_show_ties "show_ties" = true) (k_show_ties : PySem.W.keepIn K (.ref f_show_ties) = true)
    {f_show_cut : Addr} {oc_show_cut kV_show_cut dc_show_cut pm_show_cut cd_show_cut ct_show_cut : Value} {od_show_cut an_show_cut : Option Addr} {sl_show_cut : Array (Option Value)}
    (a_show_cut : PySem.W.nsIn K mainGlobals "show_cut" = some (some (.ref f_show_cut)))
    (l_show_cut : K.lookup f_show_cut = some ⟨oc_show_cut, od_show_cut, .func (PySem.W.fnOf "show_cut" "show_cut" (defArgs st_show_cut) (defBody st_show_cut) (defScope st_show_cut) .none kV_show_cut dc_show_cut pm_show_cut an_show_cut cd_show_cut ct_show_cut), sl_show_cut⟩) (cc_show_cut : PySem.W.codeIn K cd_show_cut "show_cut" = true) (k_show_cut : PySem.W.keepIn K (.ref f_show_cut) = true)
    {f_show_times : Addr} {oc_show_times kV_show_times dc_show_times pm_show_times cd_show_times ct_show_times : Value} {od_show_times an_show_times : Option Addr} {sl_show_times : Array (Option Value)}
    (a_show_times : PySem.W.nsIn K mainGlobals "show_times" = some (some (.ref f_show_times)))
    (l_show_times : K.lookup f_show_times = some ⟨oc_show_times, od_show_times, .func (PySem.W.fnOf "show_times" "show_times" (defArgs st_show_times) (defBody st_show_times) (defScope st_show_times) .none kV_show_times dc_show_times pm_show_times an_show_times cd_show_times ct_show_times), sl_show_times⟩) (cc_show_times : PySem.W.codeIn K cd_show_times "show_times" = true) (k_show_times : PySem.W.keepIn K (.ref f_show_times) = true)
    {f_show_cuts : Addr} {oc_show_cuts kV_show_cuts dc_show_cuts pm_show_cuts cd_show_cuts ct_show_cuts : Value} {od_show_cuts an_show_cuts : Option Addr} {sl_show_cuts : Array (Option Value)}
    (a_show_cuts : PySem.W.nsIn K mainGlobals "show_cuts" = some (some (.ref f_show_cuts)))
    (l_show_cuts : K.lookup f_show_cuts = some ⟨oc_show_cuts, od_show_cuts, .func (PySem.W.fnOf "show_cuts" "show_cuts" (defArgs st_show_cuts) (defBody st_show_cuts) (defScope st_show_cuts) .none kV_show_cuts dc_show_cuts pm_show_cuts an_show_cuts cd_show_cuts ct_show_cuts), sl_show_cuts⟩) (cc_show_cuts : PySem.W.codeIn K cd_show_cuts "show_cuts" = true) (k_show_cuts : PySem.W.keepIn K (.ref f_show_cuts) = true)
    {f__law_shown_right : Addr} {oc__law_shown_right kV__law_shown_right dc__law_shown_right pm__law_shown_right cd__law_shown_right ct__law_shown_right : Value} {od__law_shown_right an__law_shown_right : Option Addr} {sl__law_shown_right : Array (Option Value)}
    (a__law_shown_right : PySem.W.nsIn K mainGlobals "_law_shown_right" = some (some (.ref f__law_shown_right)))
    (l__law_shown_right : K.lookup f__law_shown_right = some ⟨oc__law_shown_right, od__law_shown_right, .func (PySem.W.fnOf "_law_shown_right" "_law_shown_right" (defArgs st__law_shown_right) (defBody st__law_shown_right) (defScope st__law_shown_right) .none kV__law_shown_right dc__law_shown_right pm__law_shown_right an__law_shown_right cd__law_shown_right ct__law_shown_right), sl__law_shown_right⟩) (cc__law_shown_right : PySem.W.codeIn K cd__law_shown_right "_law_shown_right" = true) (k__law_shown_right : PySem.W.keepIn K (.ref f__law_shown_right) = true)
    {f_Desk_init : Addr} {oc_Desk_init kV_Desk_init dc_Desk_init pm_Desk_init cd_Desk_init ct_Desk_init : Value} {od_Desk_init an_Desk_init : Option Addr} {sl_Desk_init : Array (Option Value)}
    (a_Desk_init : PySem.W.findIn K (.ref c_Desk) "__init__" = some (some (.ref f_Desk_init))) (i_Desk_init : PySem.W.isFn K (.ref f_Desk_init) = true)
    (l_Desk_init : K.lookup f_Desk_init = some ⟨oc_Desk_init, od_Desk_init, .func (PySem.W.fnOf "__init__" "Desk.__init__" (defArgs st_Desk_init) (defBody st_Desk_init) (defScope st_Desk_init) .none kV_Desk_init dc_Desk_init pm_Desk_init an_Desk_init cd_Desk_init ct_Desk_init), sl_Desk_init⟩) (cc_Desk_init : PySem.W.codeIn K cd_Desk_init "Desk.__init__" = true) (k_Desk_init : PySem.W.keepIn K (.ref f_Desk_init) = true)
    {f_want : Addr} {oc_want kV_want dc_want pm_want cd_want ct_want : Value} {od_want an_want : Option Addr} {sl_want : Array (Option Value)}
    (a_want : PySem.W.nsIn K mainGlobals "want" = some (some (.ref f_want)))
    (l_want : K.lookup f_want = some ⟨oc_want, od_want, .func (PySem.W.fnOf "want" "want" (defArgs st_want) (defBody st_want) (defScope st_want) .none kV_want dc_want pm_want an_want cd_want ct_want), sl_want⟩) (cc_want : PySem.W.codeIn K cd_want "want" = true) (k_want : PySem.W.keepIn K (.ref f_want) = true)
    {f_Desk_look_at_name : Addr} {oc_Desk_look_at_name kV_Desk_look_at_name dc_Desk_look_at_name pm_Desk_look_at_name cd_Desk_look_at_name ct_Desk_look_at_name : Value} {od_Desk_look_at_name an_Desk_look_at_name : Option Addr} {sl_Desk_look_at_name : Array (Option Value)}
    (a_Desk_look_at_name : PySem.W.findIn K (.ref c_Desk) "look_at_name" = some (some (.ref f_Desk_look_at_name))) (i_Desk_look_at_name : PySem.W.isFn K (.ref f_Desk_look_at_name) = true)
    (l_Desk_look_at_name : K.lookup f_Desk_look_at_name = some ⟨oc_Desk_look_at_name, od_Desk_look_at_name, .func (PySem.W.fnOf "look_at_name" "Desk.look_at_name" (defArgs st_Desk_look_at_name) (defBody st_Desk_look_at_name) (defScope st_Desk_look_at_name) .none kV_Desk_look_at_name dc_Desk_look_at_name pm_Desk_look_at_name an_Desk_look_at_name cd_Desk_look_at_name ct_Desk_look_at_name), sl_Desk_look_at_name⟩) (cc_Desk_look_at_name : PySem.W.codeIn K cd_Desk_look_at_name "Desk.look_at_name" = true) (k_Desk_look_at_name : PySem.W.keepIn K (.ref f_Desk_look_at_name) = true)
    {f_Desk_said_web : Addr} {oc_Desk_said_web kV_Desk_said_web dc_Desk_said_web pm_Desk_said_web cd_Desk_said_web ct_Desk_said_web : Value} {od_Desk_said_web an_Desk_said_web : Option Addr} {sl_Desk_said_web : Array (Option Value)}
    (a_Desk_said_web : PySem.W.findIn K (.ref c_Desk) "said_web" = some (some (.ref f_Desk_said_web))) (i_Desk_said_web : PySem.W.isFn K (.ref f_Desk_said_web) = true)
    (l_Desk_said_web : K.lookup f_Desk_said_web = some ⟨oc_Desk_said_web, od_Desk_said_web, .func (PySem.W.fnOf "said_web" "Desk.said_web" (defArgs st_Desk_said_web) (defBody st_Desk_said_web) (defScope st_Desk_said_web) .none kV_Desk_said_web dc_Desk_said_web pm_Desk_said_web an_Desk_said_web cd_Desk_said_web ct_Desk_said_web), sl_Desk_said_web⟩) (cc_Desk_said_web : PySem.W.codeIn K cd_Desk_said_web "Desk.said_web" = true) (k_Desk_said_web : PySem.W.keepIn K (.ref f_Desk_said_web) = true)
    {f_told_of : Addr} {oc_told_of kV_told_of dc_told_of pm_told_of cd_told_of ct_told_of : Value} {od_told_of an_told_of : Option Addr} {sl_told_of : Array (Option Value)}
    (a_told_of : PySem.W.nsIn K mainGlobals "told_of" = some (some (.ref f_told_of)))
    (l_told_of : K.lookup f_told_of = some ⟨oc_told_of, od_told_of, .func (PySem.W.fnOf "told_of" "told_of" (defArgs st_told_of) (defBody st_told_of) (defScope st_told_of) .none kV_told_of dc_told_of pm_told_of an_told_of cd_told_of ct_told_of), sl_told_of⟩) (cc_told_of : PySem.W.codeIn K cd_told_of "told_of" = true) (k_told_of : PySem.W.keepIn K (.ref f_told_of) = true)
    {f_parts_of_desk : Addr} {oc_parts_of_desk kV_parts_of_desk dc_parts_of_desk pm_parts_of_desk cd_parts_of_desk ct_parts_of_desk : Value} {od_parts_of_desk an_parts_of_desk : Option Addr} {sl_parts_of_desk : Array (Option Value)}
    (a_parts_of_desk : PySem.W.nsIn K mainGlobals "parts_of_desk" = some (some (.ref f_parts_of_desk)))
    (l_parts_of_desk : K.lookup f_parts_of_desk = some ⟨oc_parts_of_desk, od_parts_of_desk, .func (PySem.W.fnOf "parts_of" "parts_of" (defArgs st_parts_of_desk) (defBody st_parts_of_desk) (defScope st_parts_of_desk) .none kV_parts_of_desk dc_parts_of_desk pm_parts_of_desk an_parts_of_desk cd_parts_of_desk ct_parts_of_desk), sl_parts_of_desk⟩) (cc_parts_of_desk : PySem.W.codeIn K cd_parts_of_desk "parts_of" = true) (k_parts_of_desk : PySem.W.keepIn K (.ref f_parts_of_desk) = true)
    {f_Desk_web_by : Addr} {oc_Desk_web_by kV_Desk_web_by dc_Desk_web_by pm_Desk_web_by cd_Desk_web_by ct_Desk_web_by : Value} {od_Desk_web_by an_Desk_web_by : Option Addr} {sl_Desk_web_by : Array (Option Value)}
    (a_Desk_web_by : PySem.W.findIn K (.ref c_Desk) "web_by" = some (some (.ref f_Desk_web_by))) (i_Desk_web_by : PySem.W.isFn K (.ref f_Desk_web_by) = true)
    (l_Desk_web_by : K.lookup f_Desk_web_by = some ⟨oc_Desk_web_by, od_Desk_web_by, .func (PySem.W.fnOf "web_by" "Desk.web_by" (defArgs st_Desk_web_by) (defBody st_Desk_web_by) (defScope st_Desk_web_by) .none kV_Desk_web_by dc_Desk_web_by pm_Desk_web_by an_Desk_web_by cd_Desk_web_by ct_Desk_web_by), sl_Desk_web_by⟩) (cc_Desk_web_by : PySem.W.codeIn K cd_Desk_web_by "Desk.web_by" = true) (k_Desk_web_by : PySem.W.keepIn K (.ref f_Desk_web_by) = true)
    {f_asked_of_ways : Addr} {oc_asked_of_ways kV_asked_of_ways dc_asked_of_ways pm_asked_of_ways cd_asked_of_ways ct_asked_of_ways : Value} {od_asked_of_ways an_asked_of_ways : Option Addr} {sl_asked_of_ways : Array (Option Value)}
    (a_asked_of_ways : PySem.W.nsIn K mainGlobals "asked_of_ways" = some (some (.ref f_asked_of_ways)))
    (l_asked_of_ways : K.lookup f_asked_of_ways = some ⟨oc_asked_of_ways, od_asked_of_ways, .func (PySem.W.fnOf "asked_of_ways" "asked_of_ways" (defArgs st_asked_of_ways) (defBody st_asked_of_ways) (defScope st_asked_of_ways) .none kV_asked_of_ways dc_asked_of_ways pm_asked_of_ways an_asked_of_ways cd_asked_of_ways ct_asked_of_ways), sl_asked_of_ways⟩) (cc_asked_of_ways : PySem.W.codeIn K cd_asked_of_ways "asked_of_ways" = true) (k_asked_of_ways : PySem.W.keepIn K (.ref f_asked_of_ways) = true)
    {f_Desk_say : Addr} {oc_Desk_say kV_Desk_say dc_Desk_say pm_Desk_say cd_Desk_say ct_Desk_say : Value} {od_Desk_say an_Desk_say : Option Addr} {sl_Desk_say : Array (Option Value)}
    (a_Desk_say : PySem.W.findIn K (.ref c_Desk) "say" = some (some (.ref f_Desk_say))) (i_Desk_say : PySem.W.isFn K (.ref f_Desk_say) = true)
    (l_Desk_say : K.lookup f_Desk_say = some ⟨oc_Desk_say, od_Desk_say, .func (PySem.W.fnOf "say" "Desk.say" (defArgs st_Desk_say) (defBody st_Desk_say) (defScope st_Desk_say) .none kV_Desk_say dc_Desk_say pm_Desk_say an_Desk_say cd_Desk_say ct_Desk_say), sl_Desk_say⟩) (cc_Desk_say : PySem.W.codeIn K cd_Desk_say "Desk.say" = true) (k_Desk_say : PySem.W.keepIn K (.ref f_Desk_say) = true)
    {f_law : Addr} {oc_law kV_law dc_law pm_law cd_law ct_law : Value} {od_law an_law : Option Addr} {sl_law : Array (Option Value)}
    (a_law : PySem.W.nsIn K mainGlobals "law" = some (some (.ref f_law)))
    (l_law : K.lookup f_law = some ⟨oc_law, od_law, .func (PySem.W.fnOf "law" "law" (defArgs st_law) (defBody st_law) (defScope st_law) .none kV_law dc_law pm_law an_law cd_law ct_law), sl_law⟩) (cc_law : PySem.W.codeIn K cd_law "law" = true) (k_law : PySem.W.keepIn K (.ref f_law) = true)
    (z_all : PySem.W.nsIn K mainGlobals "all" = some none)
    (z_divmod : PySem.W.nsIn K mainGlobals "divmod" = some none)
    (z_enumerate : PySem.W.nsIn K mainGlobals "enumerate" = some none)
    (z_isinstance : PySem.W.nsIn K mainGlobals "isinstance" = some none)
    (z_len : PySem.W.nsIn K mainGlobals "len" = some none)
    (z_list : PySem.W.nsIn K mainGlobals "list" = some none)
    (z_max : PySem.W.nsIn K mainGlobals "max" = some none)
    (z_min : PySem.W.nsIn K mainGlobals "min" = some none)
    (z_range : PySem.W.nsIn K mainGlobals "range" = some none)
    (z_set : PySem.W.nsIn K mainGlobals "set" = some none)
    (z_sorted : PySem.W.nsIn K mainGlobals "sorted" = some none)
    (z_str : PySem.W.nsIn K mainGlobals "str" = some none)
    (z_tuple : PySem.W.nsIn K mainGlobals "tuple" = some none)
    {v_BREAK : Value} (g_BREAK : PySem.W.nsIn K mainGlobals "BREAK" = some (some v_BREAK))
    (r_BREAK : RelV (.str "\n") v_BREAK)
    {v_CUT : Value} (g_CUT : PySem.W.nsIn K mainGlobals "CUT" = some (some v_CUT))
    (r_CUT : RelV (.str "cut") v_CUT)
    {v_HEAD : Value} (g_HEAD : PySem.W.nsIn K mainGlobals "HEAD" = some (some v_HEAD))
    (r_HEAD : RelV (.str "places") v_HEAD)
    {v_LEADS : Value} (g_LEADS : PySem.W.nsIn K mainGlobals "LEADS" = some (some v_LEADS))
    (r_LEADS : RelV (.str " > ") v_LEADS)
    {v_LETTERS : Value} (g_LETTERS : PySem.W.nsIn K mainGlobals "LETTERS" = some (some v_LETTERS))
    (r_LETTERS : RelV (.str "abcdefghijklmnopqrstuvwxyz") v_LETTERS)
    {v_LONGEST : Value} (g_LONGEST : PySem.W.nsIn K mainGlobals "LONGEST" = some (some v_LONGEST))
    (r_LONGEST : RelV (.int 8) v_LONGEST)
    {v_MOST_PLACES : Value} (g_MOST_PLACES : PySem.W.nsIn K mainGlobals "MOST_PLACES" = some (some v_MOST_PLACES))
    (r_MOST_PLACES : RelV (.int 12) v_MOST_PLACES)
    {v_MOST_TIES : Value} (g_MOST_TIES : PySem.W.nsIn K mainGlobals "MOST_TIES" = some (some v_MOST_TIES))
    (r_MOST_TIES : RelV (.int 30) v_MOST_TIES)
    {v_NEW : Value} (g_NEW : PySem.W.nsIn K mainGlobals "NEW" = some (some v_NEW))
    (r_NEW : RelV (.str "new") v_NEW)
    {v_NOTHING : Value} (g_NOTHING : PySem.W.nsIn K mainGlobals "NOTHING" = some (some v_NOTHING))
    (r_NOTHING : RelV (.str "-") v_NOTHING)
    {v_NUMBER : Value} (g_NUMBER : PySem.W.nsIn K mainGlobals "NUMBER" = some (some v_NUMBER))
    (r_NUMBER : RelV (.str "number") v_NUMBER)
    {v_NUMBERS : Value} (g_NUMBERS : PySem.W.nsIn K mainGlobals "NUMBERS" = some (some v_NUMBERS))
    (r_NUMBERS : RelV (.str "numbers") v_NUMBERS)
    (zr_BETWEEN_BREAK : repB K "BETWEEN" "BREAK" "; " "\n" = true)
    (zr_BREAK_BETWEEN : repB K "BREAK" "BETWEEN" "\n" "; " = true)
    {f_FORMS : Addr} (a_FORMS : PySem.W.nsIn K mainGlobals "FORMS" = some (some (.ref f_FORMS)))
    (dx_FORMS : DicOk K w "FORMS" tab_FORMS)
    (pg_Desk : PySem.W.plainGet K c_Desk Str.empty = true)
    (hd_Desk : PySem.W.hasDictIn K c_Desk = true)
    (po_Desk : PySem.W.plainOver K c_Desk = true)
    (sa_Desk : PySem.W.findIn K (.ref c_Desk) "__setattr__" = some (some (.builtin "object.__setattr__")))
    (pg_Web : PySem.W.plainGet K c_Web Str.empty = true)
    (hd_Web : PySem.W.hasDictIn K c_Web = true)
    (po_Web : PySem.W.plainOver K c_Web = true)
    (sa_Web : PySem.W.findIn K (.ref c_Web) "__setattr__" = some (some (.builtin "object.__setattr__")))
    (no_Desk_webs : PySem.W.findIn K (.ref c_Desk) "webs" = some none)
    (no_Web_names : PySem.W.findIn K (.ref c_Web) "names" = some none)
    (no_Web_pairs : PySem.W.findIn K (.ref c_Web) "pairs" = some none)
    (mk_Desk : PySem.W.makesIn K c_Desk = true)
    (kc_Desk : PySem.W.keepIn K (.ref c_Desk) = true)
    (mk_Web : PySem.W.makesIn K c_Web = true)
    (kc_Web : PySem.W.keepIn K (.ref c_Web) = true)
    (xm_NoWeb_NoWeb : PySem.W.exmOne K (.ref c_NoWeb) (.ref c_NoWeb) = some true)
    (eq_NoName : PySem.W.excIn K c_NoName [.type "ValueError", .type "Exception", .type "BaseException", .type "object"] "ValueError.__new__" = true)
    (ek_NoName : PySem.W.keepIn K (.ref c_NoName) = true)
    (eb_NoName : PySem.W.subIn K (.ref c_NoName) (.type "BaseException") = some true)
    (et_NoName : PySem.W.typeIn K (.ref c_NoName) = some (.type "type"))
    (eq_NoRow : PySem.W.excIn K c_NoRow [.type "ValueError", .type "Exception", .type "BaseException", .type "object"] "ValueError.__new__" = true)
    (ek_NoRow : PySem.W.keepIn K (.ref c_NoRow) = true)
    (eb_NoRow : PySem.W.subIn K (.ref c_NoRow) (.type "BaseException") = some true)
    (et_NoRow : PySem.W.typeIn K (.ref c_NoRow) = some (.type "type"))
    (eq_NoText : PySem.W.excIn K c_NoText [.type "ValueError", .type "Exception", .type "BaseException", .type "object"] "ValueError.__new__" = true)
    (ek_NoText : PySem.W.keepIn K (.ref c_NoText) = true)
    (eb_NoText : PySem.W.subIn K (.ref c_NoText) (.type "BaseException") = some true)
    (et_NoText : PySem.W.typeIn K (.ref c_NoText) = some (.type "type"))
    (eq_NoWeb : PySem.W.excIn K c_NoWeb [.type "ValueError", .type "Exception", .type "BaseException", .type "object"] "ValueError.__new__" = true)
    (ek_NoWeb : PySem.W.keepIn K (.ref c_NoWeb) = true)
    (eb_NoWeb : PySem.W.subIn K (.ref c_NoWeb) (.type "BaseException") = some true)
    (et_NoWeb : PySem.W.typeIn K (.ref c_NoWeb) = some (.type "type")) :
    ∃ fd : FuncData, (∀ (s : Shared) (v : Value), BindsTo s fd ⟨[v], []⟩ [("_law_script", v)]) ∧ ∀ base : Heap, K.In base → base.Ns mainGlobals mg → FnG l.prog w K mg base (L2.CX l.prog w) 9 fa fd ["_law_script"] (V4.spTrue K) := by
  have e := hfa.symm.trans (PySem.W.mg_of X Gn a_law)
  cases e
  have q_Desk := clsAt_of aC_Desk
  have q_NoName := clsAt_of aC_NoName
  have q_NoRow := clsAt_of aC_NoRow
  have q_NoText := clsAt_of aC_NoText
  have q_NoWeb := clsAt_of aC_NoWeb
  have q_Web := clsAt_of aC_Web
  have T : Tx K mg w := {
    n_all := PySem.W.mg_none_of X Gn z_all,
    n_divmod := PySem.W.mg_none_of X Gn z_divmod,
    n_enumerate := PySem.W.mg_none_of X Gn z_enumerate,
    n_isinstance := PySem.W.mg_none_of X Gn z_isinstance,
    n_len := PySem.W.mg_none_of X Gn z_len,
    n_list := PySem.W.mg_none_of X Gn z_list,
    n_max := PySem.W.mg_none_of X Gn z_max,
    n_min := PySem.W.mg_none_of X Gn z_min,
    n_range := PySem.W.mg_none_of X Gn z_range,
    n_set := PySem.W.mg_none_of X Gn z_set,
    n_sorted := PySem.W.mg_none_of X Gn z_sorted,
    n_str := PySem.W.mg_none_of X Gn z_str,
    n_tuple := PySem.W.mg_none_of X Gn z_tuple,
    c_BREAK := ⟨_, PySem.W.mg_of X Gn g_BREAK, r_BREAK⟩,
    c_CUT := ⟨_, PySem.W.mg_of X Gn g_CUT, r_CUT⟩,
    c_HEAD := ⟨_, PySem.W.mg_of X Gn g_HEAD, r_HEAD⟩,
    c_LEADS := ⟨_, PySem.W.mg_of X Gn g_LEADS, r_LEADS⟩,
    c_LETTERS := ⟨_, PySem.W.mg_of X Gn g_LETTERS, r_LETTERS⟩,
    c_LONGEST := ⟨_, PySem.W.mg_of X Gn g_LONGEST, r_LONGEST⟩,
    c_MOST_PLACES := ⟨_, PySem.W.mg_of X Gn g_MOST_PLACES, r_MOST_PLACES⟩,
    c_MOST_TIES := ⟨_, PySem.W.mg_of X Gn g_MOST_TIES, r_MOST_TIES⟩,
    c_NEW := ⟨_, PySem.W.mg_of X Gn g_NEW, r_NEW⟩,
    c_NOTHING := ⟨_, PySem.W.mg_of X Gn g_NOTHING, r_NOTHING⟩,
    c_NUMBER := ⟨_, PySem.W.mg_of X Gn g_NUMBER, r_NUMBER⟩,
    c_NUMBERS := ⟨_, PySem.W.mg_of X Gn g_NUMBERS, r_NUMBERS⟩,
    rp_BETWEEN_BREAK := repB_ok X Gn zr_BETWEEN_BREAK,
    rp_BREAK_BETWEEN := repB_ok X Gn zr_BREAK_BETWEEN,
    d_FORMS := dx_FORMS,
    fv_FORMS := by rw [clsAt_of a_FORMS]; exact PySem.W.mg_of X Gn a_FORMS,
    cl_Desk := by rw [q_Desk]; exact ⟨pg_Desk, hd_Desk, po_Desk, sa_Desk⟩,
    cl_Web := by rw [q_Web]; exact ⟨pg_Web, hd_Web, po_Web, sa_Web⟩,
    no_Desk_webs := by rw [q_Desk]; exact no_Desk_webs,
    no_Web_names := by rw [q_Web]; exact no_Web_names,
    no_Web_pairs := by rw [q_Web]; exact no_Web_pairs,
    mg_Desk := by rw [q_Desk]; exact PySem.W.mg_of X Gn aC_Desk,
    mg_Web := by rw [q_Web]; exact PySem.W.mg_of X Gn aC_Web,
    g_NoWeb := by rw [q_NoWeb]; exact PySem.W.mg_of X Gn aC_NoWeb,
    xm_NoWeb_NoWeb := by simpa only [q_NoWeb] using xm_NoWeb_NoWeb,
    e_NoName := ⟨by rw [q_NoName]; exact eq_NoName, by rw [q_NoName]; exact PySem.W.mg_of X Gn aC_NoName, by rw [q_NoName]; exact ek_NoName, by rw [q_NoName]; exact eb_NoName, by rw [q_NoName]; exact et_NoName⟩,
    e_NoRow := ⟨by rw [q_NoRow]; exact eq_NoRow, by rw [q_NoRow]; exact PySem.W.mg_of X Gn aC_NoRow, by rw [q_NoRow]; exact ek_NoRow, by rw [q_NoRow]; exact eb_NoRow, by rw [q_NoRow]; exact et_NoRow⟩,
    e_NoText := ⟨by rw [q_NoText]; exact eq_NoText, by rw [q_NoText]; exact PySem.W.mg_of X Gn aC_NoText, by rw [q_NoText]; exact ek_NoText, by rw [q_NoText]; exact eb_NoText, by rw [q_NoText]; exact et_NoText⟩,
    e_NoWeb := ⟨by rw [q_NoWeb]; exact eq_NoWeb, by rw [q_NoWeb]; exact PySem.W.mg_of X Gn aC_NoWeb, by rw [q_NoWeb]; exact ek_NoWeb, by rw [q_NoWeb]; exact eb_NoWeb, by rw [q_NoWeb]; exact et_NoWeb⟩ }
  have F__law_pot_at := fun_mk (st := st__law_pot_at) l__law_pot_at cc__law_pot_at k__law_pot_at
  have b__law_pot_at := F__law_pot_at.binds (ps := ["_law_script", "_law_k"]) fun _ _ _ _ _ _ us hl => match us, hl with | [_, _], _ => rfl
  have F__law_draw := fun_mk (st := st__law_draw) l__law_draw cc__law_draw k__law_draw
  have b__law_draw := F__law_draw.binds (ps := ["_law_pot", "_law_many"]) fun _ _ _ _ _ _ us hl => match us, hl with | [_, _], _ => rfl
  have F__law_name := fun_mk (st := st__law_name) l__law_name cc__law_name k__law_name
  have b__law_name := F__law_name.binds (ps := ["_law_pot", "_law_taken"]) fun _ _ _ _ _ _ us hl => match us, hl with | [_, _], _ => rfl
  have F__law_drawn := fun_mk (st := st__law_drawn) l__law_drawn cc__law_drawn k__law_drawn
  have b__law_drawn := F__law_drawn.binds (ps := ["_law_pot"]) fun _ _ _ _ _ _ us hl => match us, hl with | [_], _ => rfl
  have F__law_written := fun_mk (st := st__law_written) l__law_written cc__law_written k__law_written
  have b__law_written := F__law_written.binds (ps := ["_law_names", "_law_pairs"]) fun _ _ _ _ _ _ us hl => match us, hl with | [_, _], _ => rfl
  have F_is_name := fun_mk (st := st_is_name) l_is_name cc_is_name k_is_name
  have b_is_name := F_is_name.binds (ps := ["thing"]) fun _ _ _ _ _ _ us hl => match us, hl with | [_], _ => rfl
  have F_are_places := fun_mk (st := st_are_places) l_are_places cc_are_places k_are_places
  have b_are_places := F_are_places.binds (ps := ["thing"]) fun _ _ _ _ _ _ us hl => match us, hl with | [_], _ => rfl
  have F_is_tie := fun_mk (st := st_is_tie) l_is_tie cc_is_tie k_is_tie
  have b_is_tie := F_is_tie.binds (ps := ["thing", "names"]) fun _ _ _ _ _ _ us hl => match us, hl with | [_, _], _ => rfl
  have F_Web_init := fun_mk (st := st_Web_init) l_Web_init cc_Web_init k_Web_init
  have b_Web_init := F_Web_init.binds (ps := ["self", "places", "ties"]) fun _ _ _ _ _ _ us hl => match us, hl with | [_, _, _], _ => rfl
  have F_Web_places := fun_mk (st := st_Web_places) l_Web_places cc_Web_places k_Web_places
  have b_Web_places := F_Web_places.binds (ps := ["self"]) fun _ _ _ _ _ _ us hl => match us, hl with | [_], _ => rfl
  have F_Web_ties := fun_mk (st := st_Web_ties) l_Web_ties cc_Web_ties k_Web_ties
  have b_Web_ties := F_Web_ties.binds (ps := ["self"]) fun _ _ _ _ _ _ us hl => match us, hl with | [_], _ => rfl
  have F_web_text := fun_mk (st := st_web_text) l_web_text cc_web_text k_web_text
  have b_web_text := F_web_text.binds (ps := ["web"]) fun _ _ _ _ _ _ us hl => match us, hl with | [_], _ => rfl
  have F_show_web := fun_mk (st := st_show_web) l_show_web cc_show_web k_show_web
  have b_show_web := F_show_web.binds (ps := ["web"]) fun _ _ _ _ _ _ us hl => match us, hl with | [_], _ => rfl
  have F_tie_in := fun_mk (st := st_tie_in) l_tie_in cc_tie_in k_tie_in
  have b_tie_in := F_tie_in.binds (ps := ["row"]) fun _ _ _ _ _ _ us hl => match us, hl with | [_], _ => rfl
  have F_read_web := fun_mk (st := st_read_web) l_read_web cc_read_web k_read_web
  have b_read_web := F_read_web.binds (ps := ["text"]) fun _ _ _ _ _ _ us hl => match us, hl with | [_], _ => rfl
  have F_read_row := fun_mk (st := st_read_row) l_read_row cc_read_row k_read_row
  have b_read_row := F_read_row.binds (ps := ["text"]) fun _ _ _ _ _ _ us hl => match us, hl with | [_], _ => rfl
  have F_show_ties := fun_mk (st := st_show_ties) l_show_ties cc_show_ties k_show_ties
  have b_show_ties := F_show_ties.binds (ps := ["ties"]) fun _ _ _ _ _ _ us hl => match us, hl with | [_], _ => rfl
  have F_show_cut := fun_mk (st := st_show_cut) l_show_cut cc_show_cut k_show_cut
  have b_show_cut := F_show_cut.binds (ps := ["cut"]) fun _ _ _ _ _ _ us hl => match us, hl with | [_], _ => rfl
  have F_show_times := fun_mk (st := st_show_times) l_show_times cc_show_times k_show_times
  have b_show_times := F_show_times.binds (ps := ["one"]) fun _ _ _ _ _ _ us hl => match us, hl with | [_], _ => rfl
  have F_show_cuts := fun_mk (st := st_show_cuts) l_show_cuts cc_show_cuts k_show_cuts
  have b_show_cuts := F_show_cuts.binds (ps := ["cuts"]) fun _ _ _ _ _ _ us hl => match us, hl with | [_], _ => rfl
  have F__law_shown_right := fun_mk (st := st__law_shown_right) l__law_shown_right cc__law_shown_right k__law_shown_right
  have b__law_shown_right := F__law_shown_right.binds (ps := ["_law_pot", "_law_names"]) fun _ _ _ _ _ _ us hl => match us, hl with | [_, _], _ => rfl
  have F_Desk_init := fun_mk (st := st_Desk_init) l_Desk_init cc_Desk_init k_Desk_init
  have b_Desk_init := F_Desk_init.binds (ps := ["self"]) fun _ _ _ _ _ _ us hl => match us, hl with | [_], _ => rfl
  have F_want := fun_mk (st := st_want) l_want cc_want k_want
  have b_want := F_want.binds (ps := ["good"]) fun _ _ _ _ _ _ us hl => match us, hl with | [_], _ => rfl
  have F_Desk_look_at_name := fun_mk (st := st_Desk_look_at_name) l_Desk_look_at_name cc_Desk_look_at_name k_Desk_look_at_name
  have b_Desk_look_at_name := F_Desk_look_at_name.binds (ps := ["self", "name"]) fun _ _ _ _ _ _ us hl => match us, hl with | [_, _], _ => rfl
  have F_Desk_said_web := fun_mk (st := st_Desk_said_web) l_Desk_said_web cc_Desk_said_web k_Desk_said_web
  have b_Desk_said_web := F_Desk_said_web.binds (ps := ["self", "row"]) fun _ _ _ _ _ _ us hl => match us, hl with | [_, _], _ => rfl
  have F_told_of := fun_mk (st := st_told_of) l_told_of cc_told_of k_told_of
  have b_told_of := F_told_of.binds (ps := ["sort", "word"]) fun _ _ _ _ _ _ us hl => match us, hl with | [_, _], _ => rfl
  have F_parts_of_desk := fun_mk (st := st_parts_of_desk) l_parts_of_desk cc_parts_of_desk k_parts_of_desk
  have b_parts_of_desk := F_parts_of_desk.binds (ps := ["form", "words"]) fun _ _ _ _ _ _ us hl => match us, hl with | [_, _], _ => rfl
  have F_Desk_web_by := fun_mk (st := st_Desk_web_by) l_Desk_web_by cc_Desk_web_by k_Desk_web_by
  have b_Desk_web_by := F_Desk_web_by.binds (ps := ["self", "name"]) fun _ _ _ _ _ _ us hl => match us, hl with | [_, _], _ => rfl
  have F_asked_of_ways := fun_mk (st := st_asked_of_ways) l_asked_of_ways cc_asked_of_ways k_asked_of_ways
  have b_asked_of_ways := F_asked_of_ways.binds (ps := ["verb", "web", "rest"]) fun _ _ _ _ _ _ us hl => match us, hl with | [_, _, _], _ => rfl
  have F_Desk_say := fun_mk (st := st_Desk_say) l_Desk_say cc_Desk_say k_Desk_say
  have b_Desk_say := F_Desk_say.binds (ps := ["self", "row"]) fun _ _ _ _ _ _ us hl => match us, hl with | [_, _], _ => rfl
  have F_law := fun_mk (st := st_law) l_law cc_law k_law
  have b_law := F_law.binds (ps := ["_law_script"]) fun _ _ _ _ _ _ us hl => match us, hl with | [_], _ => rfl
  refine ⟨PySem.W.fnOf "law" "law" (defArgs st_law) (defBody st_law) (defScope st_law) .none kV_law dc_law pm_law an_law cd_law ct_law, fun s v => .of_eq rfl, fun base _ _ => ?_⟩
  have G__law_pot_at := ok__law_pot_at (P := l.prog) (wd := w) (base := base) T F__law_pot_at 
  have G__law_draw := ok__law_draw (P := l.prog) (wd := w) (base := base) T F__law_draw 
  have G__law_name := ok__law_name (P := l.prog) (wd := w) (base := base) T F__law_name G__law_draw (PySem.W.mg_of X Gn a__law_draw) k__law_draw b__law_draw
  have G__law_drawn := ok__law_drawn (P := l.prog) (wd := w) (base := base) T F__law_drawn G__law_draw (PySem.W.mg_of X Gn a__law_draw) k__law_draw b__law_draw G__law_name (PySem.W.mg_of X Gn a__law_name) k__law_name b__law_name
  have G__law_written := ok__law_written (P := l.prog) (wd := w) (base := base) T F__law_written 
  have G_is_name := ok_is_name (P := l.prog) (wd := w) (base := base) T F_is_name 
  have GN_is_name := okN_is_name (P := l.prog) (wd := w) (base := base) T F_is_name 
  have G_are_places := ok_are_places (P := l.prog) (wd := w) (base := base) T F_are_places G_is_name (PySem.W.mg_of X Gn a_is_name) k_is_name b_is_name
  have GN_are_places := okN_are_places (P := l.prog) (wd := w) (base := base) T F_are_places GN_is_name (PySem.W.mg_of X Gn a_is_name) k_is_name b_is_name
  have G_is_tie := ok_is_tie (P := l.prog) (wd := w) (base := base) T F_is_tie G_is_name (PySem.W.mg_of X Gn a_is_name) k_is_name b_is_name
  have GN_is_tie := okN_is_tie (P := l.prog) (wd := w) (base := base) T F_is_tie GN_is_name (PySem.W.mg_of X Gn a_is_name) k_is_name b_is_name
  have G_Web_init := ok_Web_init (P := l.prog) (wd := w) (base := base) T F_Web_init G_are_places (PySem.W.mg_of X Gn a_are_places) k_are_places b_are_places G_is_tie (PySem.W.mg_of X Gn a_is_tie) k_is_tie b_is_tie
  have GN_Web_init := okN_Web_init (P := l.prog) (wd := w) (base := base) T F_Web_init GN_are_places (PySem.W.mg_of X Gn a_are_places) k_are_places b_are_places GN_is_tie (PySem.W.mg_of X Gn a_is_tie) k_is_tie b_is_tie
  have G_Web_places := ok_Web_places (P := l.prog) (wd := w) (base := base) T F_Web_places 
  have G_Web_ties := ok_Web_ties (P := l.prog) (wd := w) (base := base) T F_Web_ties 
  have G_web_text := ok_web_text (P := l.prog) (wd := w) (base := base) T F_web_text G_Web_places (by rw [q_Web]; exact ⟨a_Web_places, i_Web_places, k_Web_places⟩) b_Web_places G_Web_ties (by rw [q_Web]; exact ⟨a_Web_ties, i_Web_ties, k_Web_ties⟩) b_Web_ties
  have G_show_web := ok_show_web (P := l.prog) (wd := w) (base := base) T F_show_web G_web_text (PySem.W.mg_of X Gn a_web_text) k_web_text b_web_text
  have G_tie_in := ok_tie_in (P := l.prog) (wd := w) (base := base) T F_tie_in 
  have GN_tie_in := okN_tie_in (P := l.prog) (wd := w) (base := base) T F_tie_in 
  have G_read_web := ok_read_web (P := l.prog) (wd := w) (base := base) T F_read_web G_tie_in (PySem.W.mg_of X Gn a_tie_in) k_tie_in b_tie_in GN_tie_in G_Web_init (by rw [q_Web]; exact ⟨mk_Web, a_Web_init, i_Web_init, kc_Web⟩) b_Web_init GN_Web_init G_web_text (PySem.W.mg_of X Gn a_web_text) k_web_text b_web_text
  have G_read_row := ok_read_row (P := l.prog) (wd := w) (base := base) T F_read_row G_read_web (PySem.W.mg_of X Gn a_read_web) k_read_web b_read_web G_show_web (PySem.W.mg_of X Gn a_show_web) k_show_web b_show_web
  have G_show_ties := ok_show_ties (P := l.prog) (wd := w) (base := base) T F_show_ties 
  have G_show_cut := ok_show_cut (P := l.prog) (wd := w) (base := base) T F_show_cut 
  have G_show_times := ok_show_times (P := l.prog) (wd := w) (base := base) T F_show_times G_show_cut (PySem.W.mg_of X Gn a_show_cut) k_show_cut b_show_cut
  have G_show_cuts := ok_show_cuts (P := l.prog) (wd := w) (base := base) T F_show_cuts G_show_times (PySem.W.mg_of X Gn a_show_times) k_show_times b_show_times
  have G__law_shown_right := ok__law_shown_right (P := l.prog) (wd := w) (base := base) T F__law_shown_right G__law_draw (PySem.W.mg_of X Gn a__law_draw) k__law_draw b__law_draw G_show_ties (PySem.W.mg_of X Gn a_show_ties) k_show_ties b_show_ties (kwB_mk (ns := [0]) F_show_ties fun _ _ _ _ _ _ us ws h1 h2 => match us, ws, h1, h2 with | [], [_], _, _ => rfl) G_show_cut (PySem.W.mg_of X Gn a_show_cut) k_show_cut b_show_cut (kwB_mk (ns := [0]) F_show_cut fun _ _ _ _ _ _ us ws h1 h2 => match us, ws, h1, h2 with | [], [_], _, _ => rfl) G_show_cuts (PySem.W.mg_of X Gn a_show_cuts) k_show_cuts b_show_cuts (kwB_mk (ns := [0]) F_show_cuts fun _ _ _ _ _ _ us ws h1 h2 => match us, ws, h1, h2 with | [], [_], _, _ => rfl)
  have G_Desk_init := ok_Desk_init (P := l.prog) (wd := w) (base := base) T F_Desk_init 
  have G_want := ok_want (P := l.prog) (wd := w) (base := base) T F_want 
  have G_Desk_look_at_name := ok_Desk_look_at_name (P := l.prog) (wd := w) (base := base) T F_Desk_look_at_name G_is_name (PySem.W.mg_of X Gn a_is_name) k_is_name b_is_name
  have G_Desk_said_web := ok_Desk_said_web (P := l.prog) (wd := w) (base := base) T F_Desk_said_web G_want (PySem.W.mg_of X Gn a_want) k_want b_want G_Desk_look_at_name (by rw [q_Desk]; exact ⟨a_Desk_look_at_name, i_Desk_look_at_name, k_Desk_look_at_name⟩) b_Desk_look_at_name G_read_row (PySem.W.mg_of X Gn a_read_row) k_read_row b_read_row
  have G_told_of := ok_told_of (P := l.prog) (wd := w) (base := base) T F_told_of 
  have G_parts_of_desk := ok_parts_of_desk (P := l.prog) (wd := w) (base := base) T F_parts_of_desk G_want (PySem.W.mg_of X Gn a_want) k_want b_want G_told_of (PySem.W.mg_of X Gn a_told_of) k_told_of b_told_of
  have G_Desk_web_by := ok_Desk_web_by (P := l.prog) (wd := w) (base := base) T F_Desk_web_by 
  have G_asked_of_ways := ok_asked_of_ways (P := l.prog) (wd := w) (base := base) T F_asked_of_ways G_show_web (PySem.W.mg_of X Gn a_show_web) k_show_web b_show_web
  have G_Desk_say := ok_Desk_say (P := l.prog) (wd := w) (base := base) T F_Desk_say G_want (PySem.W.mg_of X Gn a_want) k_want b_want G_Desk_said_web (by rw [q_Desk]; exact ⟨a_Desk_said_web, i_Desk_said_web, k_Desk_said_web⟩) b_Desk_said_web G_parts_of_desk (PySem.W.mg_of X Gn a_parts_of_desk) k_parts_of_desk b_parts_of_desk G_Desk_web_by (by rw [q_Desk]; exact ⟨a_Desk_web_by, i_Desk_web_by, k_Desk_web_by⟩) b_Desk_web_by G_asked_of_ways (PySem.W.mg_of X Gn a_asked_of_ways) k_asked_of_ways b_asked_of_ways
  exact V4.fn_true (ok_law T F_law G__law_pot_at (PySem.W.mg_of X Gn a__law_pot_at) k__law_pot_at b__law_pot_at G__law_drawn (PySem.W.mg_of X Gn a__law_drawn) k__law_drawn b__law_drawn G__law_written (PySem.W.mg_of X Gn a__law_written) k__law_written b__law_written G_Web_init (by rw [q_Web]; exact ⟨mk_Web, a_Web_init, i_Web_init, kc_Web⟩) b_Web_init G_show_web (PySem.W.mg_of X Gn a_show_web) k_show_web b_show_web (kwB_mk (ns := [0]) F_show_web fun _ _ _ _ _ _ us ws h1 h2 => match us, ws, h1, h2 with | [], [_], _, _ => rfl) G_read_row (PySem.W.mg_of X Gn a_read_row) k_read_row b_read_row (kwB_mk (ns := [0]) F_read_row fun _ _ _ _ _ _ us ws h1 h2 => match us, ws, h1, h2 with | [], [_], _, _ => rfl) G_Web_places (by rw [q_Web]; exact ⟨a_Web_places, i_Web_places, k_Web_places⟩) b_Web_places G_Web_ties (by rw [q_Web]; exact ⟨a_Web_ties, i_Web_ties, k_Web_ties⟩) b_Web_ties G__law_shown_right (PySem.W.mg_of X Gn a__law_shown_right) k__law_shown_right b__law_shown_right G_Desk_init (by rw [q_Desk]; exact ⟨mk_Desk, a_Desk_init, i_Desk_init, kc_Desk⟩) b_Desk_init G_Desk_say (by rw [q_Desk]; exact ⟨a_Desk_say, i_Desk_say, k_Desk_say⟩) b_Desk_say (kwB_mk (ns := [0, 0]) F_Desk_say fun _ _ _ _ _ _ us ws h1 h2 => match us, ws, h1, h2 with | [_], [_], _, _ => rfl)) fun ns hl hb => law_ok ns hl hb
theorem facts {l : PySem.W.OpenLaw} {w : World} {K : PySem.W.Frag} {h : Heap} {mg : Str → Option Value} {fa : Addr} (X : K.In h) (ct : SaysBT good fns ts w K) (Gn : h.Ns mainGlobals mg) (hfa : mg "law" = some (.ref fa)) : ∃ fd : FuncData, (∀ (s : Shared) (v : Value), BindsTo s fd ⟨[v], []⟩ [("_law_script", v)]) ∧ ∀ base : Heap, K.In base → base.Ns mainGlobals mg → FnG l.prog w K mg base (L2.CX l.prog w) 9 fa fd ["_law_script"] (V4.spTrue K) := by
  have c := ct.b
  obtain ⟨_, _, _, _, _, _, _, _, _, l__law_pot_at, cc__law_pot_at⟩ := c.def_ 0 (d := fn0) rfl
  obtain ⟨_, _, _, _, _, _, _, _, _, l__law_draw, cc__law_draw⟩ := c.def_ 1 (d := fn1) rfl
  obtain ⟨_, _, _, _, _, _, _, _, _, l__law_name, cc__law_name⟩ := c.def_ 2 (d := fn2) rfl
  obtain ⟨_, _, _, _, _, _, _, _, _, l__law_drawn, cc__law_drawn⟩ := c.def_ 3 (d := fn3) rfl
  obtain ⟨_, _, _, _, _, _, _, _, _, l__law_written, cc__law_written⟩ := c.def_ 4 (d := fn4) rfl
  obtain ⟨_, _, _, _, _, _, _, _, _, l_is_name, cc_is_name⟩ := c.def_ 5 (d := fn5) rfl
  obtain ⟨_, _, _, _, _, _, _, _, _, l_are_places, cc_are_places⟩ := c.def_ 6 (d := fn6) rfl
  obtain ⟨_, _, _, _, _, _, _, _, _, l_is_tie, cc_is_tie⟩ := c.def_ 7 (d := fn7) rfl
  obtain ⟨_, _, _, _, _, _, _, _, _, l_Web_init, cc_Web_init⟩ := c.def_ 8 (d := fn8) rfl
  obtain ⟨_, _, _, _, _, _, _, _, _, l_Web_places, cc_Web_places⟩ := c.def_ 9 (d := fn9) rfl
  obtain ⟨_, _, _, _, _, _, _, _, _, l_Web_ties, cc_Web_ties⟩ := c.def_ 10 (d := fn10) rfl
  obtain ⟨_, _, _, _, _, _, _, _, _, l_web_text, cc_web_text⟩ := c.def_ 11 (d := fn11) rfl
  obtain ⟨_, _, _, _, _, _, _, _, _, l_show_web, cc_show_web⟩ := c.def_ 12 (d := fn12) rfl
  obtain ⟨_, _, _, _, _, _, _, _, _, l_tie_in, cc_tie_in⟩ := c.def_ 13 (d := fn13) rfl
  obtain ⟨_, _, _, _, _, _, _, _, _, l_read_web, cc_read_web⟩ := c.def_ 14 (d := fn14) rfl
  obtain ⟨_, _, _, _, _, _, _, _, _, l_read_row, cc_read_row⟩ := c.def_ 15 (d := fn15) rfl
  obtain ⟨_, _, _, _, _, _, _, _, _, l_show_ties, cc_show_ties⟩ := c.def_ 16 (d := fn16) rfl
  obtain ⟨_, _, _, _, _, _, _, _, _, l_show_cut, cc_show_cut⟩ := c.def_ 17 (d := fn17) rfl
  obtain ⟨_, _, _, _, _, _, _, _, _, l_show_times, cc_show_times⟩ := c.def_ 18 (d := fn18) rfl
  obtain ⟨_, _, _, _, _, _, _, _, _, l_show_cuts, cc_show_cuts⟩ := c.def_ 19 (d := fn19) rfl
  obtain ⟨_, _, _, _, _, _, _, _, _, l__law_shown_right, cc__law_shown_right⟩ := c.def_ 20 (d := fn20) rfl
  obtain ⟨_, _, _, _, _, _, _, _, _, l_Desk_init, cc_Desk_init⟩ := c.def_ 21 (d := fn21) rfl
  obtain ⟨_, _, _, _, _, _, _, _, _, l_want, cc_want⟩ := c.def_ 22 (d := fn22) rfl
  obtain ⟨_, _, _, _, _, _, _, _, _, l_Desk_look_at_name, cc_Desk_look_at_name⟩ := c.def_ 23 (d := fn23) rfl
  obtain ⟨_, _, _, _, _, _, _, _, _, l_Desk_said_web, cc_Desk_said_web⟩ := c.def_ 24 (d := fn24) rfl
  obtain ⟨_, _, _, _, _, _, _, _, _, l_told_of, cc_told_of⟩ := c.def_ 25 (d := fn25) rfl
  obtain ⟨_, _, _, _, _, _, _, _, _, l_parts_of_desk, cc_parts_of_desk⟩ := c.def_ 26 (d := fn26) rfl
  obtain ⟨_, _, _, _, _, _, _, _, _, l_Desk_web_by, cc_Desk_web_by⟩ := c.def_ 27 (d := fn27) rfl
  obtain ⟨_, _, _, _, _, _, _, _, _, l_asked_of_ways, cc_asked_of_ways⟩ := c.def_ 28 (d := fn28) rfl
  obtain ⟨_, _, _, _, _, _, _, _, _, l_Desk_say, cc_Desk_say⟩ := c.def_ 29 (d := fn29) rfl
  obtain ⟨_, _, _, _, _, _, _, _, _, l_law, cc_law⟩ := c.def_ 30 (d := fn30) rfl
  obtain ⟨_, g_BREAK, r_BREAK⟩ := conV_ok (c.factB 89 rfl)
  obtain ⟨_, g_CUT, r_CUT⟩ := conV_ok (c.factB 90 rfl)
  obtain ⟨_, g_HEAD, r_HEAD⟩ := conV_ok (c.factB 91 rfl)
  obtain ⟨_, g_LEADS, r_LEADS⟩ := conV_ok (c.factB 92 rfl)
  obtain ⟨_, g_LETTERS, r_LETTERS⟩ := conV_ok (c.factB 93 rfl)
  obtain ⟨_, g_LONGEST, r_LONGEST⟩ := conV_ok (c.factB 94 rfl)
  obtain ⟨_, g_MOST_PLACES, r_MOST_PLACES⟩ := conV_ok (c.factB 95 rfl)
  obtain ⟨_, g_MOST_TIES, r_MOST_TIES⟩ := conV_ok (c.factB 96 rfl)
  obtain ⟨_, g_NEW, r_NEW⟩ := conV_ok (c.factB 97 rfl)
  obtain ⟨_, g_NOTHING, r_NOTHING⟩ := conV_ok (c.factB 98 rfl)
  obtain ⟨_, g_NUMBER, r_NUMBER⟩ := conV_ok (c.factB 99 rfl)
  obtain ⟨_, g_NUMBERS, r_NUMBERS⟩ := conV_ok (c.factB 100 rfl)
  have dx_FORMS : DicOk K w "FORMS" tab_FORMS := dicOk_of (nm := "FORMS") (tab := rS_FORMS) (show He.dicW K (He.ga K "FORMS") = _ from ct.tab 0 rfl) (show tabB K (He.ga K "FORMS") _ = true from c.factB 104 rfl)
  exact all_mk X Gn hfa (c.fact 0 rfl) (c.fact 1 rfl) (c.fact 2 rfl) (c.fact 3 rfl) (c.fact 4 rfl) (c.fact 5 rfl) (c.fact 6 rfl) l__law_pot_at cc__law_pot_at (c.factB 7 rfl) (c.fact 8 rfl) l__law_draw cc__law_draw (c.factB 9 rfl) (c.fact 10 rfl) l__law_name cc__law_name (c.factB 11 rfl) (c.fact 12 rfl) l__law_drawn cc__law_drawn (c.factB 13 rfl) (c.fact 14 rfl) l__law_written cc__law_written (c.factB 15 rfl) (c.fact 16 rfl) l_is_name cc_is_name (c.factB 17 rfl) (c.fact 18 rfl) l_are_places cc_are_places (c.factB 19 rfl) (c.fact 20 rfl) l_is_tie cc_is_tie (c.factB 21 rfl) (c.fact 22 rfl) (c.factB 23 rfl) l_Web_init cc_Web_init (c.factB 24 rfl) (c.fact 25 rfl) (c.factB 26 rfl) l_Web_places cc_Web_places (c.factB 27 rfl) (c.fact 28 rfl) (c.factB 29 rfl) l_Web_ties cc_Web_ties (c.factB 30 rfl) (c.fact 31 rfl) l_web_text cc_web_text (c.factB 32 rfl) (c.fact 33 rfl) l_show_web cc_show_web (c.factB 34 rfl) (c.fact 35 rfl) l_tie_in cc_tie_in (c.factB 36 rfl) (c.fact 37 rfl) l_read_web cc_read_web (c.factB 38 rfl) (c.fact 39 rfl) l_read_row cc_read_row (c.factB 40 rfl) (c.fact 41 rfl) l_show_ties cc_show_ties (c.factB 42 rfl) (c.fact 43 rfl) l_show_cut cc_show_cut (c.factB 44 rfl) (c.fact 45 rfl) l_show_times cc_show_times (c.factB 46 rfl) (c.fact 47 rfl) l_show_cuts cc_show_cuts (c.factB 48 rfl) (c.fact 49 rfl) l__law_shown_right cc__law_shown_right (c.factB 50 rfl) (c.fact 51 rfl) (c.factB 52 rfl) l_Desk_init cc_Desk_init (c.factB 53 rfl) (c.fact 54 rfl) l_want cc_want (c.factB 55 rfl) (c.fact 56 rfl) (c.factB 57 rfl) l_Desk_look_at_name cc_Desk_look_at_name (c.factB 58 rfl) (c.fact 59 rfl) (c.factB 60 rfl) l_Desk_said_web cc_Desk_said_web (c.factB 61 rfl) (c.fact 62 rfl) l_told_of cc_told_of (c.factB 63 rfl) (c.fact 64 rfl) l_parts_of_desk cc_parts_of_desk (c.factB 65 rfl) (c.fact 66 rfl) (c.factB 67 rfl) l_Desk_web_by cc_Desk_web_by (c.factB 68 rfl) (c.fact 69 rfl) l_asked_of_ways cc_asked_of_ways (c.factB 70 rfl) (c.fact 71 rfl) (c.factB 72 rfl) l_Desk_say cc_Desk_say (c.factB 73 rfl) (c.fact 74 rfl) l_law cc_law (c.factB 75 rfl) (c.fact 76 rfl) (c.fact 77 rfl) (c.fact 78 rfl) (c.fact 79 rfl) (c.fact 80 rfl) (c.fact 81 rfl) (c.fact 82 rfl) (c.fact 83 rfl) (c.fact 84 rfl) (c.fact 85 rfl) (c.fact 86 rfl) (c.fact 87 rfl) (c.fact 88 rfl) g_BREAK r_BREAK g_CUT r_CUT g_HEAD r_HEAD g_LEADS r_LEADS g_LETTERS r_LETTERS g_LONGEST r_LONGEST g_MOST_PLACES r_MOST_PLACES g_MOST_TIES r_MOST_TIES g_NEW r_NEW g_NOTHING r_NOTHING g_NUMBER r_NUMBER g_NUMBERS r_NUMBERS (c.factB 101 rfl) (c.factB 102 rfl) (c.fact 103 rfl) dx_FORMS (c.factB 105 rfl) (c.factB 106 rfl) (c.factB 107 rfl) (c.fact 108 rfl) (c.factB 109 rfl) (c.factB 110 rfl) (c.factB 111 rfl) (c.fact 112 rfl) (c.fact 113 rfl) (c.fact 114 rfl) (c.fact 115 rfl) (c.factB 116 rfl) (c.factB 117 rfl) (c.factB 118 rfl) (c.factB 119 rfl) (c.fact 120 rfl) (c.factB 121 rfl) (c.factB 122 rfl) (c.fact 123 rfl) (c.fact 124 rfl) (c.factB 125 rfl) (c.factB 126 rfl) (c.fact 127 rfl) (c.fact 128 rfl) (c.factB 129 rfl) (c.factB 130 rfl) (c.fact 131 rfl) (c.fact 132 rfl) (c.factB 133 rfl) (c.factB 134 rfl) (c.fact 135 rfl) (c.fact 136 rfl)
end V4.C_k90
open PySem PySem.W PySem.Calls PyProof.Rows
set_option maxRecDepth 100000 in
set_option maxHeartbeats 0 in
theorem PySem.Challenge.cw_cutmeet_k90_shown_by_names_holds : PySem.Challenge.rw_cutmeet_k90_shown_by_names.Holds := by
  w_on; o_law
  refine HandSHeadRun.head_any (r := OpenLaw.row PySem.Challenge.rw_cutmeet_k90_shown_by_names) (q := view (OpenLaw.row PySem.Challenge.rw_cutmeet_k90_shown_by_names).prog [159]) (H := V4.C_k90.hk) (ob := V4.C_k90.ob) (M := 12000) (loose := V4.C_k90.loose) (d := HandSHeadRun.topDef (OpenLaw.row PySem.Challenge.rw_cutmeet_k90_shown_by_names).prog 159) (kwd := []) V4.C_k90.ob_eq
    (by kernel_rfl) (fun s => by kernel_rfl) V4.C_k90.rrun (by kernel_rfl) (by kernel_rfl) (by kernel_rfl) (by rfl) (by first | assumption | decide +kernel) (by decide +kernel) ⟨rfl, rfl, rfl, rfl, rfl, by decide +kernel⟩ ?hw ?hc
  case hw => w_witness2
  case hc =>
    refine V4.walkE2 (l := PySem.Challenge.rw_cutmeet_k90_shown_by_names) (k := 9) (x := "_law_script") (Gd := V4.SaysBT V4.C_k90.good V4.C_k90.fns V4.C_k90.ts) rfl (by kernel_rfl) ⟨rfl, by decide, by decide⟩ (fun _ _ Y => Y) ?F
    intro w mg fa h K KX c G hmg0
    have hmg : mg ("law" : PySem.Str) = some (.ref fa) := by
      have e : (HandSHeadRun.topDef (OpenLaw.row PySem.Challenge.rw_cutmeet_k90_shown_by_names).prog 159).name = ("law" : PySem.Str) := by kernel_rfl
      rw [← e]
      exact hmg0
    exact V4.C_k90.facts KX c G hmg
