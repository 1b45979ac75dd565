import PyProof.Rows.All
import Wide.All
import OpenK.AllK
import Wide.FinOn
import HandS.ForMost
import HandS.Exc
import HandS.ExcIs
import HandS.ExcField
import HandS.Ends
import HandS.HeadEnd
import HandS.Head0
import HandS.Head1
import HandS.Head2
import HandS.HeadHook3
import HandS.HeadHook4
import KE.KExcInit
import HandS.HeadNt
import KE.KStateDown
import Lean
import HandS.Defaults
import HandS.IsInst
import HandS.Walk
import HandS.TupAny
import HandS.Flow
import HandS.Lambda
import HandS.Style
import HandS.HeadHook1
import HandS.HeadHook2
import HandS.Strs
import KE.GoesEnum
import HandS.DictComp
import HandS.TupLe
import PyProof.ReprRoads
import PyProof.StrBlock2
import PyProof.Rows.TupDisplay
import HandS.Deep
import HandS.Zip
import KE.GoesMore
import KE.GoesZip
import HandS.DictTup
import HandS.Conv
import KE.KDictWalk
import HandS.More
import PyProof.TupleOfSeq
import HandS.ExcOwn
import HandS.TryMany
import HandS.HotCalls
import KE.KTryMore
import KE.KExcIs
import HandS.EndTab
import HandS.NestedK
import PyProof.Rows.CountFlat
import HandS.ExcInit
import PyProof.ListStr
import PyProof.TupleOfStr
import HandS.MakeKw
import OpenK.KOps
import PyProof.InstNe
import HandS.Records
import HandS.FStr
import KE.KUnpack
import PyProof.StrCalls
import KE.KCallOwn
import PyProof.Conv_bool
import HandS.Text
import PyProof.RulesFinally
import KE.SortData
import KE.DataMinMax
import PyProof.StrLawsTight
import PyProof.Rows.TupMore
import HandS.TupMul
import HandS.SetKeys
import KE.DatumOrd
import KE.KDictSum
import KE.KSortTupAny
import HandS.SetTxt0
import HandS.SetFor
import PyProof.EqKinds
import PyProof.FactsAll.dict_1
import PyProof.FactsAll.subtypes_4
import KE.KStrOpen
import PySem.Challenge.RW_fliponce_k03_texts_of_panels
set_option Elab.async false
set_option linter.all false
set_option maxRecDepth 100000
set_option maxHeartbeats 2000000
namespace FD
open PySem PySem.Spec PyProof.Rows L2
def isiB (K : PySem.W.Frag) (C : Addr) : Bool :=
  (match PySem.W.findIn K (.ref C) "__class__" with
    | some (some (.builtin n)) => n == "object.__class__"
    | _ => false) &&
  (match PySem.W.specialIn K (.builtin "object.__class__") "__get__" with
    | some (some (.builtin n)) => n == "getset_descriptor.__get__"
    | _ => false) &&
  (match PySem.W.takesIn K (.builtin "object.__class__") with
    | some true => true
    | _ => false) &&
  (match PySem.W.mroIn K C (.type "object") with
    | some true => true
    | _ => false)
def bltB (o : Option (Option Value)) (x : String) : Bool := match o with
  | some (some (.builtin n)) => n == x
  | _ => false
theorem bltB_ok {o : Option (Option Value)} {x : String} (h : bltB o x = true) : o = some (some (.builtin x)) := by
  unfold bltB at h
  split at h
  · rw [eq_of_beq h]
  · cases h
def trueB (o : Option Bool) : Bool := match o with
  | some b => b
  | none => false
theorem trueB_ok {o : Option Bool} (h : trueB o = true) : o = some true := by
  cases o with
  | none => cases h
  | some b => cases b <;> first | rfl | cases h
def falseB (o : Option Bool) : Bool := match o with
  | some b => !b
  | none => false
theorem falseB_ok {o : Option Bool} (h : falseB o = true) : o = some false := by
  cases o with
  | none => cases h
  | some b => cases b <;> first | rfl | cases h
theorem all_get {l : List Bool} (h : l.all id = true) {i : Nat} {b : Bool} (e : l[i]? = some b) : b = true := List.all_eq_true.mp h b (List.mem_of_getElem? e)
def eqB (K : PySem.W.Frag) (C : Addr) : Bool := bltB (PySem.W.findIn K (.ref C) "__ne__") "object.__ne__" && trueB (PySem.W.subIn K (.ref C) (.type "object")) && (["NoneType", "bool", "int", "str", "tuple", "list", "dict"] : List String).all fun t => falseB (PySem.W.subIn K (.type t) (.ref C))
def noB (K : PySem.W.Frag) (C : Addr) : Bool := (["NoneType", "bool", "int", "str", "tuple", "list", "dict"] : List String).all fun t => falseB (PySem.W.kitOne K (.type t) (.ref C))
end FD

set_option maxHeartbeats 1000000
namespace FD
open PySem PySem.Spec PyProof.Rows L2
section
variable {K : PySem.W.Frag}
def cmB (K : PySem.W.Frag) (C : Addr) (m : Str) : Bool := PySem.W.readsIn K C (.type "type") && (bltB (PySem.W.specialIn K (.ref C) "__getattribute__") "type.__getattribute__" && (He5.wrapB K C "classmethod" "classmethod.__get__" m && PySem.W.fnIn K (He5.wf K C "classmethod" m)))
theorem cmB_ok {C : Addr} {m : Str} (h : cmB K C m = true) : ClX.CRead K C (.type "type") ∧ ClX.CMet K C (.type "type") m (He.ma K C m) (He5.wf K C "classmethod" m) := by
  unfold cmB at h
  simp only [Bool.and_eq_true] at h
  exact ⟨⟨h.1, bltB_ok h.2.1⟩, He5.cmet_of h.2.2.1 h.2.2.2⟩
end
section
variable {n : Nat} {fa : List He.Fa} {fn : List He.DefD} {tf : List He.Defn} {ex : PySem.W.Frag → Bool} {fc : List He5.DefA}
def kY (n : Nat) (g : Addr → Option Obj) : PySem.W.Frag := He.frT g (He5.asA g n)
def obsY (n : Nat) (fa : List He.Fa) (fn : List He.DefD) (tf : List He.Defn) (ex : PySem.W.Frag → Bool) (fc : List He5.DefA) (g : Addr → Option Obj) : He.AlX × He.AlD :=
  ((He.obsT fa fn [] (kY n g), ex (kY n g) && He.tabsB g tf (kY n g)), He5.obsA [] fc (kY n g))
theorem tabsY {h : Heap} {as : List Addr} (z : He.tabsB h.get? tf (He.frT h.get? as) = true) (p : He.Defn) (hp : p ∈ tf) :
    PySem.W.codeHdIn (He.frT h.get? as) (He.cT (He.frT h.get? as) p).1 (He.cT (He.frT h.get? as) p).2 = true ∧ ∃ o, h.get? (He.cT (He.frT h.get? as) p).2 = some o ∧ He.emptyTab o = true := by
  have y := List.all_eq_true.mp z p hp
  rw [Bool.and_eq_true] at y
  refine ⟨y.1, ?_⟩
  have y2 := y.2
  split at y2
  · rename_i o e; exact ⟨o, e, y2⟩
  · cases y2
theorem saysY {w : World} {h : Heap} (e : obsY n fa fn tf ex fc h.get? = (He.valX fn [] w, He5.valA fc)) : He.SaysX fa fn [] tf ex w h (kY n h.get?) ∧ He5.SaysA [] fc (kY n h.get?) := by
  have e2 : (ex (kY n h.get?) && He.tabsB h.get? tf (kY n h.get?)) = true := congrArg (fun z : He.AlX × He.AlD => z.1.2) e
  rw [Bool.and_eq_true] at e2
  refine ⟨⟨congrArg (fun z : He.AlX × He.AlD => z.1.1) e, e2.1, fun p hp => (tabsY e2.2 p hp).1, fun p hp => ?_, fun p hp => ?_⟩, congrArg Prod.snd e⟩
  · obtain ⟨_, o, a, b⟩ := tabsY e2.2 p hp
    exact He.frT_none a b
  · obtain ⟨_, o, a, b⟩ := tabsY e2.2 p hp
    exact a.trans (congrArg some (He.emptyTab_eq b))
def hookY (n : Nat) (fa : List He.Fa) (fn : List He.DefD) (tf : List He.Defn) (ex : PySem.W.Frag → Bool) (fc : List He5.DefA) : PySem.W.Hook where
  α := He.AlX × He.AlD
  obs := fun s => obsY n fa fn tf ex fc s.heap.get?
  val := fun w => (He.valX fn [] w, He5.valA fc)
  says := fun w h => ∃ K : PySem.W.Frag, K.In h ∧ He.SaysX fa fn [] tf ex w h K ∧ He5.SaysA [] fc K
  of := fun _ _ e => ⟨_, He.frT_in, saysY e⟩
  keeps := fun _ _ _ ⟨K, hK, c, c2⟩ k => ⟨K, PySem.W.Frag.In.keeps hK k, ⟨c.t, c.more, c.hd, c.out, fun p hp => k _ _ (c.empty p hp)⟩, c2⟩
theorem obsY_eq {g : Addr → Option Obj} {s : Shared} (h : ∀ a, g a = s.heap.get? a) : obsY n fa fn tf ex fc g = (hookY n fa fn tf ex fc).obs s := by
  have e : g = s.heap.get? := funext h
  rw [e]; rfl
end
end FD

namespace LW
open PySem PySem.Spec PyProof.Rows L2 FD
def top (i : Nat) : Stmt := PySem.Challenge.pw_fliponce_k03_texts_of_panels.main.body.getD i (.Pass ⟨0, 0, 0, 0⟩)
def names0 : List Str := ["_wall", "ShapeError", "InvalidSwitches", "InvalidRules", "InvalidText", "MOST_NAME", "MOST_SWITCHES", "MOST_RULES", "LETTERS", "WORDS", "SIGNS", "is_name", "is_literal", "other_sign", "opposite", "literals_of", "literal_text", "literal_in", "PAIRS", "ALIKE", "is_rule", "clauses_of", "steps_of", "rule_text", "rule_in", "wrong_switch", "wrong_rule", "panel_text", "panel_in", "check_switches"]
def names1 : List Str := ["Panel", "_law_bag", "_law_draw", "_law_one", "_law_names", "_law_rule", "_law_panel", "_law_made", "_law_holds", "_law_keeps", "_law_rule_text", "_law_text", "_law_right"]
def names : List Str := names0 ++ names1
def fn : List He.DefD := [
  ⟨("is_name", none), "is_name", "is_name", defArgs (top 13), defBody (top 13), defScope (top 13), [], []⟩,
  ⟨("is_literal", none), "is_literal", "is_literal", defArgs (top 14), defBody (top 14), defScope (top 14), [], []⟩,
  ⟨("other_sign", none), "other_sign", "other_sign", defArgs (top 15), defBody (top 15), defScope (top 15), [], []⟩,
  ⟨("opposite", none), "opposite", "opposite", defArgs (top 16), defBody (top 16), defScope (top 16), [], []⟩,
  ⟨("literals_of", none), "literals_of", "literals_of", defArgs (top 17), defBody (top 17), defScope (top 17), [], []⟩,
  ⟨("literal_text", none), "literal_text", "literal_text", defArgs (top 18), defBody (top 18), defScope (top 18), [], []⟩,
  ⟨("literal_in", none), "literal_in", "literal_in", defArgs (top 19), defBody (top 19), defScope (top 19), [], []⟩,
  ⟨("is_rule", none), "is_rule", "is_rule", defArgs (top 23), defBody (top 23), defScope (top 23), [], []⟩,
  ⟨("clauses_of", none), "clauses_of", "clauses_of", defArgs (top 24), defBody (top 24), defScope (top 24), [], []⟩,
  ⟨("steps_of", none), "steps_of", "steps_of", defArgs (top 25), defBody (top 25), defScope (top 25), [], []⟩,
  ⟨("rule_text", none), "rule_text", "rule_text", defArgs (top 26), defBody (top 26), defScope (top 26), [], []⟩,
  ⟨("rule_in", none), "rule_in", "rule_in", defArgs (top 27), defBody (top 27), defScope (top 27), [], []⟩,
  ⟨("wrong_switch", none), "wrong_switch", "wrong_switch", defArgs (top 29), defBody (top 29), defScope (top 29), [], []⟩,
  ⟨("wrong_rule", none), "wrong_rule", "wrong_rule", defArgs (top 30), defBody (top 30), defScope (top 30), [], []⟩,
  ⟨("panel_text", none), "panel_text", "panel_text", defArgs (top 31), defBody (top 31), defScope (top 31), [], []⟩,
  ⟨("panel_in", none), "panel_in", "panel_in", defArgs (top 32), defBody (top 32), defScope (top 32), [], []⟩,
  ⟨("check_switches", none), "check_switches", "check_switches", defArgs (top 33), defBody (top 33), defScope (top 33), [], []⟩,
  ⟨("Panel", some "__init__"), "__init__", "Panel.__init__", defArgs (inClass (top 34) 0), defBody (inClass (top 34) 0), defScope (inClass (top 34) 0), [.adr (He.dflAt ("Panel", some "__init__") 0)], []⟩,
  ⟨("Panel", some "text"), "text", "Panel.text", defArgs (inClass (top 34) 9), defBody (inClass (top 34) 9), defScope (inClass (top 34) 9), [], []⟩,
  ⟨("Panel", some "__str__"), "__str__", "Panel.__str__", defArgs (inClass (top 34) 10), defBody (inClass (top 34) 10), defScope (inClass (top 34) 10), [], []⟩,
  ⟨("Panel", some "__eq__"), "__eq__", "Panel.__eq__", defArgs (inClass (top 34) 11), defBody (inClass (top 34) 11), defScope (inClass (top 34) 11), [], []⟩,
  ⟨("_law_bag", none), "_law_bag", "_law_bag", defArgs (top 36), defBody (top 36), defScope (top 36), [], []⟩,
  ⟨("_law_draw", none), "_law_draw", "_law_draw", defArgs (top 37), defBody (top 37), defScope (top 37), [], []⟩,
  ⟨("_law_one", none), "_law_one", "_law_one", defArgs (top 38), defBody (top 38), defScope (top 38), [], []⟩,
  ⟨("_law_names", none), "_law_names", "_law_names", defArgs (top 39), defBody (top 39), defScope (top 39), [], []⟩,
  ⟨("_law_rule", none), "_law_rule", "_law_rule", defArgs (top 40), defBody (top 40), defScope (top 40), [], []⟩,
  ⟨("_law_panel", none), "_law_panel", "_law_panel", defArgs (top 41), defBody (top 41), defScope (top 41), [], []⟩,
  ⟨("_law_made", none), "_law_made", "_law_made", defArgs (top 42), defBody (top 42), defScope (top 42), [], []⟩,
  ⟨("_law_holds", none), "_law_holds", "_law_holds", defArgs (top 43), defBody (top 43), defScope (top 43), [], []⟩,
  ⟨("_law_keeps", none), "_law_keeps", "_law_keeps", defArgs (top 44), defBody (top 44), defScope (top 44), [], []⟩,
  ⟨("_law_rule_text", none), "_law_rule_text", "_law_rule_text", defArgs (top 45), defBody (top 45), defScope (top 45), [], []⟩,
  ⟨("_law_text", none), "_law_text", "_law_text", defArgs (top 46), defBody (top 46), defScope (top 46), [], []⟩,
  ⟨("_law_right", none), "_law_right", "_law_right", defArgs (top 47), defBody (top 47), defScope (top 47), [], []⟩,
  ⟨("law", none), "law", "law", defArgs (top 48), defBody (top 48), defScope (top 48), [], []⟩]
def fa : List He.Fa := [.glo "is_name", .glo "is_literal", .glo "other_sign", .glo "opposite", .glo "literals_of", .glo "literal_text", .glo "literal_in", .glo "is_rule", .glo "clauses_of", .glo "steps_of", .glo "rule_text", .glo "rule_in", .glo "wrong_switch", .glo "wrong_rule", .glo "panel_text", .glo "panel_in", .glo "check_switches", .meth "Panel" "text", .meth "Panel" "__str__", .meth "Panel" "__eq__", .glo "_law_bag", .glo "_law_draw", .glo "_law_one", .glo "_law_names", .glo "_law_rule", .glo "_law_panel", .glo "_law_made", .glo "_law_holds", .glo "_law_keeps", .glo "_law_rule_text", .glo "_law_text", .glo "_law_right", .glo "law", .free "len", .free "abs", .free "max", .free "min", .free "all", .free "int", .free "tuple", .free "str", .free "range", .free "isinstance", .free "enumerate", .free "repr", .int "MOST_NAME" 8, .int "MOST_SWITCHES" 10, .int "MOST_RULES" 240, .str "LETTERS" "abcdefghijklmnopqrstuvwxyz", .glo "WORDS", .str "SIGNS" "+-", .glo "PAIRS", .glo "ALIKE", .glo "Panel", .cls "Panel", .mkr "Panel", .noat "Panel" "rules", .noat "Panel" "steps", .noat "Panel" "switches"]
def fx (K : PySem.W.Frag) : List Bool := [eqB K (He.ga K "Panel"),
  noB K (He.ga K "Panel"),
  FD.cmB K (He.ga K "Panel") "read"]
def ft (K : PySem.W.Frag) : Bool := (fx K).all id && (true && isiB K (He.ga K "Panel") && He.tupB K "WORDS" [.str "be", .str "either", .str "needs", .str "bars", .str "same", .str "unlike"] && He.tupB K "PAIRS" [.str "either", .str "needs", .str "bars"] && He.tupB K "ALIKE" [.str "same", .str "unlike"])
def tf : List He.Defn := []
def fc : List He5.DefA := [⟨fun K => He5.wf K (He.ga K "Panel") "classmethod" "read", "read", "Panel.read", defArgs (inClass (top 34) 1), defBody (inClass (top 34) 1), defScope (inClass (top 34) 1), [], []⟩]
abbrev Rw : PySem.W.OpenRow := PySem.W.OpenLaw.row PySem.Challenge.rw_fliponce_k03_texts_of_panels
abbrev hk : PySem.W.Hook := FD.hookY 5 fa fn tf ft fc
def ob (s : PySem.W.SharedT) : He.AlX × He.AlD := FD.obsY 5 fa fn tf ft fc (HandSHeadRun.getT s)
theorem ob_eq (s : PySem.W.SharedT) : ob s = hk.obs s.abs := FD.obsY_eq (HandSHeadRun.getT_eq s)
set_option maxHeartbeats 0 in
theorem run (w : World) : HandSHeadRun.RunEq Rw (PySem.W.view Rw.prog [48]) hk ob 20000 names w := by
  intro os
  kernel_rfl

end LW

set_option maxHeartbeats 2000000
namespace FD
open PySem PySem.Spec PyProof.Rows L2


inductive D where
  | non
  | bl (b : Bool)
  | int (i : Int)
  | str (s : Str)
  | tup (l : List D)
  | ftp (l : List D)
  | ktp (l : List D)
  | lst (l : List D)
  | scr (l : List D)
  | ptr (a : Addr)
  | obj (C : Addr) (fs : List (Str × D))
  | dcK (l : List (Key × D))
  | dcT (l : List (List Key × D))
  | exc (a C : Addr) (d : Option Addr) (fs : List (Str × D))
inductive MO where
  | lst (l : List D)
  | dK (kvs : List (Key × D))
  | dT (kvs : List (List Key × D))
  | ins (C : Addr) (fs : List (Str × D))
  | tab (q : Str)
abbrev Mem := Addr → Option MO
def Mem.upd (M : Mem) (a : Addr) (o : MO) : Mem := fun b => if b = a then some o else M b
theorem Mem.upd_same {M : Mem} {a : Addr} {o : MO} : M.upd a o a = some o := by unfold Mem.upd; rw [if_pos rfl]
theorem Mem.upd_ne {M : Mem} {a b : Addr} {o : MO} (h : b ≠ a) : M.upd a o b = M b := by unfold Mem.upd; rw [if_neg h]
def Mem.le (M M' : Mem) : Prop := ∀ a o, M a = some o → M' a = some o
theorem Mem.le_refl (M : Mem) : M.le M := fun _ _ h => h
theorem Mem.le.trans {M M1 M2 : Mem} (a : M.le M1) (b : M1.le M2) : M.le M2 := fun c o h => b c o (a c o h)
theorem Mem.le_upd {M : Mem} {a : Addr} {o : MO} (h : M a = none) : M.le (M.upd a o) := fun b u e => by
  have n : b ≠ a := fun z => by rw [z, h] at e; cases e
  rw [Mem.upd_ne n]; exact e

inductive RO where
  | ice (o : HO)
  | res (o : HO)
abbrev F := Addr → Option RO
def F.ice (h : F) : Hp := fun a => match h a with
  | some (.ice o) => some o
  | _ => none
def F.put (h : F) (a : Addr) (o : RO) : F := fun b => if b = a then some o else h b
theorem F.put_same {h : F} {a : Addr} {o : RO} : h.put a o a = some o := by unfold F.put; rw [if_pos rfl]
theorem F.put_ne {h : F} {a b : Addr} {o : RO} (n : b ≠ a) : h.put a o b = h b := by unfold F.put; rw [if_neg n]
def F.le (h h' : F) : Prop := ∀ a o, h a = some o → h' a = some o
theorem F.le.refl (h : F) : h.le h := fun _ _ e => e
theorem F.le.trans {h h1 h2 : F} (a : h.le h1) (b : h1.le h2) : h.le h2 := fun c o e => b c o (a c o e)
theorem F.ice_of {h : F} {a : Addr} {o : HO} (e : h.ice a = some o) : h a = some (.ice o) := by
  unfold F.ice at e
  split at e
  · rename_i o' q
    cases e; exact q
  · cases e
theorem F.ice_eq {h : F} {a : Addr} {o : HO} (e : h a = some (.ice o)) : h.ice a = some o := by unfold F.ice; rw [e]
theorem F.le.ice {h h' : F} (e : h.le h') : Same h.ice h'.ice := fun a o q => F.ice_eq (e a _ (F.ice_of q))
theorem F.le_put {h : F} {a : Addr} {o : RO} (n : h a = none) : h.le (h.put a o) := fun b u e => by
  have ne : b ≠ a := fun z => by rw [z, n] at e; cases e
  rw [F.put_ne ne]; exact e

def sOk (s : Str) : Bool := decide (s.cps.size ≤ 16777216) && s.cps.all (· < 0x110000)
theorem sOk_len {s : Str} (h : sOk s = true) : s.length ≤ sizeLine := by
  unfold sOk at h
  rw [sizeLine_eq]
  exact of_decide_eq_true (Bool.and_eq_true_iff.mp h).1
theorem sOk_real {s : Str} (h : sOk s = true) : PyData.strOk s = true := (Bool.and_eq_true_iff.mp h).2
theorem sOk_mem {s : Str} (h : sOk s = true) {c : Nat} (m : c ∈ s.cps.toList) : c < 0x110000 := by
  have q := (Bool.and_eq_true_iff.mp h).2
  rw [← Array.all_toList, List.all_eq_true] at q
  exact of_decide_eq_true (q c m)
theorem sOk_of {s : Str} (h : s.cps.size ≤ 16777216) (m : ∀ c ∈ s.cps.toList, c < 0x110000) : sOk s = true := by
  unfold sOk
  rw [Bool.and_eq_true]
  refine ⟨decide_eq_true h, ?_⟩
  rw [← Array.all_toList, List.all_eq_true]
  exact fun c hc => decide_eq_true (m c hc)
theorem sOk_sign {s : Str} (h : sOk s = true) {c : Nat} (m : c ∈ s.cps.toList) : sOk ⟨#[c]⟩ = true := sOk_of (by simp) fun d hd => by
  have e : d = c := by simpa using hd
  subst e; exact sOk_mem h m
theorem sOk_append {s t : Str} (h : sOk s = true) (h' : sOk t = true) (l : s.length + t.length ≤ 16777216) : sOk (s ++ t) = true := by
  refine sOk_of ?_ fun c hc => ?_
  · show (s.cps ++ t.cps).size ≤ _
    rw [Array.size_append]; exact l
  · have q : c ∈ (s.cps ++ t.cps).toList := hc
    rw [Array.toList_append] at q
    exact (List.mem_append.mp q).elim (sOk_mem h) (sOk_mem h')

mutual
/-- the value v stands for the tree d -/
inductive Rp (K : PySem.W.Frag) (H : F) : V → D → Prop
  | non : Rp K H .non .non
  | bl (b : Bool) : Rp K H (.bl b) (.bl b)
  | int (i : Int) : Rp K H (.int i) (.int i)
  | str (s : Str) (h : sOk s = true) : Rp K H (.str s) (.str s)
  | tup {a : Addr} {xs : List V} {ds : List D} (h : H.ice a = some (.tup xs)) (ha : RpAll K H xs ds) (hz : ds.length ≤ sizeLine) : Rp K H (.ref a) (.tup ds)
  | ftp {a : Addr} {o : Obj} {xs : List V} {ds : List D} (h : H.ice a = some (.frz o (.tup xs))) (hd : o.dict = none) (ha : RpAll K H xs ds) (hz : ds.length ≤ sizeLine) : Rp K H (.ref a) (.ftp ds)
  | ktp {a : Addr} {xs : List V} {ds : List D} (h : SqT K H.ice a xs) (ha : RpAll K H xs ds) (hz : ds.length ≤ sizeLine) : Rp K H (.ref a) (.ktp ds)
  | lst {a : Addr} {xs : List V} {ds : List D} (h : H.ice a = some (.lst xs)) (ha : RpAll K H xs ds) (hz : ds.length ≤ sizeLine) : Rp K H (.ref a) (.lst ds)
  | scr {a : Addr} {xs : List V} {ds : List D} (h : SqL K H.ice a xs) (ha : RpAll K H xs ds) (hz : ds.length ≤ sizeLine) : Rp K H (.ref a) (.scr ds)
  | ptr (a : Addr) : Rp K H (.ref a) (.ptr a)
  | obj {a C dx : Addr} {xs : List (Str × V)} {ds : List (Str × D)} (h : H.ice a = some (.ins C dx xs)) (hk : xs.map (·.1) = ds.map (·.1)) (ha : RpAll K H (xs.map (·.2)) (ds.map (·.2))) : Rp K H (.ref a) (.obj C ds)
  | dcK {a : Addr} {xs : List (Key × V)} {ds : List (Key × D)} (h : H.ice a = some (.dK xs)) (hk : xs.map (·.1) = ds.map (·.1)) (ha : RpAll K H (xs.map (·.2)) (ds.map (·.2))) : Rp K H (.ref a) (.dcK ds)
  | dcT {a : Addr} {xs : List (List Key × V)} {ds : List (List Key × D)} (h : Rd H.ice a (.dT xs)) (hk : xs.map (·.1) = ds.map (·.1)) (ha : RpAll K H (xs.map (·.2)) (ds.map (·.2))) : Rp K H (.ref a) (.dcT ds)
  | exc0 {a C : Addr} : Rp K H (.ref a) (.exc a C none [])
  | exc1 {a C dx : Addr} {xs : List (Str × V)} {ds : List (Str × D)} (h : H.ice dx = some (.xd xs)) (hk : xs.map (·.1) = ds.map (·.1)) (ha : RpAll K H (xs.map (·.2)) (ds.map (·.2))) : Rp K H (.ref a) (.exc a C (some dx) ds)
inductive RpAll (K : PySem.W.Frag) (H : F) : List V → List D → Prop
  | nil : RpAll K H [] []
  | cons {v : V} {vs : List V} {d : D} {ds : List D} (h : Rp K H v d) (t : RpAll K H vs ds) : RpAll K H (v :: vs) (d :: ds)
end

theorem seqT_mono {K : PySem.W.Frag} {H H' : Hp} {a : Addr} {xs : List V} (e : Same H H') (h : SqT K H a xs) : SqT K H' a xs := by
  rcases h with (h | ⟨o, h⟩) | h
  · exact .inl (.inl (e _ _ h))
  · exact .inl (.inr ⟨o, e _ _ h⟩)
  · exact .inr h
mutual
theorem Rp.mono' {K : PySem.W.Frag} {H H' : F} (e : Same H.ice H'.ice) : ∀ {v : V} {d : D}, Rp K H v d → Rp K H' v d
  | _, _, .non => .non
  | _, _, .bl b => .bl b
  | _, _, .int i => .int i
  | _, _, .str s h => .str s h
  | _, _, .tup h ha hz => .tup (e _ _ h) (RpAll.mono' e ha) hz
  | _, _, .ftp h hd ha hz => .ftp (e _ _ h) hd (RpAll.mono' e ha) hz
  | _, _, .ktp h ha hz => .ktp (seqT_mono e h) (RpAll.mono' e ha) hz
  | _, _, .lst h ha hz => .lst (e _ _ h) (RpAll.mono' e ha) hz
  | _, _, .scr h ha hz => .scr (e.seq h) (RpAll.mono' e ha) hz
  | _, _, .ptr a => .ptr a
  | _, _, .obj h hk ha => .obj (e _ _ h) hk (RpAll.mono' e ha)
  | _, _, .dcK h hk ha => .dcK (e _ _ h) hk (RpAll.mono' e ha)
  | _, _, .dcT h hk ha => .dcT (h.imp (e _ _) fun ⟨o, z⟩ => ⟨o, e _ _ z⟩) hk (RpAll.mono' e ha)
  | _, _, .exc0 => .exc0
  | _, _, .exc1 h hk ha => .exc1 (e _ _ h) hk (RpAll.mono' e ha)
theorem RpAll.mono' {K : PySem.W.Frag} {H H' : F} (e : Same H.ice H'.ice) : ∀ {vs : List V} {ds : List D}, RpAll K H vs ds → RpAll K H' vs ds
  | _, _, .nil => .nil
  | _, _, .cons h t => .cons (Rp.mono' e h) (RpAll.mono' e t)
end
theorem Rp.mono {K : PySem.W.Frag} {H H' : F} (e : H.le H') {v : V} {d : D} (h : Rp K H v d) : Rp K H' v d := h.mono' e.ice
theorem RpAll.mono {K : PySem.W.Frag} {H H' : F} (e : H.le H') {vs : List V} {ds : List D} (h : RpAll K H vs ds) : RpAll K H' vs ds := h.mono' e.ice
def tupOf : D → Option (List D)
  | .tup l => some l
  | .ftp l => some l
  | .ktp l => some l
  | _ => none
theorem Rp.tupl {K : PySem.W.Frag} {H : F} {v : V} {d : D} {l : List D} (e : tupOf d = some l) (r : Rp K H v d) : ∃ a xs, v = .ref a ∧ SqT K H.ice a xs ∧ RpAll K H xs l ∧ l.length ≤ sizeLine := by
  cases r with
  | tup h ha hz => cases e; exact ⟨_, _, rfl, .of h, ha, hz⟩
  | ftp h hd ha hz => cases e; exact ⟨_, _, rfl, .inl (.inr ⟨_, h⟩), ha, hz⟩
  | ktp h ha hz => cases e; exact ⟨_, _, rfl, h, ha, hz⟩
  | _ => cases e
section
variable {K : PySem.W.Frag} {H H' : F}
theorem RpAll.length : ∀ {vs : List V} {ds : List D}, RpAll K H vs ds → vs.length = ds.length
  | _, _, .nil => rfl
  | _, _, .cons _ t => by rw [List.length_cons, List.length_cons, RpAll.length t]
theorem RpAll.get : ∀ {vs : List V} {ds : List D} {i : Nat} {d : D}, RpAll K H vs ds → ds[i]? = some d → ∃ v, vs[i]? = some v ∧ Rp K H v d
  | _, _, i, _, .nil, e => by simp at e
  | _, _, 0, _, .cons h _, e => by simp at e; subst e; exact ⟨_, rfl, h⟩
  | _, _, i + 1, d, .cons _ t, e => by
    obtain ⟨v, h1, h2⟩ := RpAll.get (i := i) (d := d) t (by simpa using e)
    exact ⟨v, by simpa using h1, h2⟩
theorem RpAll.getV : ∀ {vs : List V} {ds : List D} {i : Nat} {v : V}, RpAll K H vs ds → vs[i]? = some v → ∃ d, ds[i]? = some d ∧ Rp K H v d
  | _, _, i, _, .nil, e => by simp at e
  | _, _, 0, _, .cons h _, e => by simp at e; subst e; exact ⟨_, rfl, h⟩
  | _, _, i + 1, v, .cons _ t, e => by
    obtain ⟨d, h1, h2⟩ := RpAll.getV (i := i) (v := v) t (by simpa using e)
    exact ⟨d, by simpa using h1, h2⟩
theorem RpAll.append : ∀ {vs us : List V} {ds es : List D}, RpAll K H vs ds → RpAll K H us es → RpAll K H (vs ++ us) (ds ++ es)
  | _, _, _, _, .nil, q => q
  | _, _, _, _, .cons h t, q => .cons h (RpAll.append t q)
theorem RpAll.take : ∀ {vs : List V} {ds : List D} (n : Nat), RpAll K H vs ds → RpAll K H (vs.take n) (ds.take n)
  | _, _, 0, _ => .nil
  | _, _, _ + 1, .nil => .nil
  | _, _, n + 1, .cons h t => .cons h (RpAll.take n t)
theorem RpAll.drop : ∀ {vs : List V} {ds : List D} (n : Nat), RpAll K H vs ds → RpAll K H (vs.drop n) (ds.drop n)
  | _, _, 0, h => h
  | _, _, _ + 1, .nil => .nil
  | _, _, n + 1, .cons _ t => RpAll.drop n t
theorem RpAll.set {v : V} {d : D} (r : Rp K H v d) : ∀ {vs : List V} {ds : List D} (i : Nat), RpAll K H vs ds → RpAll K H (vs.set i v) (ds.set i d)
  | _, _, _, .nil => .nil
  | _, _, 0, .cons _ t => .cons r t
  | _, _, i + 1, .cons h t => .cons h (RpAll.set r i t)
theorem RpAll.erase : ∀ {vs : List V} {ds : List D} (i : Nat), RpAll K H vs ds → RpAll K H (vs.eraseIdx i) (ds.eraseIdx i)
  | _, _, _, .nil => .nil
  | _, _, 0, .cons _ t => t
  | _, _, i + 1, .cons h t => .cons h (RpAll.erase i t)
end

def RpKV {κ : Type} (K : PySem.W.Frag) (H : F) : List (κ × V) → List (κ × D) → Prop := Paired fun p q => p.1 = q.1 ∧ Rp K H p.2 q.2
theorem RpKV.mono' {κ : Type} {K : PySem.W.Frag} {H H' : F} (e : Same H.ice H'.ice) : ∀ {a : List (κ × V)} {b : List (κ × D)}, RpKV K H a b → RpKV K H' a b
  | _, _, .nil => .nil
  | _, _, .cons h t => .cons ⟨h.1, h.2.mono' e⟩ (RpKV.mono' e t)
theorem kv_of {κ : Type} {K : PySem.W.Frag} {H : F} : ∀ {xs : List (κ × V)} {ds : List (κ × D)}, xs.map (·.1) = ds.map (·.1) → RpAll K H (xs.map (·.2)) (ds.map (·.2)) → RpKV K H xs ds
  | [], [], _, _ => .nil
  | [], _ :: _, h, _ => by cases h
  | _ :: _, [], h, _ => by cases h
  | (x, v) :: xs, (y, d) :: ds, h, .cons r t => by
    simp only [List.map_cons, List.cons.injEq] at h
    exact .cons ⟨h.1, r⟩ (kv_of h.2 t)
theorem kv_to {κ : Type} {K : PySem.W.Frag} {H : F} : ∀ {xs : List (κ × V)} {ds : List (κ × D)}, RpKV K H xs ds → xs.map (·.1) = ds.map (·.1) ∧ RpAll K H (xs.map (·.2)) (ds.map (·.2))
  | _, _, .nil => ⟨rfl, .nil⟩
  | (x, v) :: xs, (y, d) :: ds, .cons h t => by
    obtain ⟨h1, h2⟩ := kv_to t
    have e : x = y := h.1
    simp only [List.map_cons, e, h1, true_and]
    exact .cons h.2 h2
inductive RpO (K : PySem.W.Frag) (H : F) : MO → HO → Prop
  | lst {xs : List V} {ds : List D} (h : RpAll K H xs ds) (hz : ds.length ≤ sizeLine) : RpO K H (.lst ds) (.lst xs)
  | dK {xs : List (Key × V)} {ds : List (Key × D)} (h : RpKV K H xs ds) : RpO K H (.dK ds) (.dK xs)
  | dT {xs : List (List Key × V)} {ds : List (List Key × D)} (h : RpKV K H xs ds) : RpO K H (.dT ds) (.dT xs)
  | ins {C dx : Addr} {xs : List (Str × V)} {ds : List (Str × D)} (h : RpKV K H xs ds) : RpO K H (.ins C ds) (.ins C dx xs)
  | tab {q : Str} {ps : Array Value} (ht : TriplesOk ps.toList) (hc : ∀ (pos : Pos) (cv : Value), codeAmong pos ps.toList = some cv → ∃ c, cv = .ref c ∧ H.ice c = some (LamX.CodeO c q)) : RpO K H (.tab q) (.tbl ps)
theorem RpO.mono' {K : PySem.W.Frag} {H H' : F} (e : Same H.ice H'.ice) {m : MO} {o : HO} (h : RpO K H m o) : RpO K H' m o := by
  cases h with
  | lst h hz => exact .lst (h.mono' e) hz
  | dK h => exact .dK (h.mono' e)
  | dT h => exact .dT (h.mono' e)
  | ins h => exact .ins (h.mono' e)
  | tab ht hc => exact .tab ht fun pos cv z => let ⟨c, e1, e2⟩ := hc pos cv z; ⟨c, e1, e _ _ e2⟩
theorem RpO.mono {K : PySem.W.Frag} {H H' : F} (e : H.le H') {m : MO} {o : HO} (h : RpO K H m o) : RpO K H' m o := h.mono' e.ice
def resOk (o : HO) : Prop := (∃ xs, o = .lst xs) ∨ ∃ od xs, o = .frz od (.dT xs)
structure Fr (K : PySem.W.Frag) (H : Hp) (H0 : F) (M : Mem) : Prop where
  sub : Same H0.ice H
  res : ∀ a o, H0 a = some (.res o) → H a = some o ∧ resOk o
  mem : ∀ a mo, M a = some mo → H0 a = none ∧ ∃ o, H a = some o ∧ RpO K H0 mo o
abbrev Env := List (Option D)
structure RpE (K : PySem.W.Frag) (H : F) (σ : L2.St) (Γ : Env) : Prop where
  len : σ.length = Γ.length
  at_ : ∀ (i : Nat) (d : D), Γ[i]? = some (some d) → ∃ v, σ[i]? = some (some v) ∧ Rp K H v d
theorem RpE.mono {K : PySem.W.Frag} {H H' : F} {σ : L2.St} {Γ : Env} (e : H.le H') (r : RpE K H σ Γ) : RpE K H' σ Γ :=
  ⟨r.len, fun i d h => let ⟨v, h1, h2⟩ := r.at_ i d h; ⟨v, h1, h2.mono e⟩⟩
theorem RpE.set {K : PySem.W.Frag} {H : F} {σ : L2.St} {Γ : Env} {v : V} {d : D} (r : RpE K H σ Γ) (i : Nat) (h : Rp K H v d) : RpE K H (σ.set i (some v)) (Γ.set i (some d)) := by
  refine ⟨by rw [List.length_set, List.length_set, r.len], fun j e hj => ?_⟩
  by_cases hij : i = j
  · subst hij
    by_cases hl : i < Γ.length
    · rw [List.getElem?_set_self hl] at hj
      cases hj
      exact ⟨v, List.getElem?_set_self (by rw [r.len]; exact hl), h⟩
    · rw [List.getElem?_eq_none (by rw [List.length_set]; omega)] at hj
      cases hj
  · rw [List.getElem?_set_ne hij] at hj
    obtain ⟨u, h1, h2⟩ := r.at_ j e hj
    exact ⟨u, by rw [List.getElem?_set_ne hij]; exact h1, h2⟩
theorem RpE.unset {K : PySem.W.Frag} {H : F} {σ : L2.St} {Γ : Env} (r : RpE K H σ Γ) (i : Nat) : RpE K H (σ.set i none) (Γ.set i none) := by
  refine ⟨by rw [List.length_set, List.length_set, r.len], fun j e hj => ?_⟩
  by_cases hij : i = j
  · subst hij
    by_cases hl : i < Γ.length
    · rw [List.getElem?_set_self hl] at hj
      cases hj
    · rw [List.getElem?_eq_none (by rw [List.length_set]; omega)] at hj
      cases hj
  · rw [List.getElem?_set_ne hij] at hj
    obtain ⟨u, h1, h2⟩ := r.at_ j e hj
    exact ⟨u, by rw [List.getElem?_set_ne hij]; exact h1, h2⟩

abbrev WK := D → Mem → Prop
abbrev WE := Env → Mem → WK → Prop
abbrev WT := Env → Mem → (Bool → Mem → Prop) → Prop
abbrev WA := Env → Mem → (List D → Mem → Prop) → Prop
structure DEnds where
  nx : Env → Mem → Prop
  rt : WK
  bk : Env → Mem → Prop := fun _ _ => False
  ct : Env → Mem → Prop := fun _ _ => False
abbrev WS := DEnds → Env → Mem → Prop
section
variable (K : PySem.W.Frag)
def PostV (H0 : F) (post : WK) (Q : VK) : Prop := ∀ (v : V) (d : D) (H' : Hp) (H0' : F) (M' : Mem), post d M' → Fr K H' H0' M' → F.le H0 H0' → Rp K H0' v d → Q v H'
def PostB (H0 : F) (post : Bool → Mem → Prop) (Q : Bool → Hp → Prop) : Prop := ∀ (b : Bool) (H' : Hp) (H0' : F) (M' : Mem), post b M' → Fr K H' H0' M' → F.le H0 H0' → Q b H'
def PostA (H0 : F) (post : List D → Mem → Prop) (Q : List V → Hp → Prop) : Prop := ∀ (vs : List V) (ds : List D) (H' : Hp) (H0' : F) (M' : Mem), post ds M' → Fr K H' H0' M' → F.le H0 H0' → RpAll K H0' vs ds → Q vs H'
def PostE (H0 : F) (post : Env → Mem → Prop) (Q : L2.St → Hp → Prop) : Prop := ∀ (σ : L2.St) (Γ : Env) (H' : Hp) (H0' : F) (M' : Mem), post Γ M' → Fr K H' H0' M' → F.le H0 H0' → RpE K H0' σ Γ → Q σ H'
structure PostS (H0 : F) (post : DEnds) (E : Ends) : Prop where
  nx : PostE K H0 post.nx E.nx
  rt : PostV K H0 post.rt E.rt
  bk : PostE K H0 post.bk E.bk
  ct : PostE K H0 post.ct E.ct
def up (w : WE) : TE := fun σ H Q => ∃ (H0 : F) (Γ : Env) (M : Mem) (post : WK), Fr K H H0 M ∧ RpE K H0 σ Γ ∧ w Γ M post ∧ PostV K H0 post Q
def upT (w : WT) : TT := fun σ H Q => ∃ (H0 : F) (Γ : Env) (M : Mem) (post : Bool → Mem → Prop), Fr K H H0 M ∧ RpE K H0 σ Γ ∧ w Γ M post ∧ PostB K H0 post Q
def upA (w : WA) : TA := fun σ H Q => ∃ (H0 : F) (Γ : Env) (M : Mem) (post : List D → Mem → Prop), Fr K H H0 M ∧ RpE K H0 σ Γ ∧ w Γ M post ∧ PostA K H0 post Q
def upS (w : WS) : TS := fun E σ H => ∃ (H0 : F) (Γ : Env) (M : Mem) (post : DEnds), Fr K H H0 M ∧ RpE K H0 σ Γ ∧ w post Γ M ∧ PostS K H0 post E
end
abbrev DE (X : Cx) (e : Expr) (w : WE) : Prop := PE X e (up X.K w)
abbrev DT (X : Cx) (e : Expr) (w : WT) : Prop := PT X e (upT X.K w)
abbrev DW (X : Cx) (e : Expr) (w : WT) : Prop := PW X e (upT X.K w)
abbrev DA (X : Cx) (es : List Expr) (w : WA) : Prop := PA X es (upA X.K w)
abbrev DS (X : Cx) (st : Stmt) (w : WS) : Prop := PS X st (upS X.K w)
abbrev DSs (X : Cx) (sts : List Stmt) (w : WS) : Prop := PSs X sts (upS X.K w)
section
variable {X : Cx}
theorem PE.weak {e : Expr} {t t' : TE} (h : PE X e t) (i : ∀ σ H Q, t' σ H Q → t σ H Q) : PE X e t' := ⟨fun pins s σ H Q I q => h.run pins s σ H Q I (i σ H Q q)⟩
theorem PT.weak {e : Expr} {t t' : TT} (h : PT X e t) (i : ∀ σ H Q, t' σ H Q → t σ H Q) : PT X e t' := ⟨fun pins s σ H Q I q => h.run pins s σ H Q I (i σ H Q q)⟩
theorem PW.weak {e : Expr} {t t' : TT} (h : PW X e t) (i : ∀ σ H Q, t' σ H Q → t σ H Q) : PW X e t' := ⟨fun wh pins s σ H Q I q => h.run wh pins s σ H Q I (i σ H Q q)⟩
theorem PA.weak {e : List Expr} {t t' : TA} (h : PA X e t) (i : ∀ σ H Q, t' σ H Q → t σ H Q) : PA X e t' := ⟨fun pos pins s σ H Q I q => h.run pos pins s σ H Q I (i σ H Q q)⟩
theorem PS.weak {st : Stmt} {t t' : TS} (h : PS X st t) (i : ∀ E σ H, t' E σ H → t E σ H) : PS X st t' := ⟨fun pins s σ H E I q => h.run pins s σ H E I (i E σ H q)⟩
theorem PSs.weak {st : List Stmt} {t t' : TS} (h : PSs X st t) (i : ∀ E σ H, t' E σ H → t E σ H) : PSs X st t' := ⟨fun pins s σ H E I q => h.run pins s σ H E I (i E σ H q)⟩
end
section
variable {K : PySem.W.Frag} {H H' : Hp} {H0 H1 H2 : F} {M M' : Mem} {Q : VK} {post : WK} {σ : L2.St} {Γ : Env}
theorem PostV.mono (e : F.le H0 H1) (p : PostV K H0 post Q) : PostV K H1 post Q := fun v d H' H0' M' a b c r => p v d H' H0' M' a b (e.trans c) r
theorem PostB.mono {post : Bool → Mem → Prop} {Q : Bool → Hp → Prop} (e : F.le H0 H1) (p : PostB K H0 post Q) : PostB K H1 post Q := fun b H' H0' M' a c d => p b H' H0' M' a c (e.trans d)
theorem PostA.mono {post : List D → Mem → Prop} {Q : List V → Hp → Prop} (e : F.le H0 H1) (p : PostA K H0 post Q) : PostA K H1 post Q := fun v d H' H0' M' a b c r => p v d H' H0' M' a b (e.trans c) r
theorem PostE.mono {post : Env → Mem → Prop} {Q : L2.St → Hp → Prop} (e : F.le H0 H1) (p : PostE K H0 post Q) : PostE K H1 post Q := fun v d H' H0' M' a b c r => p v d H' H0' M' a b (e.trans c) r
theorem PostS.mono {post : DEnds} {E : Ends} (e : F.le H0 H1) (p : PostS K H0 post E) : PostS K H1 post E := ⟨p.nx.mono e, p.rt.mono e, p.bk.mono e, p.ct.mono e⟩
theorem PostV.now (p : PostV K H0 post Q) (f : Fr K H H0 M) {v : V} {d : D} (r : Rp K H0 v d) (h : post d M) : Q v H := p v d H H0 M h f (F.le.refl _) r
theorem Fr.fresh (f : Fr K H H0 M) {p : Addr} (h : H p = none) : H0 p = none ∧ M p = none := by
  refine ⟨?_, ?_⟩
  · cases q : H0 p with
    | none => rfl
    | some o =>
      cases o with
      | ice o => rw [f.sub p o (F.ice_eq q)] at h; cases h
      | res o => rw [(f.res p o q).1] at h; cases h
  · cases q : M p with
    | none => rfl
    | some mo =>
      obtain ⟨_, o, e, _⟩ := f.mem p mo q
      rw [h] at e; cases e
theorem Fr.ice (f : Fr K H H0 M) {p : Addr} {o : HO} (h : H p = none) : Fr K (upd H p o) (H0.put p (.ice o)) M := by
  obtain ⟨h0, m0⟩ := f.fresh h
  refine ⟨fun b u e => ?_, fun b u e => ?_, fun a mo e => ?_⟩
  · have e := F.ice_of e
    by_cases hb : b = p
    · subst hb; rw [F.put_same] at e; cases e; exact upd_same
    · rw [F.put_ne hb] at e; rw [upd_ne hb]; exact f.sub b u (F.ice_eq e)
  · have hb : b ≠ p := fun z => by rw [z, F.put_same] at e; cases e
    rw [F.put_ne hb] at e; rw [upd_ne hb]; exact f.res b u e
  · have ne : a ≠ p := fun z => by rw [z, m0] at e; cases e
    obtain ⟨n0, u, e1, e2⟩ := f.mem a mo e
    exact ⟨by rw [F.put_ne ne]; exact n0, u, by rw [upd_ne ne]; exact e1, e2.mono (F.le_put h0)⟩
theorem Fr.hold (f : Fr K H H0 M) {p : Addr} {o : List V} (h : H p = none) : Fr K (upd H p (.lst o)) (H0.put p (.res (.lst o))) M := by
  obtain ⟨h0, m0⟩ := f.fresh h
  refine ⟨fun b u e => ?_, fun b u e => ?_, fun a mo e => ?_⟩
  · have e := F.ice_of e
    have hb : b ≠ p := fun z => by rw [z, F.put_same] at e; cases e
    rw [F.put_ne hb] at e; rw [upd_ne hb]; exact f.sub b u (F.ice_eq e)
  · by_cases hb : b = p
    · subst hb; rw [F.put_same] at e; cases e; exact ⟨upd_same, .inl ⟨_, rfl⟩⟩
    · rw [F.put_ne hb] at e; rw [upd_ne hb]; exact f.res b u e
  · have ne : a ≠ p := fun z => by rw [z, m0] at e; cases e
    obtain ⟨n0, u, e1, e2⟩ := f.mem a mo e
    exact ⟨by rw [F.put_ne ne]; exact n0, u, by rw [upd_ne ne]; exact e1, e2.mono (F.le_put h0)⟩
theorem put_res_ice {H0 : F} {p : Addr} {o o' : List V} (h : H0 p = some (.res (.lst o))) : Same H0.ice (H0.put p (.res (.lst o'))).ice := fun b u e => by
  have e := F.ice_of e
  have hb : b ≠ p := fun z => by rw [z, h] at e; cases e
  exact F.ice_eq (by rw [F.put_ne hb]; exact e)
theorem Fr.rehold (f : Fr K H H0 M) {p : Addr} {o o' : List V} (h : H0 p = some (.res (.lst o))) : Fr K (upd H p (.lst o')) (H0.put p (.res (.lst o'))) M := by
  refine ⟨fun b u e => ?_, fun b u e => ?_, fun a mo e => ?_⟩
  · have e := F.ice_of e
    have hb : b ≠ p := fun z => by rw [z, F.put_same] at e; cases e
    rw [F.put_ne hb] at e; rw [upd_ne hb]; exact f.sub b u (F.ice_eq e)
  · by_cases hb : b = p
    · subst hb; rw [F.put_same] at e; cases e; exact ⟨upd_same, .inl ⟨_, rfl⟩⟩
    · rw [F.put_ne hb] at e; rw [upd_ne hb]; exact f.res b u e
  · obtain ⟨n0, u, e1, e2⟩ := f.mem a mo e
    have ne : a ≠ p := fun z => by rw [z, h] at n0; cases n0
    exact ⟨by rw [F.put_ne ne]; exact n0, u, by rw [upd_ne ne]; exact e1, e2.mono' (put_res_ice h)⟩
theorem put_thaw_ice {H0 : F} {p : Addr} {o : List V} {o' : HO} (h : H0 p = some (.res (.lst o))) : Same H0.ice (H0.put p (.ice o')).ice := fun b u e => by
  have e := F.ice_of e
  have hb : b ≠ p := fun z => by rw [z, h] at e; cases e
  exact F.ice_eq (by rw [F.put_ne hb]; exact e)
theorem Fr.settle (f : Fr K H H0 M) {p : Addr} {o : List V} (h : H0 p = some (.res (.lst o))) : Fr K H (H0.put p (.ice (.lst o))) M := by
  refine ⟨fun b u e => ?_, fun b u e => ?_, fun a mo e => ?_⟩
  · have e := F.ice_of e
    by_cases hb : b = p
    · subst hb; rw [F.put_same] at e; cases e; exact (f.res _ _ h).1
    · rw [F.put_ne hb] at e; exact f.sub b u (F.ice_eq e)
  · have hb : b ≠ p := fun z => by rw [z, F.put_same] at e; cases e
    rw [F.put_ne hb] at e; exact f.res b u e
  · obtain ⟨n0, u, e1, e2⟩ := f.mem a mo e
    have ne : a ≠ p := fun z => by rw [z, h] at n0; cases n0
    exact ⟨by rw [F.put_ne ne]; exact n0, u, e1, e2.mono' (put_thaw_ice h)⟩
theorem Fr.waste (f : Fr K H H0 M) {p : Addr} {o : HO} (h : H p = none) : Fr K (upd H p o) H0 M := by
  obtain ⟨h0, m0⟩ := f.fresh h
  have nb : ∀ b u, H0 b = some u → b ≠ p := fun b u e z => by rw [z, h0] at e; cases e
  refine ⟨fun b u e => ?_, fun b u e => ?_, fun a mo e => ?_⟩
  · rw [upd_ne (nb b _ (F.ice_of e))]; exact f.sub b u e
  · rw [upd_ne (nb b _ e)]; exact f.res b u e
  · have ne : a ≠ p := fun z => by rw [z, m0] at e; cases e
    obtain ⟨n0, u, e1, e2⟩ := f.mem a mo e
    exact ⟨n0, u, by rw [upd_ne ne]; exact e1, e2⟩
theorem Fr.set_ (f : Fr K H H0 M) {p : Addr} {o : HO} {mo : MO} (h0 : H0 p = none) (r : RpO K H0 mo o) : Fr K (upd H p o) H0 (M.upd p mo) := by
  have nb : ∀ b u, H0 b = some u → b ≠ p := fun b u e z => by rw [z, h0] at e; cases e
  refine ⟨fun b u e => ?_, fun b u e => ?_, fun a mo' e => ?_⟩
  · rw [upd_ne (nb b _ (F.ice_of e))]; exact f.sub b u e
  · rw [upd_ne (nb b _ e)]; exact f.res b u e
  · by_cases ne : a = p
    · subst ne
      rw [Mem.upd_same] at e; cases e
      exact ⟨h0, o, upd_same, r⟩
    · rw [Mem.upd_ne ne] at e
      obtain ⟨n0, u, e1, e2⟩ := f.mem a mo' e
      exact ⟨n0, u, by rw [upd_ne ne]; exact e1, e2⟩
theorem Fr.new (f : Fr K H H0 M) {p : Addr} {o : HO} {mo : MO} (h : H p = none) (r : RpO K H0 mo o) : Fr K (upd H p o) H0 (M.upd p mo) := f.set_ (f.fresh h).1 r
theorem Fr.put (f : Fr K H H0 M) {p : Addr} {o : HO} {mo old : MO} (h : M p = some old) (r : RpO K H0 mo o) : Fr K (upd H p o) H0 (M.upd p mo) := f.set_ (f.mem p old h).1 r
theorem Fr.drop (f : Fr K H H0 M) (le : M'.le M) : ∃ H0', F.le H0 H0' ∧ Fr K H H0' M' ∧ ∀ a mo, M a = some mo → M' a = none → ∃ o, H0'.ice a = some o ∧ RpO K H0 mo o := by
  classical
  have key : ∀ a, ∃ r : Option RO, (∀ o, H0 a = some o → r = some o) ∧ (H0 a = none → ((∃ mo, M a = some mo) ∧ M' a = none → ∃ o, r = some (.ice o) ∧ H a = some o) ∧ (¬ ((∃ mo, M a = some mo) ∧ M' a = none) → r = none)) := fun a => by
    cases q : H0 a with
    | some o => exact ⟨some o, fun o' e => by cases e; rfl, fun e => by cases e⟩
    | none =>
      by_cases c : (∃ mo, M a = some mo) ∧ M' a = none
      · obtain ⟨⟨mo, hm⟩, h2⟩ := c
        obtain ⟨_, o, ho, _⟩ := f.mem a mo hm
        exact ⟨some (.ice o), fun o' e => (by cases e), fun _ => ⟨fun _ => ⟨o, rfl, ho⟩, fun n => absurd ⟨⟨mo, hm⟩, h2⟩ n⟩⟩
      · exact ⟨none, fun o' e => (by cases e), fun _ => ⟨fun h => absurd h c, fun _ => rfl⟩⟩
  let H1 : F := fun a => Classical.choose (key a)
  have k1 : ∀ a o, H0 a = some o → H1 a = some o := fun a => (Classical.choose_spec (key a)).1
  have k2 : ∀ a, H0 a = none → (∃ mo, M a = some mo) ∧ M' a = none → ∃ o, H1 a = some (.ice o) ∧ H a = some o := fun a h => ((Classical.choose_spec (key a)).2 h).1
  have k3 : ∀ a, H0 a = none → ¬ ((∃ mo, M a = some mo) ∧ M' a = none) → H1 a = none := fun a h => ((Classical.choose_spec (key a)).2 h).2
  have s01 : F.le H0 H1 := k1
  have cs : ∀ a o, H1 a = some o → H0 a = some o ∨ (H0 a = none ∧ (∃ mo, M a = some mo) ∧ M' a = none) := fun a o e => by
    cases q : H0 a with
    | some o' => rw [k1 a o' q] at e; cases e; exact .inl rfl
    | none =>
      by_cases c : (∃ mo, M a = some mo) ∧ M' a = none
      · exact .inr ⟨rfl, c⟩
      · rw [k3 a q c] at e; cases e
  refine ⟨H1, s01, ⟨fun b u e => ?_, fun b u e => ?_, fun a mo e => ?_⟩, fun a mo e n => ?_⟩
  · have e := F.ice_of e
    rcases cs b _ e with q | ⟨q, c, n⟩
    · exact f.sub b u (F.ice_eq q)
    · obtain ⟨o, h1, h2⟩ := k2 b q ⟨c, n⟩
      rw [e] at h1; cases h1; exact h2
  · rcases cs b _ e with q | ⟨q, c, n⟩
    · exact f.res b u q
    · obtain ⟨o, h1, h2⟩ := k2 b q ⟨c, n⟩
      rw [e] at h1; cases h1
  · obtain ⟨n0, o, ho, ro⟩ := f.mem a mo (le a mo e)
    refine ⟨k3 a n0 fun c => ?_, o, ho, ro.mono s01⟩
    rw [c.2] at e; cases e
  · obtain ⟨n0, o, ho, ro⟩ := f.mem a mo e
    obtain ⟨o', h1, h2⟩ := k2 a n0 ⟨⟨mo, e⟩, n⟩
    rw [ho] at h2; cases h2
    exact ⟨o, F.ice_eq h1, ro⟩
def Mem.del (M : Mem) (p : Addr) : Mem := fun a => if a = p then none else M a
theorem Fr.freeze (f : Fr K H H0 M) {p : Addr} {ds : List D} (h : M p = some (.lst ds)) : ∃ xs, RpAll K H0 xs ds ∧ ds.length ≤ sizeLine ∧ Fr K H (H0.put p (.ice (.lst xs))) (M.del p) ∧ F.le H0 (H0.put p (.ice (.lst xs))) := by
  obtain ⟨h0, o, e, r⟩ := f.mem p _ h
  cases r with
  | @lst xs _ ha hz =>
    refine ⟨xs, ha, hz, ⟨fun b u q => ?_, fun b u q => ?_, fun a mo q => ?_⟩, F.le_put h0⟩
    · have q := F.ice_of q
      by_cases hb : b = p
      · subst hb; rw [F.put_same] at q; cases q; exact e
      · rw [F.put_ne hb] at q; exact f.sub b u (F.ice_eq q)
    · have hb : b ≠ p := fun z => by rw [z, F.put_same] at q; cases q
      rw [F.put_ne hb] at q; exact f.res b u q
    · unfold Mem.del at q
      by_cases ne : a = p
      · rw [if_pos ne] at q; cases q
      · rw [if_neg ne] at q
        obtain ⟨n0, u, e1, e2⟩ := f.mem a mo q
        exact ⟨by rw [F.put_ne ne]; exact n0, u, e1, e2.mono (F.le_put h0)⟩
end
end FD

namespace FD
open PySem PySem.Spec PyProof.Rows L2
def look (Γ : Env) (i : Nat) (k : D → Prop) : Prop := match Γ[i]? with
  | some (some d) => k d
  | _ => False
def got {α : Type} (o : Option α) (k : α → Prop) : Prop := match o with
  | some d => k d
  | none => False
theorem look_of {Γ : Env} {i : Nat} {k : D → Prop} (h : look Γ i k) : ∃ d, Γ[i]? = some (some d) ∧ k d := by
  unfold look at h
  split at h
  · rename_i d e
    exact ⟨d, e, h⟩
  · exact h.elim
theorem got_of {α : Type} {o : Option α} {k : α → Prop} (h : got o k) : ∃ d, o = some d ∧ k d := by
  cases o with
  | none => exact h.elim
  | some d => exact ⟨d, rfl, h⟩
abbrev G1 := Mem → D → WK → Prop
abbrev G2 := Mem → D → D → WK → Prop
abbrev GA := Mem → List D → WK → Prop
abbrev GM := Mem → D → List D → WK → Prop
def p1 (f : D → Option D) : G1 := fun M x post => got (f x) fun z => post z M
def p2 (f : D → D → Option D) : G2 := fun M x y post => got (f x y) fun z => post z M
section
variable (K : PySem.W.Frag)
def rU2 (g : G2) : R2 := fun x y H Q => ∃ (H0 : F) (M : Mem) (d e : D) (post : WK), Fr K H H0 M ∧ Rp K H0 x d ∧ Rp K H0 y e ∧ g M d e post ∧ PostV K H0 post Q
def rUA (g : GA) : List V → Hp → VK → Prop := fun xs H Q => ∃ (H0 : F) (M : Mem) (ds : List D) (post : WK), Fr K H H0 M ∧ RpAll K H0 xs ds ∧ g M ds post ∧ PostV K H0 post Q
def rUM (g : GM) : V → List V → Hp → VK → Prop := fun x xs H Q => ∃ (H0 : F) (M : Mem) (d : D) (ds : List D) (post : WK), Fr K H H0 M ∧ Rp K H0 x d ∧ RpAll K H0 xs ds ∧ g M d ds post ∧ PostV K H0 post Q
end
section
variable {X : Cx}
theorem OpR.imp {f : Value → Value → Sem Value} {r r' : R2} (h : OpR X f r) (i : ∀ x y H Q, r' x y H Q → r x y H Q) : OpR X f r' :=
  fun pins s σ H x y v u Q I rx ry q => h pins s σ H x y v u Q I rx ry (i x y H Q q)
theorem UnR.imp {f : Value → Sem Value} {r r' : V → Hp → VK → Prop} (h : UnR X f r) (i : ∀ x H Q, r' x H Q → r x H Q) : UnR X f r' :=
  fun pins s σ H x v Q I rx q => h pins s σ H x v Q I rx (i x H Q q)
theorem CallR.imp {f : Value} {r r' : List V → Hp → VK → Prop} (h : CallR X f r) (i : ∀ x H Q, r' x H Q → r x H Q) : CallR X f r' :=
  fun pins s σ H x v Q I rx q => h pins s σ H x v Q I rx (i x H Q q)
theorem IxR.imp {r r' : R2} (h : IxR X r) (i : ∀ x y H Q, r' x y H Q → r x y H Q) : IxR X r' :=
  fun value slice pins s σ H x y v u Q I rx ry q hs => h value slice pins s σ H x y v u Q I rx ry (i x y H Q q) hs
theorem MtR.imp {id : String} {r r' : V → List V → Hp → VK → Prop} (h : MtR X id r) (i : ∀ x xs H Q, r' x xs H Q → r x xs H Q) : MtR X id r' :=
  fun pins s σ H x xs v us Q I rx rs q => h pins s σ H x xs v us Q I rx rs (i x xs H Q q)
theorem SlR.imp {r r' : V → Option Int → Option Int → Hp → VK → Prop} (h : SlR X r) (i : ∀ x lo hi H Q, r' x lo hi H Q → r x lo hi H Q) : SlR X r' := by
  intro pins s σ H x
  intros
  rename_i I q
  apply h <;> first | assumption | exact i _ _ _ _ _ ‹_›

def wVar (i : Nat) : WE := fun Γ M post => look Γ i fun d => post d M
def wC (d : D) : WE := fun _ M post => post d M
theorem dv (i : Nat) {x : Str} {pos : Pos} (hN : X.N[i]? = some x := by rfl) (hv : Vis X.env.scope x := by first | exact Or.inl rfl | exact Or.inr (Or.inl rfl) | exact Or.inr (Or.inr rfl))
    (hd : (x == ("__debug__" : Str)) = false := by decide) (hcd : (x == ("__classdict__" : Str)) = false := by decide) : DE X (.Name x pos) (wVar i) :=
  PE.weak (pe_var hN hv hd hcd) fun σ H Q h => by
    obtain ⟨H0, Γ, M, post, f, e, w, p⟩ := h
    obtain ⟨d, h1, h2⟩ := look_of w
    obtain ⟨v, s1, r⟩ := e.at_ i d h1
    exact ⟨v, s1, p.now f r h2⟩
theorem dc_of {e : Expr} {v : V} {d : D} (h : PE X e (tC v)) (r : ∀ H, Rp X.K H v d) : DE X e (wC d) :=
  PE.weak h fun σ H Q h => by
    obtain ⟨H0, Γ, M, post, f, e, w, p⟩ := h
    exact p.now f (r H0) w
theorem dint {i j pos} : DE X (.Constant (.int i) j pos) (wC (.int i)) := dc_of pe_int fun _ => .int i
theorem dbl {b j pos} : DE X (.Constant (.bool b) j pos) (wC (.bl b)) := dc_of pe_bl fun _ => .bl b
theorem dnon {j pos} : DE X (.Constant .none j pos) (wC .non) := dc_of pe_non fun _ => .non
theorem dstr {x : Str} {j : Nat} {pos : Pos} (h : sOk x = true := by decide +kernel) : DE X (.Constant (.str x) j pos) (wC (.str x)) := dc_of pe_str fun _ => .str x h
theorem dglob {x : Str} {v : V} {d : D} {u : Value} {pos : Pos} (hg : Gl X x) (hm : X.mg x = some u) (r : RelV v u) (rd : ∀ H, Rp X.K H v d) (hd : (x == ("__debug__" : Str)) = false := by decide) : DE X (.Name x pos) (wC d) :=
  dc_of (pe_glob hg hm r hd) rd

theorem up_bind {w : WE} {k : D → WE} {σ : L2.St} {H : Hp} {Q : VK} {R : VK} (h : up X.K (fun Γ M post => w Γ M fun d M1 => k d Γ M1 post) σ H Q)
    (i : ∀ (v : V) (d : D) (H1 : Hp) (H0 : F) (Γ : Env) (M : Mem) (post : WK), Fr X.K H1 H0 M → RpE X.K H0 σ Γ → Rp X.K H0 v d → k d Γ M post → PostV X.K H0 post Q → R v H1) : up X.K w σ H R := by
  obtain ⟨H0, Γ, M, post, f, e, hw, p⟩ := h
  exact ⟨H0, Γ, M, fun d M1 => k d Γ M1 post, f, e, hw, fun v d H' H0' M' q f' s r => i v d H' H0' Γ M' post f' (e.mono s) r q (p.mono s)⟩
def wOp (g : G2) (wa wb : WE) : WE := fun Γ M post => wa Γ M fun x M1 => wb Γ M1 fun y M2 => g M2 x y post
def wUn (g : G1) (wa : WE) : WE := fun Γ M post => wa Γ M fun x M1 => g M1 x post
variable {a b c : Expr} {wa wb wc : WE} {pos : Pos}
theorem up_op {g : G2} {σ : L2.St} {H : Hp} {Q : VK} (h : up X.K (wOp g wa wb) σ H Q) : tOp (rU2 X.K g) (up X.K wa) (up X.K wb) σ H Q :=
  up_bind (k := fun x Γ M post => wb Γ M fun y M2 => g M2 x y post) h fun v d H1 H0 Γ M post f e r q p =>
    ⟨H0, Γ, M, _, f, e, q, fun u d2 H2 H02 M2 q2 f2 s2 r2 => ⟨H02, M2, d, d2, post, f2, r.mono s2, r2, q2, p.mono s2⟩⟩
theorem de_op {op : Operator} {g : G2} (ho : OpR X (binaryOp op) (rU2 X.K g)) (ha : DE X a wa) (hb : DE X b wb) : DE X (.BinOp a op b pos) (wOp g wa wb) :=
  PE.weak (pe_op ho ha hb) fun _ _ _ h => up_op h
theorem de_cmp {op : CmpOp} {g : G2} (ho : OpR X (compareOp op) (rU2 X.K g)) (ha : DE X a wa) (hb : DE X b wb) (hm : behindInMarks op b = false := by first | exact nomark _ | rfl) : DE X (.Compare a [op] [b] pos) (wOp g wa wb) :=
  PE.weak (pe_cmpR ho ha hb hm) fun _ _ _ h => up_op h

def isB (d : D) (k : Bool → Prop) : Prop := match d with
  | .bl b => k b
  | _ => False
theorem isB_of {d : D} {k : Bool → Prop} (h : isB d k) : ∃ b, d = .bl b ∧ k b := by
  cases d with
  | bl b => exact ⟨b, rfl, h⟩
  | _ => exact h.elim
def wTst (w : WE) : WT := fun Γ M post => w Γ M fun d M1 => isB d fun b => post b M1
theorem upT_tst {w : WE} {σ : L2.St} {H : Hp} {Q : Bool → Hp → Prop} (h : upT X.K (wTst w) σ H Q) : up X.K w σ H fun x H' => ∃ k, x = .bl k ∧ Q k H' := by
  obtain ⟨H0, Γ, M, post, f, e, hw, p⟩ := h
  refine ⟨H0, Γ, M, _, f, e, hw, fun v d H' H0' M' q f' s r => ?_⟩
  obtain ⟨b, rfl, q⟩ := isB_of q
  cases r
  exact ⟨b, rfl, p b H' H0' M' q f' s⟩
theorem dt_cmp {op : CmpOp} {g : G2} (ho : OpR X (compareOp op) (rU2 X.K g)) (ha : DE X a wa) (hb : DE X b wb) (hm : behindInMarks op b = false := by first | exact nomark _ | rfl) : DT X (.Compare a [op] [b] pos) (wTst (wOp g wa wb)) :=
  PT.weak (pt_cmpR ho ha hb hm) fun _ _ _ h => up_op (upT_tst h)
theorem dt_val {e : Expr} {w : WE} (h : DE X e w) (he : ∀ whole, isTrue e X.env whole = (do let v ← whole; standAt e.pos; holding [v] (truthy v)) := by intro _; rfl) : DT X e (wTst w) :=
  PT.weak (pt_val h he) fun _ _ _ h => upT_tst h
def wAnd (t u : WT) : WT := fun Γ M post => t Γ M fun c M1 => if c = true then u Γ M1 post else post false M1
def wOr (t u : WT) : WT := fun Γ M post => t Γ M fun c M1 => if c = true then post true M1 else u Γ M1 post
def wNot (t : WT) : WT := fun Γ M post => t Γ M fun c M1 => post (!c) M1
variable {ta tb : WT} {rest : List Expr}
theorem dw_or1 (ha : DT X a ta) : DW X (.BoolOp .Or [a] pos) ta := pw_or1 ha
theorem dw_or (ha : DT X a ta) (hb : DW X (.BoolOp .Or (b :: rest) pos) tb) : DW X (.BoolOp .Or (a :: b :: rest) pos) (wOr ta tb) :=
  PW.weak (pw_or ha hb) fun σ H Q h => by
    obtain ⟨H0, Γ, M, post, f, e, hw, p⟩ := h
    refine ⟨H0, Γ, M, _, f, e, hw, fun c H' H0' M' q f' s => ?_⟩
    cases c with
    | true =>
      simp only [if_true] at q ⊢
      exact p true H' H0' M' q f' s
    | false =>
      simp only [Bool.false_eq_true, if_false] at q ⊢
      exact ⟨H0', Γ, M', post, f', e.mono s, q, p.mono s⟩
theorem dt_not (ha : DT X a ta) : DT X (.UnaryOp .Not a pos) (wNot ta) :=
  PT.weak (pt_not ha) fun σ H Q h => by
    obtain ⟨H0, Γ, M, post, f, e, hw, p⟩ := h
    exact ⟨H0, Γ, M, _, f, e, hw, fun c H' H0' M' q f' s => p (!c) H' H0' M' q f' s⟩
def wAndV (wa wb : WE) : WE := fun Γ M post => wa Γ M fun d M1 => isB d fun c => if c = true then wb Γ M1 post else post (.bl false) M1
def wOrV (wa wb : WE) : WE := fun Γ M post => wa Γ M fun d M1 => isB d fun c => if c = true then post (.bl true) M1 else wb Γ M1 post
def wNotV (wa : WE) : WE := fun Γ M post => wa Γ M fun d M1 => isB d fun c => post (.bl (!c)) M1
theorem de_one {op} (h : DE X a wa) : DE X (.BoolOp op [a] pos) wa := pe_one h
theorem de_and (ha : DE X a wa) (hb : DE X (.BoolOp .And (b :: rest) pos) wb) : DE X (.BoolOp .And (a :: b :: rest) pos) (wAndV wa wb) :=
  PE.weak (pe_and ha hb) fun σ H Q h => up_bind (k := fun d Γ M post => isB d fun c => if c = true then wb Γ M post else post (.bl false) M) h fun v d H1 H0 Γ M post f e r q p => by
    obtain ⟨c, rfl, q⟩ := isB_of q
    cases r
    refine ⟨c, rfl, ?_⟩
    cases c with
    | true =>
      simp only [if_true] at q ⊢
      exact ⟨H0, Γ, M, post, f, e, q, p⟩
    | false =>
      simp only [Bool.false_eq_true, if_false] at q ⊢
      exact p.now f (.bl false) q
theorem de_or (ha : DE X a wa) (hb : DE X (.BoolOp .Or (b :: rest) pos) wb) : DE X (.BoolOp .Or (a :: b :: rest) pos) (wOrV wa wb) :=
  PE.weak (pe_or ha hb) fun σ H Q h => up_bind (k := fun d Γ M post => isB d fun c => if c = true then post (.bl true) M else wb Γ M post) h fun v d H1 H0 Γ M post f e r q p => by
    obtain ⟨c, rfl, q⟩ := isB_of q
    cases r
    refine ⟨c, rfl, ?_⟩
    cases c with
    | true =>
      simp only [if_true] at q ⊢
      exact p.now f (.bl true) q
    | false =>
      simp only [Bool.false_eq_true, if_false] at q ⊢
      exact ⟨H0, Γ, M, post, f, e, q, p⟩
theorem de_not (ha : DE X a wa) : DE X (.UnaryOp .Not a pos) (wNotV wa) :=
  PE.weak (pe_not ha) fun σ H Q h => up_bind (k := fun d _ M post => isB d fun c => post (.bl (!c)) M) h fun v d H1 H0 Γ M post f e r q p => by
    obtain ⟨c, rfl, q⟩ := isB_of q
    cases r
    exact ⟨c, rfl, p.now f (.bl _) q⟩
def wIf (t : WT) (wa wb : WE) : WE := fun Γ M post => t Γ M fun c M1 => if c = true then wa Γ M1 post else wb Γ M1 post
theorem de_if (hc : DT X c ta) (ha : DE X a wa) (hb : DE X b wb) : DE X (.IfExp c a b pos) (wIf ta wa wb) :=
  PE.weak (pe_ifExp hc ha hb) fun σ H Q h => by
    obtain ⟨H0, Γ, M, post, f, e, hw, p⟩ := h
    refine ⟨H0, Γ, M, _, f, e, hw, fun c H' H0' M' q f' s => ?_⟩
    cases c with
    | true =>
      simp only [if_true] at q ⊢
      exact ⟨H0', Γ, M', post, f', e.mono s, q, p.mono s⟩
    | false =>
      simp only [Bool.false_eq_true, if_false] at q ⊢
      exact ⟨H0', Γ, M', post, f', e.mono s, q, p.mono s⟩
def wChain (g g' : G2) (wa wb wc : WE) : WE := fun Γ M post => wa Γ M fun x M1 => wb Γ M1 fun y M2 => g M2 x y fun z M3 => isB z fun k => if k = true then wc Γ M3 fun u M4 => g' M4 y u post else post (.bl false) M3
theorem up_chain {g g' : G2} {σ : L2.St} {H : Hp} {Q : VK} (h : up X.K (wChain g g' wa wb wc) σ H Q) : tChain (rU2 X.K g) (rU2 X.K g') (up X.K wa) (up X.K wb) (up X.K wc) σ H Q :=
  up_bind (k := fun x Γ M post => wb Γ M fun y M2 => g M2 x y fun z M3 => isB z fun k => if k = true then wc Γ M3 fun u M4 => g' M4 y u post else post (.bl false) M3) h fun v d H1 H0 Γ M post f e r q p =>
    ⟨H0, Γ, M, _, f, e, q, fun u d2 H2 H02 M2 q2 f2 s2 r2 => ⟨H02, M2, d, d2, _, f2, r.mono s2, r2, q2, fun z dz H3 H03 M3 q3 f3 s3 r3 => by
      obtain ⟨k, rfl, q4⟩ := isB_of q3
      cases r3
      refine ⟨k, rfl, ?_⟩
      cases k with
      | true =>
        simp only [if_true] at q4 ⊢
        exact ⟨H03, Γ, M3, _, f3, (e.mono s2).mono s3, q4, fun u5 d5 H5 H05 M5 q5 f5 s5 r5 => ⟨H05, M5, d2, d5, post, f5, (r2.mono s3).mono s5, r5, q5, ((p.mono s2).mono s3).mono s5⟩⟩
      | false =>
        simp only [Bool.false_eq_true, if_false] at q4 ⊢
        exact ((p.mono s2).mono s3).now f3 (.bl false) q4⟩⟩
theorem dt_chain {op op' : CmpOp} {g g' : G2} (ho : OpR X (compareOp op) (rU2 X.K g)) (ho' : OpR X (compareOp op') (rU2 X.K g')) (ha : DE X a wa) (hb : DE X b wb) (hc : DE X c wc)
    (hm : lastMarks [op, op'] [b, c] = false := by with_unfolding_all rfl) : DT X (.Compare a [op, op'] [b, c] pos) (wTst (wChain g g' wa wb wc)) :=
  PT.weak (pt_chain ho ho' ha hb hc hm) fun _ _ _ h => up_chain (upT_tst h)
end
end FD

namespace FD
open PySem PySem.Spec PyProof.Rows L2
section
variable {X : Cx} {a b c e : Expr} {wa wb wc we : WE} {pos : Pos} {es : List Expr} {w : WA}
def aNil : WA := fun _ M post => post [] M
def aCons (w : WE) (r : WA) : WA := fun Γ M post => w Γ M fun d M1 => r Γ M1 fun ds M2 => post (d :: ds) M2
theorem da_nil : DA X [] aNil := PA.weak pa_nil fun σ H Q h => by
  obtain ⟨H0, Γ, M, post, f, e, hw, p⟩ := h
  exact p [] [] H H0 M hw f (F.le.refl _) .nil
theorem da_cons (he : DE X e we) (hr : DA X es w) (hs : starEach (e :: es) X.env = (false, eval e X.env) :: starEach es X.env := by rfl) : DA X (e :: es) (aCons we w) :=
  PA.weak (pa_cons he hr hs) fun σ H Q h => by
    obtain ⟨H0, Γ, M, post, f, e, hw, p⟩ := h
    exact ⟨H0, Γ, M, _, f, e, hw, fun v d H' H0' M' q f' s r => ⟨H0', Γ, M', _, f', e.mono s, q, fun vs ds H2 H02 M2 q2 f2 s2 r2 => p _ _ H2 H02 M2 q2 f2 (s.trans s2) (.cons (r.mono s2) r2)⟩⟩
theorem upA_bind {k : List D → WE} {σ : L2.St} {H : Hp} {Q : VK} {R : List V → Hp → Prop} (h : up X.K (fun Γ M post => w Γ M fun d M1 => k d Γ M1 post) σ H Q)
    (i : ∀ (vs : List V) (ds : List D) (H1 : Hp) (H0 : F) (Γ : Env) (M : Mem) (post : WK), Fr X.K H1 H0 M → RpE X.K H0 σ Γ → RpAll X.K H0 vs ds → k ds Γ M post → PostV X.K H0 post Q → R vs H1) : upA X.K w σ H R := by
  obtain ⟨H0, Γ, M, post, f, e, hw, p⟩ := h
  exact ⟨H0, Γ, M, fun d M1 => k d Γ M1 post, f, e, hw, fun v d H' H0' M' q f' s r => i v d H' H0' Γ M' post f' (e.mono s) r q (p.mono s)⟩
def fitL {α : Type} (l : List α) : Prop := l.length ≤ 16777216
theorem fit_line {α : Type} {l : List α} (h : fitL l) : l.length ≤ sizeLine := by rw [sizeLine_eq]; exact h
def wTup (w : WA) : WE := fun Γ M post => w Γ M fun ds M1 => fitL ds ∧ post (.tup ds) M1
def wLst (w : WA) : WE := fun Γ M post => w Γ M fun ds M1 => fitL ds ∧ post (.lst ds) M1
def wNew (w : WA) : WE := fun Γ M post => w Γ M fun ds M1 => fitL ds ∧ ∀ p, M1 p = none → post (.ptr p) (M1.upd p (.lst ds))
theorem de_tup {x1} (h : DA X es w) : DE X (.Tuple es x1 pos) (wTup w) :=
  PE.weak (pe_tup h) fun σ H Q h => upA_bind (k := fun ds _ M post => fitL ds ∧ post (.tup ds) M) h fun vs ds H1 H0 Γ M post f e r q p => by
    refine ⟨by rw [r.length]; exact fit_line q.1, fun a ha => ?_⟩
    have s0 : F.le H0 (H0.put a (.ice (.tup vs))) := F.le_put (f.fresh ha).1
    exact p _ _ _ _ M q.2 (f.ice ha) s0 (.tup (F.ice_eq F.put_same) (r.mono s0) (fit_line q.1))
theorem de_lst (h : DA X es w) : DE X (.List es pos) (wLst w) :=
  PE.weak (pe_lst h) fun σ H Q h => upA_bind (k := fun ds _ M post => fitL ds ∧ post (.lst ds) M) h fun vs ds H1 H0 Γ M post f e r q p => by
    refine ⟨by rw [r.length]; exact fit_line q.1, fun a ha => ?_⟩
    have s0 : F.le H0 (H0.put a (.ice (.lst vs))) := F.le_put (f.fresh ha).1
    exact p _ _ _ _ M q.2 (f.ice ha) s0 (.lst (F.ice_eq F.put_same) (r.mono s0) (fit_line q.1))
theorem de_new (h : DA X es w) : DE X (.List es pos) (wNew w) :=
  PE.weak (pe_lst h) fun σ H Q h => upA_bind (k := fun ds _ M post => fitL ds ∧ ∀ p, M p = none → post (.ptr p) (M.upd p (.lst ds))) h fun vs ds H1 H0 Γ M post f e r q p => by
    refine ⟨by rw [r.length]; exact fit_line q.1, fun a ha => ?_⟩
    exact p _ _ _ _ _ (q.2 a (f.fresh ha).2) (f.new ha (.lst r (fit_line q.1))) (F.le.refl _) (.ptr a)

theorem de_ix {g : G2} (hr : IxR X (rU2 X.K g)) (ha : DE X a wa) (hb : DE X b wb) (hs : PlainIx b := by exact fun _ _ => rfl) : DE X (.Subscript a b pos) (wOp g wa wb) :=
  PE.weak (pe_ix hr ha hb hs) fun _ _ _ h => up_op h
abbrev WO := Env → Mem → (Option Int → Mem → Prop) → Prop
def upO (K : PySem.W.Frag) (w : WO) : TO := fun σ H Q => ∃ (H0 : F) (Γ : Env) (M : Mem) (post : Option Int → Mem → Prop), Fr K H H0 M ∧ RpE K H0 σ Γ ∧ w Γ M post ∧ ∀ (o : Option Int) (H' : Hp) (H0' : F) (M' : Mem), post o M' → Fr K H' H0' M' → F.le H0 H0' → Q o H'
abbrev DO (X : Cx) (e : Option Expr) (w : WO) : Prop := PO X e (upO X.K w)
def isI (d : D) (k : Int → Prop) : Prop := match d with
  | .int i => k i
  | _ => False
theorem isI_of {d : D} {k : Int → Prop} (h : isI d k) : ∃ b, d = .int b ∧ k b := by
  cases d with
  | int b => exact ⟨b, rfl, h⟩
  | _ => exact h.elim
def oNone : WO := fun _ M post => post none M
def oSome (w : WE) : WO := fun Γ M post => w Γ M fun d M1 => isI d fun i => post (some i) M1
theorem do_none : DO X none oNone := ⟨fun pins s σ H Q I h => by
  obtain ⟨H0, Γ, M, post, f, e, hw, p⟩ := h
  exact po_none.run pins s σ H Q I (p none H H0 M hw f (F.le.refl _))⟩
theorem do_some (h : DE X e we) : DO X (some e) (oSome we) := ⟨fun pins s σ H Q I q => by
  refine (po_some h).run pins s σ H Q I ?_
  obtain ⟨H0, Γ, M, post, f, e, hw, p⟩ := q
  refine ⟨H0, Γ, M, _, f, e, hw, fun v d H' H0' M' q f' s r => ?_⟩
  obtain ⟨i, rfl, q⟩ := isI_of q
  cases r
  exact ⟨i, rfl, p (some i) H' H0' M' q f' s⟩⟩
abbrev GS := Mem → D → Option Int → Option Int → WK → Prop
def rUS (K : PySem.W.Frag) (g : GS) : V → Option Int → Option Int → Hp → VK → Prop := fun x lo hi H Q => ∃ (H0 : F) (M : Mem) (d : D) (post : WK), Fr K H H0 M ∧ Rp K H0 x d ∧ g M d lo hi post ∧ PostV K H0 post Q
def wSl (g : GS) (w : WE) (wl wh : WO) : WE := fun Γ M post => w Γ M fun d M1 => wl Γ M1 fun lo M2 => wh Γ M2 fun hi M3 => g M3 d lo hi post
theorem de_slice {g : GS} {lo hi : Option Expr} {p2 : Pos} {wl wh : WO} (hr : SlR X (rUS X.K g)) (he : DE X e we) (hl : DO X lo wl) (hh : DO X hi wh) : DE X (.Subscript e (.Slice lo hi none p2) pos) (wSl g we wl wh) :=
  PE.weak (pe_slice hr he hl hh) fun σ H Q h => up_bind (k := fun d Γ M post => wl Γ M fun lo M2 => wh Γ M2 fun hi M3 => g M3 d lo hi post) h fun v d H1 H0 Γ M post f e r q p =>
    ⟨H0, Γ, M, _, f, e, q, fun lo H2 H02 M2 q2 f2 s2 => ⟨H02, Γ, M2, _, f2, e.mono s2, q2, fun hi H3 H03 M3 q3 f3 s3 => ⟨H03, M3, d, post, f3, (r.mono s2).mono s3, q3, (p.mono s2).mono s3⟩⟩⟩
def wB (g : GA) (w : WA) : WE := fun Γ M post => w Γ M fun ds M1 => g M1 ds post
theorem up_b {g : GA} {σ : L2.St} {H : Hp} {Q : VK} (h : up X.K (wB g w) σ H Q) : tCB (rUA X.K g) (upA X.K w) σ H Q :=
  upA_bind (k := fun ds _ M post => g M ds post) h fun vs ds H1 H0 Γ M post f e r q p => ⟨H0, M, ds, post, f, r, q, p⟩
theorem de_b {x : Str} {id : String} {p : Pos} {g : GA} (hc : CallR X (.builtin id) (rUA X.K g)) (hm : X.mg x = none) (hv : bootBuiltins x = some (.builtin id)) (ha : DA X (e :: es) w) (hg : Gl X x := by rfl) (hn : x ≠ "__name__" := by decide)
    (hdb : (x == ("__debug__" : Str)) = false := by decide) (he : starEach (e :: es) X.env = (false, eval e X.env) :: starEach es X.env := by rfl) (hpl : (backTo pos (starEach es X.env)).any (·.1) = false := by rfl) : DE X (.Call (.Name x p) (e :: es) [] pos) (wB g w) :=
  PE.weak (pe_callB hc hg hm hv ha hn hdb he hpl) fun _ _ _ h => up_b h
theorem de_ty {x : Str} {T : String} {p : Pos} {g : GA} (hc : CallR X (.type T) (rUA X.K g)) (hm : X.mg x = none) (hv : bootBuiltins x = some (.type T)) (ha : DA X (e :: es) w) (hg : Gl X x := by rfl) (hn : x ≠ "__name__" := by decide)
    (hdb : (x == ("__debug__" : Str)) = false := by decide) (he : starEach (e :: es) X.env = (false, eval e X.env) :: starEach es X.env := by rfl) (hpl : (backTo pos (starEach es X.env)).any (·.1) = false := by rfl) : DE X (.Call (.Name x p) (e :: es) [] pos) (wB g w) :=
  PE.weak (pe_callTy hc hg hm hv ha hn hdb he hpl) fun _ _ _ h => up_b h

variable {st : Stmt} {sts : List Stmt} {ws us : WS} {wt : WT}
def sNext : WS := fun E Γ M => E.nx Γ M
def sSeq (t u : WS) : WS := fun E Γ M => t { E with nx := u E } Γ M
theorem ds_nil : DSs X [] sNext := PSs.weak pss_nil fun E σ H h => by
  obtain ⟨H0, Γ, M, post, f, e, hw, p⟩ := h
  exact p.nx σ Γ H H0 M hw f (F.le.refl _) e
theorem ds_cons (h1 : DS X st ws) (h2 : DSs X sts us) : DSs X (st :: sts) (sSeq ws us) :=
  PSs.weak (pss_cons h1 h2) fun E σ H h => by
    obtain ⟨H0, Γ, M, post, f, e, hw, p⟩ := h
    exact ⟨H0, Γ, M, _, f, e, hw, ⟨fun σ' Γ' H' H0' M' q f' s e' => ⟨H0', Γ', M', post, f', e', q, p.mono s⟩, p.rt, p.bk, p.ct⟩⟩
theorem ds_one (h1 : DS X st ws) : DSs X [st] ws := pss_one h1
def sDrop (w : WE) : WS := fun E Γ M => w Γ M fun _ M1 => E.nx Γ M1
theorem ds_expr (he : DE X e we) (hs : swapsWith e none pos.line X.env = pure false := by rfl) : DS X (.Expr e pos) (sDrop we) :=
  PS.weak (ps_expr he hs) fun E σ H h => by
    obtain ⟨H0, Γ, M, post, f, e, hw, p⟩ := h
    exact ⟨H0, Γ, M, _, f, e, hw, fun v d H' H0' M' q f' s r => p.nx σ Γ H' H0' M' q f' s (e.mono s)⟩
def sRet (w : WE) : WS := fun E Γ M => w Γ M E.rt
theorem ds_ret (he : DE X e we) : DS X (.Return (some e) pos) (sRet we) :=
  PS.weak (ps_ret he) fun E σ H h => by
    obtain ⟨H0, Γ, M, post, f, e, hw, p⟩ := h
    exact ⟨H0, Γ, M, _, f, e, hw, p.rt⟩
def sIf (t : WT) (u v : WS) : WS := fun E Γ M => t Γ M fun b M1 => if b = true then u E Γ M1 else v E Γ M1
theorem ds_if {c : Expr} {p q : List Stmt} {u v : WS} (hc : DT X c wt) (hp : DSs X p u) (hq : DSs X q v) : DS X (.If c p q pos) (sIf wt u v) :=
  PS.weak (ps_if hc hp hq) fun E σ H h => by
    obtain ⟨H0, Γ, M, post, f, e, hw, p⟩ := h
    refine ⟨H0, Γ, M, _, f, e, hw, fun b H' H0' M' q f' s => ?_⟩
    cases b with
    | true =>
      simp only [if_true] at q ⊢
      exact ⟨H0', Γ, M', post, f', e.mono s, q, p.mono s⟩
    | false =>
      simp only [Bool.false_eq_true, if_false] at q ⊢
      exact ⟨H0', Γ, M', post, f', e.mono s, q, p.mono s⟩
def sNever : WS := fun _ _ _ => False
theorem ds_never : DS X st sNever := PS.weak ps_never fun E σ H h => by
  obtain ⟨H0, Γ, M, post, f, e, hw, p⟩ := h
  exact hw
abbrev WG := D → Env → Mem → (Env → Mem → Prop) → Prop
abbrev WGs := List D → Env → Mem → (Env → Mem → Prop) → Prop
def upG (K : PySem.W.Frag) (w : WG) : TG := fun v σ H Q => ∃ (H0 : F) (Γ : Env) (M : Mem) (d : D) (post : Env → Mem → Prop), Fr K H H0 M ∧ RpE K H0 σ Γ ∧ Rp K H0 v d ∧ w d Γ M post ∧ PostE K H0 post Q
def upGs (K : PySem.W.Frag) (w : WGs) : TGs := fun vs σ H Q => ∃ (H0 : F) (Γ : Env) (M : Mem) (ds : List D) (post : Env → Mem → Prop), Fr K H H0 M ∧ RpE K H0 σ Γ ∧ RpAll K H0 vs ds ∧ w ds Γ M post ∧ PostE K H0 post Q
abbrev DG (X : Cx) (e : Expr) (w : WG) : Prop := PG X e (upG X.K w)
abbrev DGs (X : Cx) (es : List Expr) (w : WGs) : Prop := PGs X es (upGs X.K w)
theorem PG.weak {t t' : TG} (h : PG X e t) (i : ∀ v σ H Q, t' v σ H Q → t v σ H Q) : PG X e t' := ⟨fun pins s σ H v u Q I r q => h.run pins s σ H v u Q I r (i v σ H Q q)⟩
theorem PGs.weak {t t' : TGs} (h : PGs X es t) (i : ∀ v σ H Q, t' v σ H Q → t v σ H Q) : PGs X es t' := ⟨fun pins s σ H v u Q I r q => h.run pins s σ H v u Q I r (i v σ H Q q)⟩
def gSet (i : Nat) : WG := fun d Γ M post => post (Γ.set i (some d)) M
theorem dg_name {i : Nat} {x : Str} (hN : X.N.Nodup) (hi : X.N[i]? = some x := by rfl) (hx : Loc X.env.scope x := by first | exact Or.inl rfl | exact Or.inr rfl)
    (hf : X.fn x = true ∨ X.env.scope.names.lookup x = some .local := by first | exact .inl rfl | exact .inr rfl | assumption) : DG X (.Name x pos) (gSet i) :=
  PG.weak (pg_name hN hi hx hf) fun v σ H Q h => by
    obtain ⟨H0, Γ, M, d, post, f, e, r, hw, p⟩ := h
    exact p (σ.set i (some v)) (Γ.set i (some d)) H H0 M hw f (F.le.refl _) (e.set i r)
def gsNil : WGs := fun ds Γ M post => ds = [] ∧ post Γ M
def gsCons (t : WG) (u : WGs) : WGs := fun ds Γ M post => match ds with
  | d :: r => t d Γ M fun Γ' M' => u r Γ' M' post
  | [] => False
theorem dgs_nil : DGs X [] gsNil := PGs.weak pgs_nil fun v σ H Q h => by
  obtain ⟨H0, Γ, M, d, post, f, e, r, ⟨rfl, hw⟩, p⟩ := h
  cases r
  exact ⟨rfl, p σ Γ H H0 M hw f (F.le.refl _) e⟩
theorem dgs_cons {t : WG} {u : WGs} (h1 : DG X e t) (h2 : DGs X es u) (hs : (assignEach (e :: es) X.env).map (·.2) = assign e X.env :: (assignEach es X.env).map (·.2) := by rfl) : DGs X (e :: es) (gsCons t u) :=
  PGs.weak (pgs_cons h1 h2 hs) fun v σ H Q h => by
    obtain ⟨H0, Γ, M, ds, post, f, e, r, hw, p⟩ := h
    cases r with
    | nil => exact hw.elim
    | cons r1 r2 => exact ⟨_, _, rfl, H0, Γ, M, _, _, f, e, r1, hw, fun σ' Γ' H' H0' M' q f' s e' => ⟨H0', Γ', M', _, post, f', e', r2.mono s, q, p.mono s⟩⟩
def isT (d : D) (k : List D → Prop) : Prop := got (tupOf d) k
theorem isT_of {d : D} {k : List D → Prop} (h : isT d k) : ∃ b, tupOf d = some b ∧ k b := got_of h
def gTup (n : Nat) (u : WGs) : WG := fun d Γ M post => isT d fun l => l.length = n ∧ u l Γ M post
def sAsg (w : WE) (g : WG) : WS := fun E Γ M => w Γ M fun d M1 => g d Γ M1 E.nx
theorem ds_asg {tg : Expr} {g : WG} (he : DE X e we) (hg : DG X tg g) (hs : swapsWithSole [tg] e pos.line X.env = pure false := by rfl) (hw : swappedStores [tg] e X.env = pure none := by rfl)
    (h1 : (assignEach [tg] X.env).map (·.2) = [assign tg X.env] := by rfl) : DS X (.Assign [tg] e pos) (sAsg we g) :=
  PS.weak (ps_asg he hg hs hw h1) fun E σ H h => by
    obtain ⟨H0, Γ, M, post, f, e, hw, p⟩ := h
    exact ⟨H0, Γ, M, _, f, e, hw, fun v d H' H0' M' q f' s r => ⟨H0', Γ, M', d, _, f', e.mono s, r, q, p.nx.mono s⟩⟩
theorem ds_set {i : Nat} {x : Str} {p2 : Pos} (hN : X.N.Nodup) (he : DE X e we) (hi : X.N[i]? = some x := by rfl) (hx : Loc X.env.scope x := by first | exact Or.inl rfl | exact Or.inr rfl)
    (hf : X.fn x = true ∨ X.env.scope.names.lookup x = some .local := by first | exact .inl rfl | exact .inr rfl | assumption) (hs : swapsWith e (some (.Name x p2)) pos.line X.env = pure false := by rfl) : DS X (.Assign [.Name x p2] e pos) (sAsg we (gSet i)) :=
  PS.weak (ps_set hN hi hx he hs hf) fun E σ H h => by
    obtain ⟨H0, Γ, M, post, f, e, hw, p⟩ := h
    exact ⟨H0, Γ, M, _, f, e, hw, fun v d H' H0' M' q f' s r => p.nx (σ.set i (some v)) (Γ.set i (some d)) H' H0' M' q f' s ((e.mono s).set i r)⟩
theorem dg_tup {k n : Nat} {u : WGs} (hc : X.calm = true) (h : DGs X es u) (hn : (assignEach es X.env).length = n := by rfl) (hst : (assignEach es X.env).findIdx? (·.1) = none := by rfl) : DG X (.Tuple es k pos) (gTup n u) :=
  PG.weak (pg_tup hc h hn hst) fun v σ H Q h => by
    obtain ⟨H0, Γ, M, d, post, f, e, r, hw, p⟩ := h
    obtain ⟨l, et, hl, hw⟩ := isT_of hw
    obtain ⟨a, xs, rfl, hs, ha, hz⟩ := r.tupl et
    exact ⟨_, _, rfl, seqT_mono f.sub hs, by rw [ha.length]; exact hl, H0, Γ, M, _, _, f, e, ha, hw, p⟩
def sPar (i j : Nat) (w : WA) : WS := fun E Γ M => w Γ M fun ds M1 => match ds with
  | [x, y] => E.nx ((Γ.set i (some x)).set j (some y)) M1
  | _ => False
theorem ds_par {i j : Nat} {x y : Str} {px py pt : Pos} {kt k2 pt2} (hc : X.calm = true) (hN : X.N.Nodup) (ha : DA X [a, b] w) (hij : i ≠ j := by decide) (hi : X.N[i]? = some x := by rfl) (hj : X.N[j]? = some y := by rfl)
    (hx : X.env.scope.names.lookup x = some .local := by rfl) (hy : X.env.scope.names.lookup y = some .local := by rfl)
    (hw : swappedStores [.Tuple [.Name x px, .Name y py] kt pt] (.Tuple [a, b] k2 pt2) X.env = pure (some [x, y]) := by rfl)
    (hs : swapsWithSole [.Tuple [.Name x px, .Name y py] kt pt] (.Tuple [a, b] k2 pt2) pos.line X.env = pure false := by rfl) :
    DS X (.Assign [.Tuple [.Name x px, .Name y py] kt pt] (.Tuple [a, b] k2 pt2) pos) (sPar i j w) :=
  PS.weak (ps_par hc hN hi hj hij hx hy ha hw hs) fun E σ H h => by
    obtain ⟨H0, Γ, M, post, f, e, hw, p⟩ := h
    refine ⟨H0, Γ, M, _, f, e, hw, fun vs ds H' H0' M' q f' s r => ?_⟩
    match ds, r, q with
    | [x, y], .cons r1 (.cons r2 .nil), q => exact ⟨_, _, rfl, p.nx _ _ H' H0' M' q f' s (((e.mono s).set i r1).set j r2)⟩
def sPar3 (i j l : Nat) (w : WA) : WS := fun E Γ M => w Γ M fun ds M1 => match ds with
  | [x, y, z] => E.nx (((Γ.set i (some x)).set j (some y)).set l (some z)) M1
  | _ => False
end
end FD

namespace FD
open PySem PySem.Spec PyProof.Rows L2
structure DWalk (K : PySem.W.Frag) (J : It) (items : List D) (G : Mem → Prop) (H0 : F) : Prop where
  ex : ∃ (Gv : Hp → Prop) (Y : Nat → Hp → V → Hp → Prop), Walk J items.length Gv Y ∧ (∀ H' H0' M', Fr K H' H0' M' → Same H0.ice H0'.ice → G M' → Gv H') ∧
    ∀ i H x H' H0' M' d, items[i]? = some d → Fr K H H0' M' → Same H0.ice H0'.ice → G M' → Y i H x H' → ∃ H0'', Fr K H' H0'' M' ∧ F.le H0' H0'' ∧ Rp K H0'' x d
  fit : items.length ≤ sizeLine
abbrev WI := Env → Mem → (List D → (Mem → Prop) → Mem → Prop) → Prop
def upI (K : PySem.W.Frag) (w : WI) : TI := fun σ H R => ∃ (H0 : F) (Γ : Env) (M : Mem) (post : List D → (Mem → Prop) → Mem → Prop), Fr K H H0 M ∧ RpE K H0 σ Γ ∧ w Γ M post ∧
  ∀ items G J H' H0' M', post items G M' → Fr K H' H0' M' → F.le H0 H0' → DWalk K J items G H0' → R J H'
abbrev DI (X : Cx) (tg e : Expr) (w : WI) : Prop := PI X tg e (upI X.K w)
def noG : Mem → Prop := fun _ => True
section
variable {X : Cx} {a b c e tg : Expr} {wa wb wc we : WE} {pos : Pos} {es : List Expr} {w : WA}
theorem PI.weak {t t' : TI} (h : PI X tg e t) (i : ∀ σ H R, t' σ H R → t σ H R) : PI X tg e t' := ⟨fun pins s σ H R I q => h.run pins s σ H R I (i σ H R q)⟩
theorem walkD_list {K : PySem.W.Frag} {p : Addr} {xs : List V} {ds : List D} {H0 : F} {G : Mem → Prop} (hs : ∀ H' H0' M', Fr K H' H0' M' → Same H0.ice H0'.ice → G M' → SqL K H' p xs) (ha : RpAll K H0 xs ds) (hz : ds.length ≤ sizeLine) : DWalk K (Itl K p) ds G H0 := by
  refine ⟨⟨fun H => SqL K H p xs, YAt xs, ?_, hs, fun i H x H' H0' M' d hd f s _ y => ?_⟩, hz⟩
  · have q := walk_list (K := K) (a := p) (xs := xs)
    rw [ha.length] at q
    exact q
  · obtain ⟨rfl, hx⟩ := y
    obtain ⟨d', e1, r⟩ := ha.getV hx
    rw [hd] at e1; cases e1
    exact ⟨H0', f, F.le.refl _, r.mono' s⟩
theorem walkD_tup {K : PySem.W.Frag} {p : Addr} {xs : List V} {ds : List D} {H0 : F} (hs : SqT K H0.ice p xs) (ha : RpAll K H0 xs ds) (hz : ds.length ≤ sizeLine) : DWalk K (Itt K p) ds noG H0 := by
  refine ⟨⟨fun H => SqT K H p xs, YAt xs, ?_, fun H' H0' M' f s _ => seqT_mono (s.trans f.sub) hs, fun i H x H' H0' M' d hd f s _ y => ?_⟩, hz⟩
  · have q := walk_tup (K := K) (a := p) (xs := xs)
    rw [ha.length] at q
    exact q
  · obtain ⟨rfl, hx⟩ := y
    obtain ⟨d', e1, r⟩ := ha.getV hx
    rw [hd] at e1; cases e1
    exact ⟨H0', f, F.le.refl _, r.mono' s⟩
theorem walkD_cell {K : PySem.W.Frag} {p : Addr} {ds : List D} {H0 : F} (hz : ds.length ≤ sizeLine) : DWalk K (Itl K p) ds (fun M => M p = some (.lst ds)) H0 := by
  refine ⟨⟨fun H => ∃ xs, H p = some (.lst xs) ∧ xs.length = ds.length, fun i H x H' => H' = H ∧ ∀ xs, SqL K H p xs → xs[i]? = some x, ⟨fun i H hi hg => ?_, fun H hg => ?_, fun i H x H' hi hg y => y⟩, fun H' H0' M' f s g => ?_, fun i H x H' H0' M' d hd f s g y => ?_⟩, hz⟩
  · obtain ⟨xs, h, hl⟩ := hg
    exact ⟨xs, xs[i], .of h, by simp [hl, hi]⟩
  · obtain ⟨xs, h, hl⟩ := hg
    exact ⟨xs, .of h, by omega⟩
  · obtain ⟨_, o, ho, ro⟩ := f.mem p _ g
    cases ro with
    | @lst xs _ ha hz => exact ⟨xs, ho, ha.length⟩
  · obtain ⟨rfl, hx⟩ := y
    obtain ⟨_, o, ho, ro⟩ := f.mem p _ g
    cases ro with
    | @lst xs _ ha hz =>
      obtain ⟨d', e1, r⟩ := ha.getV (hx xs (.of ho))
      rw [hd] at e1; cases e1
      exact ⟨H0', f, F.le.refl _, r⟩
def asL (M : Mem) (d : D) (k : List D → (Mem → Prop) → Prop) : Prop := match d with
  | .lst l => k l noG
  | .scr l => k l noG
  | .ptr p => match M p with
    | some (.lst l) => k l fun M' => M' p = some (.lst l)
    | _ => False
  | _ => False
def iLst (w : WE) : WI := fun Γ M post => w Γ M fun d M1 => asL M1 d fun l G => post l G M1
theorem di_list (he : DE X e we) : DI X tg e (iLst we) :=
  PI.weak (pi_list he) fun σ H R h => by
    obtain ⟨H0, Γ, M, post, f, en, hw, p⟩ := h
    refine ⟨H0, Γ, M, _, f, en, hw, fun v d H' H0' M' q f' s r => ?_⟩
    cases r with
    | @lst a xs ds hl ha hz => exact ⟨a, rfl, ⟨xs, .of (f'.sub _ _ hl)⟩, p ds noG _ H' H0' M' q f' s (walkD_list (fun H2 H02 M2 f2 s2 _ => .of (f2.sub _ _ (s2 _ _ hl))) ha hz)⟩
    | @scr a xs ds hl ha hz => exact ⟨a, rfl, ⟨xs, f'.sub.seq hl⟩, p ds noG _ H' H0' M' q f' s (walkD_list (fun H2 H02 M2 f2 s2 _ => f2.sub.seq (s2.seq hl)) ha hz)⟩
    | ptr a =>
      cases hm : M' a with
      | none => simp only [asL, hm] at q
      | some mo =>
        cases mo with
        | lst l =>
          simp only [asL, hm] at q
          obtain ⟨_, o, ho, ro⟩ := f'.mem a _ hm
          cases ro with
          | @lst xs _ ha hz =>
            exact ⟨a, rfl, ⟨xs, .of ho⟩, p l _ _ H' H0' M' q f' s (walkD_cell hz)⟩
        | _ => simp only [asL, hm] at q
    | _ => exact q.elim
def iTup (w : WE) : WI := fun Γ M post => w Γ M fun d M1 => isT d fun l => post l noG M1
theorem di_tup (he : DE X e we) : DI X tg e (iTup we) :=
  PI.weak (pi_tup he) fun σ H R h => by
    obtain ⟨H0, Γ, M, post, f, en, hw, p⟩ := h
    refine ⟨H0, Γ, M, _, f, en, hw, fun v d H' H0' M' q f' s r => ?_⟩
    obtain ⟨l, et, q⟩ := isT_of q
    obtain ⟨a, xs, rfl, hl, ha, hz⟩ := r.tupl et
    exact ⟨a, rfl, ⟨xs, seqT_mono f'.sub hl⟩, p l noG _ H' H0' M' q f' s (walkD_tup hl ha hz)⟩
def signs (s : Str) : List D := s.cps.toList.map fun c => .str ⟨#[c]⟩
def isS (d : D) (k : Str → Prop) : Prop := match d with
  | .str s => k s
  | _ => False
theorem isS_of {d : D} {k : Str → Prop} (h : isS d k) : ∃ b, d = .str b ∧ k b := by
  cases d with
  | str b => exact ⟨b, rfl, h⟩
  | _ => exact h.elim
def iStrD (w : WE) : WI := fun Γ M post => w Γ M fun d M1 => isS d fun z => post (signs z) noG M1
theorem di_str (he : DE X e we) : DI X tg e (iStrD we) :=
  PI.weak (pi_str he) fun σ H R h => by
    obtain ⟨H0, Γ, M, post, f, en, hw, p⟩ := h
    refine ⟨H0, Γ, M, _, f, en, hw, fun v d H' H0' M' q f' s r => ?_⟩
    obtain ⟨z, rfl, q⟩ := isS_of q
    cases r with
    | str _ hz =>
      have hl : (signs z).length = z.cps.size := by simp [signs]
      refine ⟨z, rfl, p _ noG _ H' H0' M' q f' s ⟨⟨fun _ => True, fun i H v H' => H' = H ∧ ∃ c, z.cps[i]? = some c ∧ v = .str ⟨#[c]⟩, ?_, fun _ _ _ _ _ _ => trivial, fun i H x H' H0' M' d hd f s _ y => ?_⟩, by rw [hl]; exact sOk_len hz⟩⟩
      · rw [hl]; exact walk_str
      · obtain ⟨rfl, c, hc, rfl⟩ := y
        have e1 : (signs z)[i]? = some (.str ⟨#[c]⟩) := by simp [signs, hc]
        rw [hd] at e1; cases e1
        exact ⟨H0', f, F.le.refl _, .str _ (sOk_sign hz (by rw [Array.mem_toList_iff]; exact Array.mem_of_getElem? hc))⟩
def rng (lo : Int) (n : Nat) : List D := (List.range n).map fun (i : Nat) => .int (lo + (i : Int))
def iRng (w : WA) : WI := fun Γ M post => w Γ M fun ds M1 => match ds with
  | [.int j] => j ≤ 16777216 ∧ -16777216 ≤ j ∧ post (rng 0 j.toNat) noG M1
  | _ => False
def iRng2 (w : WA) : WI := fun Γ M post => w Γ M fun ds M1 => match ds with
  | [.int i, .int j] => (j ≤ 16777216 ∧ -16777216 ≤ j ∧ i ≤ 16777216 ∧ 0 ≤ i) ∧ post (rng i (j - i).toNat) noG M1
  | _ => False
theorem walkD_rng {K : PySem.W.Frag} {lo : Int} {n : Nat} {H0 : F} (hz : n ≤ sizeLine) : DWalk K (Itr lo n) (rng lo n) noG H0 := by
  have hl : (rng lo n).length = n := by simp [rng]
  refine ⟨⟨fun _ => True, YFn fun i => .int (lo + i), by rw [hl]; exact walk_range, fun _ _ _ _ _ _ => trivial, fun i H x H' H0' M' d hd f s _ y => ?_⟩, by rw [hl]; exact hz⟩
  obtain ⟨rfl, rfl⟩ := y
  have hi : i < n := by
    have := (List.getElem?_eq_some_iff.mp hd).1
    rw [hl] at this; exact this
  have e1 : (rng lo n)[i]? = some (.int (lo + i)) := by simp [rng, hi]
  rw [hd] at e1; cases e1
  exact ⟨H0', f, F.le.refl _, .int _⟩
theorem di_range {p : Pos} (hm : X.mg "range" = none) (ha : DA X [a] w) (hg : Gl X "range" := by rfl) (hs : starEach [a] X.env = [(false, eval a X.env)] := by rfl) : DI X tg (.Call (.Name "range" p) [a] [] pos) (iRng w) :=
  PI.weak (pi_range1 hg hm ha hs) fun σ H R h => by
    obtain ⟨H0, Γ, M, post, f, en, hw, p⟩ := h
    refine ⟨H0, Γ, M, _, f, en, hw, fun vs ds H' H0' M' q f' s r => ?_⟩
    match ds, r, q with
    | [.int j], .cons (.int _) .nil, q => exact ⟨j, rfl, by omega, by omega, p _ noG _ H' H0' M' q.2.2 f' s (walkD_rng (by rw [sizeLine_eq]; omega))⟩
def sFor (wi : WI) (g : WG) (tb : WS) : WS := fun E Γ M => wi Γ M fun items G M1 => ∃ Pv : Nat → Env → Mem → Prop, Pv 0 Γ M1 ∧ (∀ i Γ' M', Pv i Γ' M' → G M') ∧
  (∀ i d Γ' M', items[i]? = some d → Pv i Γ' M' → g d Γ' M' fun Γ2 M2 => tb { E with nx := Pv (i + 1), ct := Pv (i + 1), bk := E.nx } Γ2 M2) ∧ ∀ Γ' M', Pv items.length Γ' M' → E.nx Γ' M'
theorem ds_for {iter : Expr} {body : List Stmt} {wi : WI} {g : WG} {tb : WS} (hp : PassesOwn (model X.prog X.w) X.A X.env X.xe) (hc : X.calm = true) (hi : DI X tg iter wi) (hg : DG X tg g) (hb : DSs X body tb)
    (hs : ∀ x, foldedSetIterable iter X.env x = pure x := by intro _; rfl) : DS X (.For tg iter body [] pos) (sFor wi g tb) :=
  PS.weak (ps_for hp hc hi hg hb hs) fun E σ H h => by
    obtain ⟨H0, Γ, M, post, f, en, hw, p⟩ := h
    refine ⟨H0, Γ, M, _, f, en, hw, fun items G J H1 H01 M1 q f1 s1 dw => ?_⟩
    obtain ⟨Pv, h0, hG, hstep, hend⟩ := q
    obtain ⟨⟨Gv, Y, wk, gv, yl⟩, fit⟩ := dw
    refine for_it wk (fun i σ' H' => ∃ H0' Γ' M', Fr X.K H' H0' M' ∧ F.le H01 H0' ∧ RpE X.K H0' σ' Γ' ∧ Pv i Γ' M') ⟨H01, Γ, M1, f1, F.le.refl _, en.mono s1, h0⟩ ?_ ?_ ?_
    · rintro i σ' H' _ ⟨H0', Γ', M', f', s', e', pv⟩
      exact gv H' H0' M' f' s'.ice (hG i Γ' M' pv)
    · rintro i x σ' H' H'' hi ⟨H0', Γ', M', f', s', e', pv⟩ y
      have hd : items[i]? = some items[i] := List.getElem?_eq_getElem hi
      obtain ⟨H0'', f'', s'', r⟩ := yl i H' x H'' H0' M' _ hd f' s'.ice (hG i Γ' M' pv) y
      have t1 : F.le H0 H0'' := (s1.trans s').trans s''
      refine ⟨H0'', Γ', M', _, _, f'', e'.mono s'', r, hstep i _ Γ' M' hd pv, fun σ2 Γ2 H2 H02 M2 q2 f2 s2 e2 => ⟨H02, Γ2, M2, _, f2, e2, q2, ?_⟩⟩
      have t2 := (s'.trans s'').trans s2
      exact ⟨fun σ3 Γ3 H3 H03 M3 q3 f3 s3 e3 => ⟨H03, Γ3, M3, f3, t2.trans s3, e3, q3⟩, p.rt.mono (t1.trans s2), p.nx.mono (t1.trans s2), fun σ3 Γ3 H3 H03 M3 q3 f3 s3 e3 => ⟨H03, Γ3, M3, f3, t2.trans s3, e3, q3⟩⟩
    · rintro σ' H' ⟨H0', Γ', M', f', s', e', pv⟩
      exact p.nx σ' Γ' H' H0' M' (hend Γ' M' pv) f' (s1.trans s') e'

theorem wipe1 {σ : L2.St} {i : Nat} {v : Option V} : wipe ((wipe σ [i]).set i v) [i] = wipe σ [i] := by
  show ((σ.set i none).set i v).set i none = σ.set i none
  rw [List.set_set, List.set_set]
theorem RpE.wiped {K : PySem.W.Frag} {H : F} {σ : L2.St} {Γ : Env} {v : V} {d : D} (e : RpE K H σ Γ) (i : Nat) (r : Rp K H v d) : RpE K H ((wipe σ [i]).set i (some v)) (Γ.set i (some d)) := by
  have z := (e.unset i).set i r
  rw [List.set_set] at z
  show RpE K H ((σ.set i none).set i (some v)) _
  rw [List.set_set]
  exact List.set_set (l := Γ) .. ▸ z
end
end FD

set_option maxHeartbeats 400000
namespace FD
open PySem PySem.Spec PyProof.Rows L2
section
variable {X : Cx} {elt iter tg e : Expr} {ifs : List Expr} {scope : Scope} {pos : Pos} {wi : WI} {tt : WT} {te : WE}
abbrev GD := D → Env → (Env → Prop) → Prop
structure Tgt (K : PySem.W.Frag) (g : TG) (vs : List Nat) (gd : GD) : Prop where
  run : ∀ (v : V) (d : D) (σ : L2.St) (H : Hp) (H0 : F) (M : Mem) (Γ : Env) (post : Env → Prop) (Q : L2.St → Hp → Prop), Fr K H H0 M → RpE K H0 σ Γ → Rp K H0 v d → gd d Γ post →
    (∀ σ2 Γ2, wipe σ2 vs = wipe σ vs → RpE K H0 σ2 Γ2 → post Γ2 → Q σ2 H) → g v (wipe σ vs) H Q
def t1 (i : Nat) : GD := fun d Γ post => post (Γ.set i (some d))
theorem tgt1 {K : PySem.W.Frag} {i : Nat} : Tgt K (gName i) [i] (t1 i) :=
  ⟨fun v d σ H H0 M Γ post Q f e r w q => q _ _ wipe1 (e.wiped i r) w⟩
def two (l : List D) (k : D → D → Prop) : Prop := match l with
  | [x, y] => k x y
  | _ => False
theorem two_of {l : List D} {k : D → D → Prop} (h : two l k) : ∃ x y, l = [x, y] ∧ k x y := by
  unfold two at h
  split at h
  · exact ⟨_, _, rfl, h⟩
  · exact h.elim
def t2 (i j : Nat) : GD := fun d Γ post => isT d fun l => two l fun x y => post ((Γ.set i (some x)).set j (some y))
def wLc (wi : WI) (gd : GD) (tt : WT) (te : WE) : WE := fun Γ M post => wi Γ M fun items G M1 => ∃ Pv : Nat → List D → Mem → Prop, Pv 0 [] M1 ∧ (∀ i acc M', Pv i acc M' → G M') ∧
  (∀ i d acc M', items[i]? = some d → Pv i acc M' → gd d Γ fun Γ2 => tt Γ2 M' fun b M3 => if b = true then te Γ2 M3 fun y M4 => Pv (i + 1) (acc ++ [y]) M4 else Pv (i + 1) acc M3) ∧
  ∀ acc M', Pv items.length acc M' → post (.lst acc) M'
def tYesD : WT := fun _ M post => post true M
theorem up_lc {g : TG} {gd : GD} {vs : List Nat} (tg : Tgt X.K g vs gd) {σ : L2.St} {H : Hp} {Q : VK} (h : up X.K (wLc wi gd tt te) σ H Q) : tLc (upI X.K wi) g (upT X.K tt) (up X.K te) vs σ H Q := by
  obtain ⟨H0, Γ, M, post, f, en, hw, p⟩ := h
  refine ⟨H0, Γ, M, _, f, en, hw, fun items G J H1 H01 M1 q f1 s1 dw D hD => ?_⟩
  obtain ⟨Pv, h0, hG, hstep, hend⟩ := q
  obtain ⟨⟨Gv, Y, wk, gv, yl⟩, fit⟩ := dw
  have hD0 := (f1.fresh hD).1
  refine lc_it wk (fun i H' => ∃ H0' M' acc xs, Fr X.K H' H0' M' ∧ F.le H01 H0' ∧ H0' D = some (.res (.lst xs)) ∧ RpAll X.K H0' xs acc ∧ acc.length ≤ i ∧ Pv i acc M')
    ⟨H01.put D (.res (.lst [])), M1, [], [], f1.hold hD, F.le_put hD0, F.put_same, .nil, Nat.le_refl _, h0⟩ ?_ ?_ ?_
  · rintro i H' _ ⟨H0', M', acc, xs, f', s', hr, ra, hl, pv⟩
    exact gv H' H0' M' f' s'.ice (hG i acc M' pv)
  · rintro i x H' H'' hi ⟨H0', M', acc, xs, f', s', hr, ra, hl, pv⟩ y
    have hd : items[i]? = some items[i] := List.getElem?_eq_getElem hi
    obtain ⟨H0'', f'', s'', r⟩ := yl i H' x H'' H0' M' _ hd f' s'.ice (hG i acc M' pv) y
    refine tg.run x _ σ H'' H0'' M' Γ _ _ f'' ((en.mono s1).mono (s'.trans s'')) r (hstep i _ acc M' hd pv) fun σ2 Γ2 hw2 e2 q2 => ⟨hw2, H0'', Γ2, M', _, f'', e2, q2, fun b H3 H03 M3 q3 f3 s3 => ?_⟩
    have hr3 : H03 D = some (.res (.lst xs)) := s3 _ _ (s'' _ _ hr)
    have ra3 := (ra.mono s'').mono s3
    cases b with
    | false =>
      simp only [Bool.false_eq_true, if_false] at q3 ⊢
      exact ⟨H03, M3, acc, xs, f3, (s'.trans s'').trans s3, hr3, ra3, by omega, q3⟩
    | true =>
      simp only [if_true] at q3 ⊢
      refine ⟨H03, Γ2, M3, _, f3, e2.mono s3, q3, fun v d H4 H04 M4 q4 f4 s4 r4 => ?_⟩
      have hr4 : H04 D = some (.res (.lst xs)) := s4 _ _ hr3
      have ra4 := ra3.mono s4
      refine ⟨xs, (f4.res _ _ hr4).1, ?_, ?_⟩
      · rw [ra4.length]; omega
      · have ic := put_res_ice (o' := (xs ++ [v])) hr4
        refine ⟨H04.put D (.res (.lst (xs ++ [v]))), M4, acc ++ [d], xs ++ [v], f4.rehold hr4, ?_, F.put_same, ?_, ?_, q4⟩
        · intro b o eb
          have t := (((s'.trans s'').trans s3).trans s4) b o eb
          by_cases hb : b = D
          · subst hb; rw [hD0] at eb; cases eb
          · rw [F.put_ne hb]; exact t
        · exact (ra4.mono' ic).append (.cons (r4.mono' ic) .nil)
        · rw [List.length_append]; simp; exact hl
  · rintro H' ⟨H0', M', acc, xs, f', s', hr, ra, hl, pv⟩
    have ic := put_thaw_ice (o' := .lst xs) hr
    refine p _ _ H' (H0'.put D (.ice (.lst xs))) M' (hend acc M' pv) (f'.settle hr) (s1.trans ?_) (.lst (F.ice_eq F.put_same) (ra.mono' ic) (by omega))
    intro b o eb
    by_cases hb : b = D
    · subst hb; rw [hD0] at eb; cases eb
    · rw [F.put_ne hb]; exact s' b o eb
abbrev DTs (X : Cx) (ifs : List Expr) (w : WT) : Prop := PTs X ifs (upT X.K w)
theorem dts_nil : DTs X [] tYesD := ⟨fun pins s σ H Q I h => by
  obtain ⟨H0, Γ, M, post, f, e, hw, p⟩ := h
  exact pts_nil.run pins s σ H Q I (p true H H0 M hw f (F.le.refl _))⟩
theorem dts_one {c : Expr} {w : WT} (h : DT X c w) : DTs X [c] w := pts_one h
theorem de_lc {own : List (Str × Nat)} {g : TG} {gd : GD} (hc : X.calm = true) (hN : X.N.Nodup) (hi : DI X tg iter wi) (ok : BlkOk X.N X.env.scope scope own) (tgt : Tgt X.K g (own.map (·.2)) gd)
    (hg : ∀ (s : Shared) (H : Hp) (C : Addr) (cl : List (Str × Addr)) (fp : List Addr), PG (X.blk s H scope (compEnvC scope cl C X.env) fp) tg g) (ht : ∀ (s : Shared) (H : Hp) (C : Addr) (cl : List (Str × Addr)) (fp : List Addr), DTs (X.blk s H scope (compEnvC scope cl C X.env) fp) ifs tt)
    (he : ∀ (s : Shared) (H : Hp) (C : Addr) (cl : List (Str × Addr)) (fp : List Addr), DE (X.blk s H scope (compEnvC scope cl C X.env) fp) elt te) (hs : ∀ x, foldedSetIterable iter X.env x = pure x := by intro _; rfl) :
    DE X (.ListComp elt [⟨tg, iter, ifs, 0⟩] scope pos) (wLc wi gd tt te) :=
  PE.weak (pe_lc hc hN hi ok hg ht he hs) fun _ _ _ h => up_lc tgt h
end
end FD

namespace FD
open PySem PySem.Spec PyProof.Rows L2
abbrev DSp := List D → Mem → WK → Prop
def toSp (K : PySem.W.Frag) (dsp : DSp) (vs : List V) (H : Hp) (Q : VK) : Prop := ∃ (H0 : F) (M : Mem) (ds : List D) (post : WK), Fr K H H0 M ∧ RpAll K H0 vs ds ∧ dsp ds M post ∧ PostV K H0 post Q
structure FnG (P : Program) (w : World) (K : PySem.W.Frag) (mg : Str → Option Value) (base : Heap) (k : Nat) (f : Addr) (fd : FuncData) (ps : List Str) (dsp : DSp) : Prop where
  len : ∀ ds M post, dsp ds M post → ds.length = ps.length
  go : ∀ (A : Around) (outer : List PySem.Env) (s : Shared) (H : Hp) (args : Args) (us : List Value) (vs : List V) (Q : VK), A.guards = some [] → Room k A → Env0 P w K mg base A outer s H → BindsTo s fd args (ps.zip us) → Vals vs us →
    toSp K dsp vs H Q → codeAny (model P w) A (.call (.ref f) args) (CR CX0 outer P w H s Q E0) s
theorem toSp.len {K : PySem.W.Frag} {dsp : DSp} {n : Nat} (l : ∀ ds M post, dsp ds M post → ds.length = n) {vs : List V} {H : Hp} {Q : VK} (h : toSp K dsp vs H Q) : vs.length = n := by
  obtain ⟨H0, M, ds, post, f, r, q, p⟩ := h
  rw [r.length]; exact l ds M post q
abbrev bx (P : Program) (w : World) (K : PySem.W.Frag) (mg : Str → Option Value) (base : Heap) (N : List Str) (qual : Str) (sc : Scope) (f : Addr) (cdv : Value) (A : Around) (outer : List PySem.Env) (s : Shared) (H : Hp) : Cx :=
  (cxOf CX0 P w K mg base N qual sc f cdv A outer s H E0).nox
def startD : List Str → List D → Env
  | _ :: N, d :: ds => some d :: startD N ds
  | _ :: N, [] => none :: startD N []
  | [], ds => ds.map some
theorem start_cons {x : Str} {N : List Str} {v : V} {vs : List V} : L2.start (x :: N) (v :: vs) = some v :: L2.start N vs := by
  unfold L2.start
  simp
theorem start_nil {x : Str} {N : List Str} : L2.start (x :: N) [] = none :: L2.start N [] := by
  unfold L2.start
  simp [List.replicate_succ]
theorem RpE.cons {K : PySem.W.Frag} {H : F} {σ : L2.St} {Γ : Env} {v : V} {d : D} (e : RpE K H σ Γ) (r : Rp K H v d) : RpE K H (some v :: σ) (some d :: Γ) := by
  refine ⟨by simp [e.len], fun i d' h => ?_⟩
  cases i with
  | zero => simp at h; subst h; exact ⟨v, rfl, r⟩
  | succ i => exact e.at_ i d' (by simpa using h)
theorem RpE.skip {K : PySem.W.Frag} {H : F} {σ : L2.St} {Γ : Env} (e : RpE K H σ Γ) : RpE K H (none :: σ) (none :: Γ) := by
  refine ⟨by simp [e.len], fun i d' h => ?_⟩
  cases i with
  | zero => simp at h
  | succ i => exact e.at_ i d' (by simpa using h)
theorem startD_rp {K : PySem.W.Frag} {H : F} : ∀ {N : List Str} {vs : List V} {ds : List D}, RpAll K H vs ds → RpE K H (L2.start N vs) (startD N ds)
  | [], _, _, .nil => ⟨rfl, fun i d h => by simp [startD] at h⟩
  | [], _, _, .cons r t => by
    have ih := startD_rp (N := []) t
    have e1 : ∀ (v : V) (vs : List V), L2.start [] (v :: vs) = some v :: L2.start [] vs := fun v vs => by simp [L2.start]
    rw [e1]
    exact ih.cons r
  | _ :: N, _, _, .nil => by
    rw [start_nil]
    exact (startD_rp (N := N) .nil).skip
  | _ :: N, _, _, .cons r t => by
    rw [start_cons]
    exact (startD_rp (N := N) t).cons r
section
variable {P : Program} {w : World} {K : PySem.W.Frag} {mg : Str → Option Value} {base : Heap}
theorem g_of {k : Nat} {f : Addr} {name qual : Str} {params : Arguments} {body : List Stmt} {scope : Scope} {dV kV doc pm cdv ct oc : Value} {an od : Option Addr} {osl : Array (Option Value)} {N ps : List Str} {dsp : DSp}
    (at_ : K.lookup f = some ⟨oc, od, .func (PySem.W.fnOf name qual params body scope dV kV doc pm an cdv ct), osl⟩) (cd : PySem.W.codeIn K cdv qual = true) (S : FnScope N ps scope) (l : ∀ ds M post, dsp ds M post → ds.length = ps.length)
    (hb : ∀ (A : Around) (outer : List PySem.Env) (s : Shared) (H : Hp), (A.deeper (envOfC qual scope s.heap.objs.size f cdv)).guards = some [] → Room k (A.deeper (envOfC qual scope s.heap.objs.size f cdv)) →
      ∃ ws, DSs (bx P w K mg base N qual scope f cdv A outer s H) body ws ∧ ∀ ds M post, dsp ds M post → ws { nx := fun _ M' => post .non M', rt := post } (startD N ds) M) :
    FnG P w K mg base (k + 1) f (PySem.W.fnOf name qual params body scope dV kV doc pm an cdv ct) ps dsp := by
  refine ⟨l, fun A outer s H args us vs Q ag room e0 bind rel sp => ?_⟩
  have ln := sp.len l
  have kin : K.In s.heap := e0.mod.kin.keeps fun b o e => (e0.bs b o e).1
  have kinds : ∀ y ∈ ps.zip us, scope.names.lookup y.1 = some .local ∨ (scope.names.lookup y.1 = some .cell ∧ ((cellsFrom (s.heap.objs.size + 1) scope.names []).lookup y.1).isSome = true) := by
    intro y hy
    have hm : y.1 ∈ ps := (List.of_mem_zip (show (y.1, y.2) ∈ ps.zip us from hy)).1
    exact (S.par y.1 hm).imp id fun q => ⟨q, PySem.W.cellsFrom_some _ _ _ (.inl q)⟩
  obtain ⟨ws, hd, hw⟩ := hb A outer s H ag (room.deeper _)
  obtain ⟨H0, M, ds, post, fr, rp, hq, hp⟩ := sp
  refine codeAny_call_function room.depth (kin _ _ at_) rfl S.co S.gen rfl (PySem.W.codeRec_of kin cd) (bind _ _ _ _ (wpAny_newFunctionEnv_cells S.kind kinds fun env he s1 x => ?_))
  subst he
  have lim : s.heap.NoLimit := e0.mod.nolimit.keeps fun b o e => (e0.bs b o e).1
  have I0 := inv_start (CX := CX0) (E := E0) S room.hd e0 ln rel x
  have run := PSs.run (PSs.nox hd) [] s1 (start N vs) H { nx := fun _ H' => Q .non H', rt := Q } I0 ⟨H0, startD N ds, M, _, fr, startD_rp rp, hw ds M post hq,
    ⟨fun σ Γ H' H0' M' q f' s' e' => hp .non .non H' H0' M' q f' s' .non, fun v d H' H0' M' q f' s' r' => hp v d H' H0' M' q f' s' r', fun _ _ _ _ _ q => q.elim, fun _ _ _ _ _ q => q.elim⟩⟩
  refine ⟨lim.keeps x.toInCall.keep, codeAny_func (wpAny_mono run (fun fl s' hs => ?_) fun e s' hs => hs)⟩
  match fl, hs with
  | .ret u, ⟨v, σ', H', J, rv, q⟩ => exact ⟨v, H', J.os, J.bare, J.base, J.hok, rv, q⟩
  | .next, ⟨σ', H', J, q⟩ => exact ⟨.non, H', J.os, J.bare, J.base, J.hok, rfl, q⟩
  | .brk, ⟨_, _, _, q⟩ => exact q.elim
  | .cont, ⟨_, _, _, q⟩ => exact q.elim
end
section
variable {X : Cx} {k : Nat} {f C : Addr} {fd : FuncData} {ps : List Str} {dsp : DSp} {x m : Str} {p pos apos : Pos} {e o : Expr} {es : List Expr} {wo : WE} {w : WA}
theorem run_g {pins : List (Addr × Obj)} {σ : L2.St} {H : Hp} {s : Shared} {Q : VK} {us ds : List Value} {vs dvs : List V} (G : FnG X.prog X.w X.K X.mg X.base k f fd ps dsp) (room : Room k X.A) (gd : X.A.guards = some []) (bd : Binds X.K fd ps ds) (dv : Vals dvs ds)
    (I : Inv X pins σ H s) (r : Vals vs us) (h : toSp X.K dsp (vs ++ dvs) H Q) : wpAny (model X.prog X.w) X.A (call (.ref f) us) (EP X pins σ Q) X.xe s := by
  have r' := r.append dv
  have ll : (us ++ ds).length = ps.length := by rw [← r'.length]; exact h.len G.len
  refine wpAny_call (codeAny_mono (G.go X.A X.stack s H ⟨us, []⟩ (us ++ ds) (vs ++ dvs) Q gd room I.env0 (bd s us I.kIn ll) r' h) fun res s' hq => ?_)
  match res, hq with
  | .ok (.ret u), hq => exact I.after hq
  | .ok .next, hq => exact hq.elim
  | .ok .brk, hq => exact hq.elim
  | .ok .cont, hq => exact hq.elim
  | .error e, hq => exact hq.elim
structure Pub (P : Program) (w : World) (K : PySem.W.Frag) (mg : Str → Option Value) (base : Heap) (k : Nat) (x : Str) (ps : List Str) (dsp : DSp) : Prop where
  ex : ∃ (f : Addr) (fd : FuncData), mg x = some (.ref f) ∧ PySem.W.keepIn K (.ref f) = true ∧ Binds K fd ps [] ∧ FnG P w K mg base k f fd ps dsp
def wCall (dsp : DSp) (w : WA) : WE := fun Γ M post => w Γ M fun ds M1 => dsp ds M1 post
theorem up_call {σ : L2.St} {H : Hp} {Q : VK} (h : up X.K (wCall dsp w) σ H Q) : upA X.K w σ H fun vs H1 => toSp X.K dsp vs H1 Q :=
  upA_bind (k := fun ds _ M post => dsp ds M post) h fun vs ds H1 H0 Γ M post f e r q p => ⟨H0, M, ds, post, f, r, q, p⟩
theorem de_call (G : Pub X.prog X.w X.K X.mg X.base k x ps dsp) (room : Room k X.A) (gd : X.A.guards = some []) (ha : DA X (e :: es) w) (hg : Gl X x := by rfl) (hdb : (x == ("__debug__" : Str)) = false := by decide)
    (he : starEach (e :: es) X.env = (false, eval e X.env) :: starEach es X.env := by rfl) (hpl : (backTo pos (starEach es X.env)).any (·.1) = false := by rfl) : DE X (.Call (.Name x p) (e :: es) [] pos) (wCall dsp w) := by
  obtain ⟨f, fd, hm, hk, hb, G⟩ := G.ex
  refine ⟨fun pins s σ H Q I h => wpAny_Call_Name_kw (ld_glob I hg hm (PySem.W.callWith_K (h₀ := X.base) I.ok.mod.kin hk (thn (ha.run pos pins s σ H _ I (up_call h)) fun us s1 ⟨vs, H1, I1, r, q⟩ => ⟨I1.kIn, ?_⟩) he hpl) hdb)⟩
  exact run_g (dvs := []) G room gd hb .nil I1 r (by rw [List.append_nil]; exact q)
end
section
variable {P : Program} {w : World} {K : PySem.W.Frag} {mg : Str → Option Value} {base : Heap}
theorem Pub.mono {j k : Nat} {x : Str} {ps : List Str} {dsp : DSp} (G : Pub P w K mg base j x ps dsp) (h : j ≤ k) : Pub P w K mg base k x ps dsp := by
  obtain ⟨f, fd, a, b, c, G⟩ := G.ex
  exact ⟨f, fd, a, b, c, G.len, fun A outer s H args us vs Q g r => G.go A outer s H args us vs Q g (r.mono h)⟩
end
end FD

set_option maxHeartbeats 1000000
namespace FD
open PySem PySem.Spec PyProof.Rows L2
theorem line_of {n : Nat} (h : n ≤ 16777216) : n ≤ sizeLine := by rw [sizeLine_eq]; exact h
theorem line_to {n : Nat} (h : n ≤ sizeLine) : n ≤ 16777216 := by rw [sizeLine_eq] at h; exact h
def addD : D → D → Option D
  | .int i, .int j => some (.int (i + j))
  | .str a, .str b => if a.length + b.length ≤ 16777216 then some (.str (a ++ b)) else none
  | .lst a, .lst b => if a.length + b.length ≤ 16777216 then some (.lst (a ++ b)) else none
  | x, y => match tupOf x, tupOf y with
    | some a, some b => if a.length + b.length ≤ 16777216 then some (if a = [] then y else if b = [] then x else .tup (a ++ b)) else none
    | _, _ => none
def iop (f : Int → Int → Option D) : D → D → Option D
  | .int i, .int j => f i j
  | _, _ => none
def subD : D → D → Option D := iop fun i j => some (.int (i - j))
def mulD : D → D → Option D := iop fun i j => if i.natAbs < 18446744073709551616 ∨ j.natAbs < 18446744073709551616 then some (.int (i * j)) else none
def modD : D → D → Option D := iop fun i j => if 0 < j then some (.int (i % j)) else none
def fdivD : D → D → Option D := iop fun i j => if 0 < j ∧ j < 1073741824 then some (.int (i / j)) else none
def powD : D → D → Option D := iop fun i j => if 0 ≤ j ∧ j ≤ 1000000 ∧ i.natAbs < 18446744073709551616 then some (.int (i ^ j.toNat)) else none
def ltD : D → D → Option D := iop fun i j => some (.bl (decide (i < j)))
def leD : D → D → Option D := iop fun i j => some (.bl (decide (i ≤ j)))
def gtD : D → D → Option D := iop fun i j => some (.bl (decide (j < i)))
def geD : D → D → Option D := iop fun i j => some (.bl (decide (j ≤ i)))
theorem iop_of {f : Int → Int → Option D} {d e : D} {k : D → Prop} (h : got (iop f d e) k) : ∃ i j, d = .int i ∧ e = .int j ∧ got (f i j) k := by
  cases d with
  | int i =>
    cases e with
    | int j => exact ⟨i, j, rfl, rfl, h⟩
    | _ => exact h.elim
  | _ => cases e <;> exact h.elim
section
variable {X : Cx}
theorem mul_small {i j : Int} (h : i.natAbs < 18446744073709551616 ∨ j.natAbs < 18446744073709551616) : CMul i j := by
  rcases h with h | h
  · exact .inl ⟨by omega, by omega⟩
  · exact .inr ⟨by omega, by omega⟩
theorem iopR {op : Value → Value → Sem Value} {f : Int → Int → Option D} {C : Int → Int → Prop} {g : Int → Int → V} (h : OpR X op (rI C g)) (i : ∀ i j z, f i j = some z → C i j ∧ ∀ H, Rp X.K H (g i j) z) : OpR X op (rU2 X.K (p2 (iop f))) :=
  OpR.imp h fun x y H Q q => by
    obtain ⟨H0, M, d, e, post, fr, rx, ry, w, p⟩ := q
    obtain ⟨a, b, rfl, rfl, w⟩ := iop_of w
    obtain ⟨z, e1, w⟩ := got_of w
    cases rx; cases ry
    obtain ⟨c, r⟩ := i a b z e1
    exact ⟨a, b, rfl, rfl, c, p.now fr (r H0) w⟩
theorem iopR0 {op : Value → Value → Sem Value} {f : Int → Int → Option D} {g : Int → Int → V} (h : OpR X op (rI0 g)) (i : ∀ i j z, f i j = some z → ∀ H, Rp X.K H (g i j) z) : OpR X op (rU2 X.K (p2 (iop f))) :=
  OpR.imp h fun x y H Q q => by
    obtain ⟨H0, M, d, e, post, fr, rx, ry, w, p⟩ := q
    obtain ⟨a, b, rfl, rfl, w⟩ := iop_of w
    obtain ⟨z, e1, w⟩ := got_of w
    cases rx; cases ry
    exact ⟨a, b, rfl, rfl, p.now fr (i a b z e1 H0) w⟩
theorem ite_some {α : Type} {c : Prop} [Decidable c] {z y : α} (h : (if c then some z else none) = some y) : c ∧ z = y := by
  by_cases hc : c
  · rw [if_pos hc] at h; exact ⟨hc, Option.some.inj h⟩
  · rw [if_neg hc] at h; cases h
theorem o_mul : OpR X (binaryOp .Mult) (rU2 X.K (p2 mulD)) := iopR op_mul fun i j z e => by
  obtain ⟨c, rfl⟩ := ite_some e
  exact ⟨mul_small c, fun _ => .int _⟩
theorem o_mod : OpR X (binaryOp .Mod) (rU2 X.K (p2 modD)) := iopR op_mod fun i j z e => by
  obtain ⟨c, rfl⟩ := ite_some e
  exact ⟨c, fun _ => .int _⟩
theorem o_fdiv : OpR X (binaryOp .FloorDiv) (rU2 X.K (p2 fdivD)) := iopR op_fdiv fun i j z e => by
  obtain ⟨c, rfl⟩ := ite_some e
  exact ⟨c, fun _ => .int _⟩
theorem o_pow : OpR X (binaryOp .Pow) (rU2 X.K (p2 powD)) := iopR op_pow fun i j z e => by
  obtain ⟨c, rfl⟩ := ite_some e
  exact ⟨⟨c.1, c.2.1, by have := c.2.2; omega⟩, fun _ => .int _⟩
theorem o_lt : OpR X (compareOp .Lt) (rU2 X.K (p2 ltD)) := iopR0 op_lt fun i j z e H => by cases e; exact .bl _
theorem o_le : OpR X (compareOp .LtE) (rU2 X.K (p2 leD)) := iopR0 op_le fun i j z e H => by cases e; exact .bl _
theorem o_gt : OpR X (compareOp .Gt) (rU2 X.K (p2 gtD)) := iopR0 op_gt fun i j z e H => by cases e; exact .bl _
theorem o_ge : OpR X (compareOp .GtE) (rU2 X.K (p2 geD)) := iopR0 op_ge fun i j z e H => by cases e; exact .bl _
theorem addD_tup {x y : D} {a b : List D} (hx : tupOf x = some a) (hy : tupOf y = some b) : addD x y = if a.length + b.length ≤ 16777216 then some (if a = [] then y else if b = [] then x else .tup (a ++ b)) else none := by
  cases x with
  | tup l => cases hx; cases y <;> cases hy <;> rfl
  | ftp l => cases hx; cases y <;> cases hy <;> rfl
  | ktp l => cases hx; cases y <;> cases hy <;> rfl
  | _ => cases hx
theorem add_cases {x y z : D} (h : addD x y = some z) : (∃ i j, x = .int i ∧ y = .int j) ∨ (∃ a b, x = .str a ∧ y = .str b) ∨ (∃ a b, x = .lst a ∧ y = .lst b) ∨ ∃ a b, tupOf x = some a ∧ tupOf y = some b := by
  unfold addD at h
  split at h
  · exact .inl ⟨_, _, rfl, rfl⟩
  · exact .inr (.inl ⟨_, _, rfl, rfl⟩)
  · exact .inr (.inr (.inl ⟨_, _, rfl, rfl⟩))
  · split at h
    · rename_i a b e1 e2
      exact .inr (.inr (.inr ⟨a, b, e1, e2⟩))
    · cases h
theorem o_add : OpR X (binaryOp .Add) (rU2 X.K (p2 addD)) := OpR.imp (op_add.or (op_add_str.or (op_catA.or op_cat))) fun x y H Q q => by
  obtain ⟨H0, M, d, e, post, fr, rx, ry, w, p⟩ := q
  obtain ⟨z, hz, w⟩ := got_of w
  rcases add_cases hz with ⟨i, j, rfl, rfl⟩ | ⟨a, b, rfl, rfl⟩ | ⟨a, b, rfl, rfl⟩ | ⟨ta, tb, hx, hy⟩
  · cases rx; cases ry; cases hz
    exact .inl ⟨i, j, rfl, rfl, p.now fr (.int _) w⟩
  · cases rx with
    | str _ ha =>
      cases ry with
      | str _ hb =>
        obtain ⟨c, rfl⟩ := ite_some hz
        exact .inr (.inl ⟨a, b, rfl, rfl, line_of c, p.now fr (.str _ (sOk_append ha hb c)) w⟩)
  · cases rx with
    | @lst pa xs _ h ha hza =>
      cases ry with
      | @lst pb ys _ h' hb hzb =>
        obtain ⟨c, rfl⟩ := ite_some hz
        refine .inr (.inr (.inr ⟨pa, pb, xs, ys, rfl, rfl, fr.sub _ _ h, fr.sub _ _ h', by rw [ha.length, hb.length]; exact line_of c, fun q hq => ?_⟩))
        have s0 : F.le H0 (H0.put q (.ice (.lst (xs ++ ys)))) := F.le_put (fr.fresh hq).1
        exact p _ _ _ _ M w (fr.ice hq) s0 (.lst (F.ice_eq F.put_same) ((ha.append hb).mono s0) (by rw [List.length_append]; exact line_of c))
  · rw [addD_tup hx hy] at hz
    obtain ⟨c, rfl⟩ := ite_some hz
    obtain ⟨pa, xs, rfl, h, ha, hza⟩ := rx.tupl hx
    obtain ⟨pb, ys, rfl, h', hb, hzb⟩ := ry.tupl hy
    refine .inr (.inr (.inl ⟨pa, pb, xs, ys, rfl, rfl, seqT_mono fr.sub h, seqT_mono fr.sub h', by rw [ha.length, hb.length]; exact line_of c, fun e => ?_, fun n e => ?_, fun n n' q hq => ?_⟩))
    · subst e; cases ha
      rw [if_pos rfl] at w
      exact p.now fr ry w
    · subst e; cases hb
      have n2 : ta ≠ [] := fun z => by subst z; cases ha; exact n rfl
      rw [if_neg n2, if_pos rfl] at w
      exact p.now fr rx w
    · have n2 : ta ≠ [] := fun z => by subst z; cases ha; exact n rfl
      have n3 : tb ≠ [] := fun z => by subst z; cases hb; exact n' rfl
      rw [if_neg n2, if_neg n3] at w
      have s0 : F.le H0 (H0.put q (.ice (.tup (xs ++ ys)))) := F.le_put (fr.fresh hq).1
      exact p _ _ _ _ M w (fr.ice hq) s0 (.tup (F.ice_eq F.put_same) ((ha.append hb).mono s0) (by rw [List.length_append]; exact line_of c))
def isNon : D → Bool
  | .non => true
  | _ => false
def isND (d e : D) : Option D := match e with
  | .non => some (.bl (isNon d))
  | _ => none
def notND (d e : D) : Option D := match e with
  | .non => some (.bl (!isNon d))
  | _ => none
theorem isNon_rp {K : PySem.W.Frag} {H : F} {v : V} {d : D} (r : Rp K H v d) : decide (v = .non) = isNon d := by
  cases r <;> simp [isNon]
theorem o_isN : OpR X (compareOp .Is) (rU2 X.K (p2 isND)) := OpR.imp op_isN fun x y H Q q => by
  obtain ⟨H0, M, d, e, post, fr, rx, ry, w, p⟩ := q
  cases ry with
  | non => exact ⟨rfl, by rw [isNon_rp rx]; exact p.now fr (.bl _) w⟩
  | _ => exact w.elim
theorem o_notN : OpR X (compareOp .IsNot) (rU2 X.K (p2 notND)) := OpR.imp op_notN fun x y H Q q => by
  obtain ⟨H0, M, d, e, post, fr, rx, ry, w, p⟩ := q
  cases ry with
  | non => exact ⟨rfl, by rw [isNon_rp rx]; exact p.now fr (.bl _) w⟩
  | _ => exact w.elim
mutual
def D.dp : D → Nat
  | .non => 0
  | .bl _ => 0
  | .int _ => 0
  | .str _ => 0
  | .tup l => dpAll l + 1
  | .ftp l => dpAll l + 1
  | .ktp l => dpAll l + 1
  | .lst l => dpAll l + 1
  | .scr l => dpAll l + 1
  | .ptr _ => 1000
  | .obj _ _ => 1000
  | .dcK _ => 1000
  | .dcT _ => 1000
  | .exc _ _ _ _ => 1000
def dpAll : List D → Nat
  | [] => 0
  | x :: l => max x.dp (dpAll l)
end
mutual
def D.py : D → PyData
  | .non => .none
  | .bl b => .bool b
  | .int i => .int i
  | .str s => .str s
  | .tup l => .tuple (pyAll l)
  | .ftp l => .tuple (pyAll l)
  | .ktp l => .tuple (pyAll l)
  | .lst l => .list (pyAll l)
  | .scr l => .list (pyAll l)
  | .ptr _ => .none
  | .obj _ _ => .none
  | .dcK _ => .none
  | .dcT _ => .none
  | .exc _ _ _ _ => .none
def pyAll : List D → List PyData
  | [] => []
  | x :: l => x.py :: pyAll l
end
def rsv (M : Mem) (d : D) : D := match d with
  | .ptr a => match M a with
    | some (.lst l) => .lst l
    | _ => d
  | _ => d
def eqd (d e : D) : Bool := PyData.eqv d.py e.py
mutual
theorem Rp.data {K : PySem.W.Frag} {H : Hp} {H0 : F} (s : Same H0.ice H) : ∀ {v : V} {d : D}, Rp K H0 v d → d.dp ≤ 64 → Dp K H v d.py
  | _, _, .non, _ => .non
  | _, _, .bl b, _ => .bl b
  | _, _, .int i, _ => .int i
  | _, _, .str x _, _ => .str x
  | _, .tup l, .tup h ha _, z => .tup (.of (s _ _ h)) (RpAll.data s ha (by unfold D.dp at z; omega))
  | _, .ftp l, .ftp h _ ha _, z => .tup (.inl (.inr ⟨_, s _ _ h⟩)) (RpAll.data s ha (by unfold D.dp at z; omega))
  | _, .ktp l, .ktp h ha _, z => .tup (seqT_mono s h) (RpAll.data s ha (by unfold D.dp at z; omega))
  | _, .lst l, .lst h ha _, z => .lst (.of (s _ _ h)) (RpAll.data s ha (by unfold D.dp at z; omega))
  | _, .scr l, .scr h ha _, z => .lst (s.seq h) (RpAll.data s ha (by unfold D.dp at z; omega))
  | _, .ptr a, .ptr _, z => by unfold D.dp at z; omega
  | _, .obj _ _, .obj _ _ _, z => by unfold D.dp at z; omega
  | _, .dcK _, .dcK _ _ _, z => by unfold D.dp at z; omega
  | _, .dcT _, .dcT _ _ _, z => by unfold D.dp at z; omega
  | _, .exc _ _ _ _, .exc0, z => by unfold D.dp at z; omega
  | _, .exc _ _ _ _, .exc1 _ _ _, z => by unfold D.dp at z; omega
theorem RpAll.data {K : PySem.W.Frag} {H : Hp} {H0 : F} (s : Same H0.ice H) : ∀ {vs : List V} {ds : List D}, RpAll K H0 vs ds → dpAll ds ≤ 64 → DpAll K H vs (pyAll ds)
  | _, _, .nil, _ => .nil
  | _, d :: ds, .cons h t, z => .cons (Rp.data s h (by unfold dpAll at z; omega)) (RpAll.data s t (by unfold dpAll at z; omega))
end
mutual
theorem Rp.shape {K : PySem.W.Frag} {H0 : F} : ∀ {v : V} {d : D}, Rp K H0 v d → d.dp ≤ 64 → d.py.depth = d.dp ∧ d.py.canLay0 = true
  | _, _, .non, _ => ⟨by simp [D.py, D.dp, PyData.depth], by simp [D.py, PyData.canLay0]⟩
  | _, _, .bl _, _ => ⟨by simp [D.py, D.dp, PyData.depth], by simp [D.py, PyData.canLay0]⟩
  | _, _, .int _, _ => ⟨by simp [D.py, D.dp, PyData.depth], by simp [D.py, PyData.canLay0]⟩
  | _, _, .str _ h, _ => ⟨by simp [D.py, D.dp, PyData.depth], by simp [D.py, PyData.canLay0, sOk_real h]⟩
  | _, .tup l, .tup _ ha _, h => by
    have q := RpAll.shape ha (by unfold D.dp at h; omega)
    exact ⟨by simp [D.py, D.dp, PyData.depth, q.1], by simp [D.py, PyData.canLay0, q.2]⟩
  | _, .ftp l, .ftp _ _ ha _, h => by
    have q := RpAll.shape ha (by unfold D.dp at h; omega)
    exact ⟨by simp [D.py, D.dp, PyData.depth, q.1], by simp [D.py, PyData.canLay0, q.2]⟩
  | _, .ktp l, .ktp _ ha _, h => by
    have q := RpAll.shape ha (by unfold D.dp at h; omega)
    exact ⟨by simp [D.py, D.dp, PyData.depth, q.1], by simp [D.py, PyData.canLay0, q.2]⟩
  | _, .lst l, .lst _ ha _, h => by
    have q := RpAll.shape ha (by unfold D.dp at h; omega)
    exact ⟨by simp [D.py, D.dp, PyData.depth, q.1], by simp [D.py, PyData.canLay0, q.2]⟩
  | _, .scr l, .scr _ ha _, h => by
    have q := RpAll.shape ha (by unfold D.dp at h; omega)
    exact ⟨by simp [D.py, D.dp, PyData.depth, q.1], by simp [D.py, PyData.canLay0, q.2]⟩
  | _, .ptr _, .ptr _, h => by unfold D.dp at h; omega
  | _, .obj _ _, .obj _ _ _, h => by unfold D.dp at h; omega
  | _, .dcK _, .dcK _ _ _, h => by unfold D.dp at h; omega
  | _, .dcT _, .dcT _ _ _, h => by unfold D.dp at h; omega
  | _, .exc _ _ _ _, .exc0, h => by unfold D.dp at h; omega
  | _, .exc _ _ _ _, .exc1 _ _ _, h => by unfold D.dp at h; omega
theorem RpAll.shape {K : PySem.W.Frag} {H0 : F} : ∀ {vs : List V} {l : List D}, RpAll K H0 vs l → dpAll l ≤ 64 → PyData.depthAll (pyAll l) = dpAll l ∧ PyData.canLayAll0 (pyAll l) = true
  | _, _, .nil, _ => ⟨by simp [pyAll, dpAll, PyData.depthAll], by simp [pyAll, PyData.canLayAll0]⟩
  | _, d :: l, .cons r t, h => by
    have q := Rp.shape r (by unfold dpAll at h; omega)
    have q2 := RpAll.shape t (by unfold dpAll at h; omega)
    exact ⟨by simp [pyAll, dpAll, PyData.depthAll, q.1, q2.1], by simp [pyAll, PyData.canLayAll0, q.2, q2.2]⟩
end
theorem shaped_of {d : D} (h : d.dp ≤ 64) (q : d.py.depth = d.dp ∧ d.py.canLay0 = true) : SeqAt.shaped d.py = true := by
  unfold SeqAt.shaped
  rw [q.1, q.2]
  simp [h]
theorem rsv_data {K : PySem.W.Frag} {H : Hp} {H0 : F} {M : Mem} {v : V} {d : D} (f : Fr K H H0 M) (r : Rp K H0 v d) (z : (rsv M d).dp ≤ 64) : Dp K H v (rsv M d).py ∧ SeqAt.shaped (rsv M d).py = true := by
  have other : rsv M d = d → Dp K H v (rsv M d).py ∧ SeqAt.shaped (rsv M d).py = true := fun e => by
    rw [e] at z ⊢
    exact ⟨Rp.data f.sub r z, shaped_of z (Rp.shape r z)⟩
  cases d with
  | ptr a =>
    cases r
    unfold rsv at z ⊢
    simp only at z ⊢
    cases e : M a with
    | none => rw [e] at z; simp only [D.dp] at z; omega
    | some mo =>
      rw [e] at z
      cases mo with
      | lst l =>
        simp only at z ⊢
        obtain ⟨_, o, ho, ro⟩ := f.mem a _ e
        cases ro with
        | lst ha hz =>
          have hl : dpAll l ≤ 64 := by unfold D.dp at z; omega
          have q := RpAll.shape ha hl
          exact ⟨.lst (.of ho) (RpAll.data f.sub ha hl), shaped_of z ⟨by simp [D.py, D.dp, PyData.depth, q.1], by simp [D.py, PyData.canLay0, q.2]⟩⟩
      | _ => simp only [D.dp] at z; omega
  | _ => exact other rfl
def gEq : G2 := fun M d e post => (rsv M d).dp ≤ 64 ∧ (rsv M e).dp ≤ 64 ∧ post (.bl (eqd (rsv M d) (rsv M e))) M
def gNe : G2 := fun M d e post => (rsv M d).dp ≤ 64 ∧ (rsv M e).dp ≤ 64 ∧ post (.bl (!eqd (rsv M d) (rsv M e))) M
theorem o_eq {k : Nat} (hr : Room k X.A) : OpR X (compareOp .Eq) (rU2 X.K gEq) := OpR.imp (op_eqD hr.units) fun x y H Q q => by
  obtain ⟨H0, M, d, e, post, fr, rx, ry, ⟨z1, z2, w⟩, p⟩ := q
  exact ⟨_, _, (rsv_data fr rx z1).1, (rsv_data fr ry z2).1, (rsv_data fr rx z1).2, (rsv_data fr ry z2).2, p.now fr (.bl _) w⟩
theorem o_ne {k : Nat} (hr : Room k X.A) : OpR X (compareOp .NotEq) (rU2 X.K gNe) := OpR.imp (op_neD hr.units) fun x y H Q q => by
  obtain ⟨H0, M, d, e, post, fr, rx, ry, ⟨z1, z2, w⟩, p⟩ := q
  exact ⟨_, _, (rsv_data fr rx z1).1, (rsv_data fr ry z2).1, (rsv_data fr rx z1).2, (rsv_data fr ry z2).2, p.now fr (.bl _) w⟩
end
end FD

namespace FD
open PySem PySem.Spec PyProof.Rows L2
def seqOf (M : Mem) : D → Option (List D)
  | .lst l => some l
  | .scr l => some l
  | .ptr a => match M a with
    | some (.lst l) => some l
    | _ => none
  | d => tupOf d
theorem seqOf_lt {K : PySem.W.Frag} {H : Hp} {H0 : F} {M : Mem} {v : V} {d : D} {l : List D} (f : Fr K H H0 M) (r : Rp K H0 v d) (e : seqOf M d = some l) :
    ∃ a xs, v = .ref a ∧ ((SqL K H a xs ∧ tupOf d = none) ∨ (SqT K H a xs ∧ tupOf d = some l)) ∧ RpAll K H0 xs l ∧ l.length ≤ sizeLine := by
  have tt : tupOf d = some l → ∃ a xs, v = .ref a ∧ ((SqL K H a xs ∧ tupOf d = none) ∨ (SqT K H a xs ∧ tupOf d = some l)) ∧ RpAll K H0 xs l ∧ l.length ≤ sizeLine := fun e => by
    obtain ⟨a, xs, e1, h, ha, hz⟩ := r.tupl e
    exact ⟨a, xs, e1, .inr ⟨seqT_mono f.sub h, e⟩, ha, hz⟩
  cases d with
  | lst k => cases e; cases r with | lst h ha hz => exact ⟨_, _, rfl, .inl ⟨.of (f.sub _ _ h), rfl⟩, ha, hz⟩
  | scr k => cases e; cases r with | scr h ha hz => exact ⟨_, _, rfl, .inl ⟨f.sub.seq h, rfl⟩, ha, hz⟩
  | ptr a =>
    cases r
    have e : (match M a with
      | some (.lst l) => some l
      | _ => none) = some l := e
    cases q : M a with
    | none => rw [q] at e; cases e
    | some mo =>
      rw [q] at e
      cases mo with
      | lst k =>
        cases e
        obtain ⟨_, o, ho, ro⟩ := f.mem a _ q
        cases ro with
        | lst ha hz => exact ⟨_, _, rfl, .inl ⟨.of ho, rfl⟩, ha, hz⟩
      | _ => cases e
  | tup k => exact tt e
  | ftp k => exact tt e
  | ktp k => exact tt e
  | _ => cases e
theorem seqOf_sq {K : PySem.W.Frag} {H : Hp} {H0 : F} {M : Mem} {v : V} {d : D} {l : List D} (f : Fr K H H0 M) (r : Rp K H0 v d) (e : seqOf M d = some l) :
    ∃ a xs, v = .ref a ∧ (SqL K H a xs ∨ SqT K H a xs) ∧ RpAll K H0 xs l ∧ l.length ≤ sizeLine := by
  obtain ⟨a, xs, h1, h2, h3, h4⟩ := seqOf_lt f r e
  exact ⟨a, xs, h1, h2.imp (·.1) (·.1), h3, h4⟩
section
variable {X : Cx}
def flatD : D → Bool
  | .non => true
  | .bl _ => true
  | .int _ => true
  | .str _ => true
  | _ => false
theorem flat_rp {K : PySem.W.Frag} {H : F} {v : V} {d : D} (r : Rp K H v d) (h : flatD d = true) : flatV v = true := by
  cases r <;> first | rfl | cases h
theorem flat_all {K : PySem.W.Frag} {H : F} : ∀ {vs : List V} {ds : List D}, RpAll K H vs ds → ds.all flatD = true → vs.all flatV = true
  | _, _, .nil, _ => rfl
  | _, _, .cons r t, h => by
    rw [List.all_cons, Bool.and_eq_true] at h
    rw [List.all_cons, flat_rp r h.1, flat_all t h.2] <;> rfl
theorem eqV_rp {K : PySem.W.Frag} {H : F} {v u : V} {d e : D} (r : Rp K H v d) (q : Rp K H u e) (h : flatD d = true) (h' : flatD e = true) : eqV v u = eqd d e := by
  cases r <;> cases h <;> cases q <;> cases h' <;> simp [eqV, eqd, D.py, PyData.eqv]
theorem inV_rp {K : PySem.W.Frag} {H : F} {u : V} {e : D} (q : Rp K H u e) (h' : flatD e = true) : ∀ {vs : List V} {ds : List D}, RpAll K H vs ds → ds.all flatD = true → inV u vs = ds.any fun d => eqd d e
  | _, _, .nil, _ => rfl
  | _, _, .cons r t, h => by
    rw [List.all_cons, Bool.and_eq_true] at h
    have ih := inV_rp q h' t h.2
    unfold inV at ih ⊢
    rw [List.any_cons, List.any_cons, ih, eqV_rp r q h.1 h']
def inL (l : List D) (x : D) : Bool := l.any fun d => eqd d x
def isC (d : D) (k : Nat → Prop) : Prop := match d with
  | .str s => match s.cps.toList with
    | [c] => k c
    | _ => False
  | _ => False
theorem isC_of {d : D} {k : Nat → Prop} (h : isC d k) : ∃ c, d = .str ⟨#[c]⟩ ∧ k c := by
  unfold isC at h
  split at h
  · rename_i s
    split at h
    · rename_i c e
      refine ⟨c, ?_, h⟩
      obtain ⟨a⟩ := s
      have e2 : a = #[c] := by
        apply Array.toList_inj.mp
        exact e
      rw [e2]
    · exact h.elim
  · exact h.elim
def gIn : G2 := fun M x y post => match y with
  | .str z => isC x fun c => post (.bl (decide (c ∈ z.cps.toList))) M
  | _ => got (seqOf M y) fun l => flatD x = true ∧ l.all flatD = true ∧ post (.bl (inL l x)) M
def gNin : G2 := fun M x y post => match y with
  | .str z => isC x fun c => post (.bl (!decide (c ∈ z.cps.toList))) M
  | _ => got (seqOf M y) fun l => flatD x = true ∧ l.all flatD = true ∧ post (.bl (!inL l x)) M
theorem o_in : OpR X (compareOp .In) (rU2 X.K gIn) := OpR.imp (op_in_sign.or op_in_seq) fun x y H Q q => by
  obtain ⟨H0, M, d, e, post, fr, rx, ry, w, p⟩ := q
  by_cases hs : ∃ z, e = .str z
  · obtain ⟨z, rfl⟩ := hs
    obtain ⟨c, rfl, w⟩ := isC_of w
    cases rx; cases ry
    exact .inl ⟨c, z, rfl, rfl, p.now fr (.bl _) w⟩
  · have w : got (seqOf M e) fun l => flatD d = true ∧ l.all flatD = true ∧ post (.bl (inL l d)) M := by
      cases e <;> first | exact w | exact absurd ⟨_, rfl⟩ hs
    obtain ⟨l, hl, h1, h2, w⟩ := got_of w
    obtain ⟨a, xs, rfl, sq, ra, _⟩ := seqOf_sq fr ry hl
    refine .inr ⟨a, xs, rfl, sq, flat_rp rx h1, flat_all ra h2, ?_⟩
    simp only [Bool.false_eq_true, if_false]
    rw [inV_rp rx h1 ra h2]
    exact p.now fr (.bl _) w
theorem o_nin : OpR X (compareOp .NotIn) (rU2 X.K gNin) := OpR.imp (op_notIn_sign.or op_notIn_seq) fun x y H Q q => by
  obtain ⟨H0, M, d, e, post, fr, rx, ry, w, p⟩ := q
  by_cases hs : ∃ z, e = .str z
  · obtain ⟨z, rfl⟩ := hs
    obtain ⟨c, rfl, w⟩ := isC_of w
    cases rx; cases ry
    exact .inl ⟨c, z, rfl, rfl, p.now fr (.bl _) w⟩
  · have w : got (seqOf M e) fun l => flatD d = true ∧ l.all flatD = true ∧ post (.bl (!inL l d)) M := by
      cases e <;> first | exact w | exact absurd ⟨_, rfl⟩ hs
    obtain ⟨l, hl, h1, h2, w⟩ := got_of w
    obtain ⟨a, xs, rfl, sq, ra, _⟩ := seqOf_sq fr ry hl
    refine .inr ⟨a, xs, rfl, sq, flat_rp rx h1, flat_all ra h2, ?_⟩
    simp only [if_true]
    rw [inV_rp rx h1 ra h2]
    exact p.now fr (.bl _) w
def gIx : G2 := fun M x y post => isI y fun i => match x with
  | .str s => got (atI s.cps.toList i) fun c => post (.str ⟨#[c]⟩) M
  | _ => got (seqOf M x) fun l => got (atI l i) fun d => post d M
theorem atI_mem {α : Type} {l : List α} {i : Int} {x : α} (h : atI l i = some x) : x ∈ l := by
  obtain ⟨j, _, h2, _⟩ := atI_get h
  exact List.mem_of_getElem? h2
theorem atI_rp {K : PySem.W.Frag} {H : F} {vs : List V} {ds : List D} {i : Int} {d : D} (r : RpAll K H vs ds) (h : atI ds i = some d) : ∃ v, atI vs i = some v ∧ Rp K H v d := by
  unfold atI at h ⊢
  rw [r.length]
  cases e : ixN ds.length i with
  | none => rw [e] at h; cases h
  | some j =>
    rw [e] at h
    exact r.get h
theorem o_ix : IxR X (rU2 X.K gIx) := IxR.imp ix_seq fun x y H Q q => by
  obtain ⟨H0, M, d, e, post, fr, rx, ry, w, p⟩ := q
  obtain ⟨i, rfl, w⟩ := isI_of w
  cases ry
  by_cases hs : ∃ z, d = .str z
  · obtain ⟨z, rfl⟩ := hs
    obtain ⟨c, hc, w⟩ := got_of w
    cases rx with
    | str _ hz => exact .inr (.inr ⟨z, i, c, rfl, rfl, sOk_len hz, hc, p.now fr (.str _ (sOk_sign hz (atI_mem hc))) w⟩)
  · have w : got (seqOf M d) fun l => got (atI l i) fun d => post d M := by
      cases d <;> first | exact w | exact absurd ⟨_, rfl⟩ hs
    obtain ⟨l, hl, w⟩ := got_of w
    obtain ⟨z, hi, w⟩ := got_of w
    obtain ⟨a, xs, rfl, sq, ra, _⟩ := seqOf_sq fr rx hl
    obtain ⟨v, hv, rv⟩ := atI_rp ra hi
    rcases sq with sq | sq
    · exact .inl ⟨a, xs, i, v, rfl, rfl, sq, hv, p.now fr rv w⟩
    · exact .inr (.inl ⟨a, xs, i, v, rfl, rfl, sq, hv, p.now fr rv w⟩)
def cutL {α : Type} (l : List α) (lo hi : Option Int) : List α := (l.drop (HT.sIx l.length 0 lo)).take (HT.sIx l.length l.length hi - HT.sIx l.length 0 lo)
theorem cut_rp {K : PySem.W.Frag} {H : F} {vs : List V} {ds : List D} (r : RpAll K H vs ds) (lo hi : Option Int) : RpAll K H (cutV vs lo hi) (cutL ds lo hi) := by
  unfold cutV cutL
  rw [r.length]
  exact (r.drop _).take _
theorem cutL_len {α : Type} (l : List α) (lo hi : Option Int) : (cutL l lo hi).length ≤ l.length := by
  unfold cutL
  rw [List.length_take, List.length_drop]
  omega
theorem sOk_cut {z : Str} (h : sOk z = true) (lo hi : Option Int) : sOk (cutS z lo hi) = true := by
  refine sOk_of (Nat.le_trans (cutS_length z lo hi) (line_to (sOk_len h))) fun c hc => sOk_mem h ?_
  have q : c ∈ ((z.cps.toList.drop (HT.sIx z.length 0 lo)).take (HT.sIx z.length z.length hi - HT.sIx z.length 0 lo)) := by
    have e : (cutS z lo hi).cps.toList = (z.cps.toList.drop (HT.sIx z.length 0 lo)).take (HT.sIx z.length z.length hi - HT.sIx z.length 0 lo) := rfl
    rw [← e]; exact hc
  exact List.mem_of_mem_drop (List.mem_of_mem_take q)
def wholeB {α : Type} (l : List α) (lo hi : Option Int) : Bool := decide (HT.sIx l.length 0 lo = 0 ∧ HT.sIx l.length l.length hi = l.length)
def gSlice : GS := fun M d lo hi post => match d with
  | .str s => post (.str (cutS s lo hi)) M
  | _ => match tupOf d with
    | some l => post (if wholeB l lo hi = true then d else .tup (cutL l lo hi)) M
    | none => got (seqOf M d) fun l => post (.lst (cutL l lo hi)) M
theorem o_slice : SlR X (rUS X.K gSlice) := SlR.imp (sl_str.or (sl_tupA.or sl_list)) fun x lo hi H Q q => by
  obtain ⟨H0, M, d, post, fr, rx, w, p⟩ := q
  by_cases hs : ∃ z, d = .str z
  · obtain ⟨z, rfl⟩ := hs
    cases rx with
    | str _ hz => exact .inl ⟨z, rfl, sOk_len hz, p.now fr (.str _ (sOk_cut hz lo hi)) w⟩
  · have w : (match tupOf d with
        | some l => post (if wholeB l lo hi = true then d else .tup (cutL l lo hi)) M
        | none => got (seqOf M d) fun l => post (.lst (cutL l lo hi)) M) := by
      cases d <;> first | exact w | exact absurd ⟨_, rfl⟩ hs
    cases ht : tupOf d with
    | some l =>
      rw [ht] at w
      have w : post (if wholeB l lo hi = true then d else .tup (cutL l lo hi)) M := w
      obtain ⟨a, xs, rfl, h, ha, hz⟩ := rx.tupl ht
      refine .inr (.inl ⟨a, xs, rfl, seqT_mono fr.sub h, fun e => ?_, fun e q hq => ?_⟩)
      · rw [ha.length] at e
        have e2 : wholeB l lo hi = true := decide_eq_true e
        rw [if_pos e2] at w
        exact p.now fr rx w
      · rw [ha.length] at e
        have e2 : ¬ wholeB l lo hi = true := fun z => e (of_decide_eq_true z)
        rw [if_neg e2] at w
        have s0 : F.le H0 (H0.put q (.ice (.tup (cutV xs lo hi)))) := F.le_put (fr.fresh hq).1
        exact p _ _ _ _ M w (fr.ice hq) s0 (.tup (F.ice_eq F.put_same) ((cut_rp ha lo hi).mono s0) (Nat.le_trans (cutL_len l lo hi) hz))
    | none =>
      rw [ht] at w
      obtain ⟨l, hl, w⟩ := got_of w
      obtain ⟨a, xs, rfl, sq, ha, hz⟩ := seqOf_lt fr rx hl
      have sq : SqL X.K H a xs := sq.elim (·.1) fun t => by rw [ht] at t; cases t.2
      refine .inr (.inr ⟨a, xs, rfl, sq, fun q hq => ?_⟩)
      have s0 : F.le H0 (H0.put q (.ice (.lst (cutV xs lo hi)))) := F.le_put (fr.fresh hq).1
      exact p _ _ _ _ M w (fr.ice hq) s0 (.lst (F.ice_eq F.put_same) ((cut_rp ha lo hi).mono s0) (Nat.le_trans (cutL_len l lo hi) hz))
end
end FD

namespace FD
open PySem PySem.Spec PyProof.Rows L2
section
variable {X : Cx} {a b c e o : Expr} {wa wb wc we wo : WE} {pos apos : Pos} {es : List Expr} {w : WA}
def one (ds : List D) (k : D → Prop) : Prop := match ds with
  | [d] => k d
  | _ => False
theorem one_of {ds : List D} {k : D → Prop} (h : one ds k) : ∃ d, ds = [d] ∧ k d := by
  unfold one at h
  split at h
  · exact ⟨_, rfl, h⟩
  · exact h.elim
def lenD (M : Mem) : D → Option Int
  | .str s => some s.length
  | d => (seqOf M d).map fun l => (l.length : Int)
def gLen : GA := fun M ds post => one ds fun d => got (lenD M d) fun n => post (.int n) M
theorem c_len : CallR X (.builtin "len") (rUA X.K gLen) := CallR.imp call_len fun xs H Q q => by
  obtain ⟨H0, M, ds, post, fr, ra, w, p⟩ := q
  obtain ⟨d, rfl, w⟩ := one_of w
  obtain ⟨n, hn, w⟩ := got_of w
  cases ra with
  | @cons v _ _ _ r t =>
    cases t
    by_cases hs : ∃ z, d = .str z
    · obtain ⟨z, rfl⟩ := hs
      cases r with
      | str _ hz => cases hn; exact ⟨_, z.length, rfl, ⟨sOk_len hz, rfl⟩, p.now fr (.int _) w⟩
    · have hn : (seqOf M d).map (fun l => (l.length : Int)) = some n := by
        cases d <;> first | exact hn | exact absurd ⟨_, rfl⟩ hs
      obtain ⟨l, hl, rfl⟩ := Option.map_eq_some_iff.mp hn
      obtain ⟨a, xs, rfl, sq, ra, _⟩ := seqOf_sq fr r hl
      exact ⟨_, l.length, rfl, sq.imp (fun h => ⟨xs, h, ra.length.symm⟩) (fun h => ⟨xs, h, ra.length.symm⟩), p.now fr (.int _) w⟩
def gInt : GA := fun M ds post => one ds fun d => match d with
  | .int i => post (.int i) M
  | .bl b => post (.int (if b then 1 else 0)) M
  | _ => False
theorem c_int : CallR X (.type "int") (rUA X.K gInt) := CallR.imp call_int1 fun xs H Q q => by
  obtain ⟨H0, M, ds, post, fr, ra, w, p⟩ := q
  obtain ⟨d, rfl, w⟩ := one_of w
  cases ra with
  | @cons v _ _ _ r t =>
    cases t
    cases r with
    | int i => exact .inl ⟨i, rfl, p.now fr (.int _) w⟩
    | bl b => exact .inr ⟨b, rfl, p.now fr (.int _) w⟩
    | _ => exact w.elim
def gAbs : GA := fun M ds post => one ds fun d => isI d fun i => post (.int (if i < 0 then -i else i)) M
theorem c_abs : CallR X (.builtin "abs") (rUA X.K gAbs) := CallR.imp call_abs fun xs H Q q => by
  obtain ⟨H0, M, ds, post, fr, ra, w, p⟩ := q
  obtain ⟨d, rfl, w⟩ := one_of w
  obtain ⟨i, rfl, w⟩ := isI_of w
  cases ra with
  | cons r t => cases t; cases r; exact ⟨i, rfl, p.now fr (.int _) w⟩
def gMax : GA := fun M ds post => two ds fun x y => isI x fun i => isI y fun j => post (.int (if j > i then j else i)) M
def gMin : GA := fun M ds post => two ds fun x y => isI x fun i => isI y fun j => post (.int (if j < i then j else i)) M
theorem c_max (hc : X.calm = true) : CallR X (.builtin "max") (rUA X.K gMax) := CallR.imp (call_max2 hc) fun xs H Q q => by
  obtain ⟨H0, M, ds, post, fr, ra, w, p⟩ := q
  obtain ⟨x, y, rfl, w⟩ := two_of w
  obtain ⟨i, rfl, w⟩ := isI_of w
  obtain ⟨j, rfl, w⟩ := isI_of w
  cases ra with
  | cons r t => cases t with | cons r2 t2 => cases t2; cases r; cases r2; exact ⟨i, j, rfl, p.now fr (.int _) w⟩
theorem c_min (hc : X.calm = true) : CallR X (.builtin "min") (rUA X.K gMin) := CallR.imp (call_min2 hc) fun xs H Q q => by
  obtain ⟨H0, M, ds, post, fr, ra, w, p⟩ := q
  obtain ⟨x, y, rfl, w⟩ := two_of w
  obtain ⟨i, rfl, w⟩ := isI_of w
  obtain ⟨j, rfl, w⟩ := isI_of w
  cases ra with
  | cons r t => cases t with | cons r2 t2 => cases t2; cases r; cases r2; exact ⟨i, j, rfl, p.now fr (.int _) w⟩
def gDivmod : GA := fun M ds post => two ds fun x y => isI x fun i => isI y fun j => (0 < j ∧ j < 1073741824) ∧ post (.tup [.int (i / j), .int (i % j)]) M
def bools : List D → Option (List Bool)
  | [] => some []
  | .bl b :: l => (bools l).map (b :: ·)
  | _ :: _ => none
theorem bools_rp {K : PySem.W.Frag} {H : F} : ∀ {vs : List V} {ds : List D} {bs : List Bool}, RpAll K H vs ds → bools ds = some bs → vs = bs.map V.bl
  | _, _, _, .nil, e => by cases e; rfl
  | _, _, bs, .cons (d := d) r t, e => by
    cases d with
    | bl b =>
      cases r
      obtain ⟨bs', h1, h2⟩ := Option.map_eq_some_iff.mp (show (bools _).map (b :: ·) = some bs from e)
      subst h2
      rw [bools_rp t h1]
      rfl
    | _ => cases e
theorem bools_map : ∀ bs : List Bool, bools (bs.map D.bl) = some bs
  | [] => rfl
  | b :: l => by show (bools (l.map D.bl)).map (b :: ·) = _; rw [bools_map l]; rfl
def lstOf (M : Mem) (d : D) : Option (List D) := match tupOf d with
  | some _ => none
  | none => seqOf M d
theorem lstOf_sq {K : PySem.W.Frag} {H : Hp} {H0 : F} {M : Mem} {v : V} {d : D} {l : List D} (f : Fr K H H0 M) (r : Rp K H0 v d) (e : lstOf M d = some l) : ∃ a xs, v = .ref a ∧ SqL K H a xs ∧ RpAll K H0 xs l ∧ l.length ≤ sizeLine := by
  unfold lstOf at e
  cases ht : tupOf d with
  | some t => rw [ht] at e; cases e
  | none =>
    rw [ht] at e
    obtain ⟨a, xs, h1, h2, h3, h4⟩ := seqOf_lt f r e
    exact ⟨a, xs, h1, h2.elim (fun t => t.1) (fun t => by rw [ht] at t; cases t.2), h3, h4⟩
def gAll : GA := fun M ds post => one ds fun d => got (lstOf M d) fun l => got (bools l) fun bs => post (.bl (bs.all id)) M
def gAny : GA := fun M ds post => one ds fun d => got (lstOf M d) fun l => got (bools l) fun bs => post (.bl (bs.any id)) M
theorem c_all (hc : X.calm = true) : CallR X (.builtin "all") (rUA X.K gAll) := CallR.imp (cr_all hc) fun xs H Q q => by
  obtain ⟨H0, M, ds, post, fr, ra, w, p⟩ := q
  obtain ⟨d, rfl, w⟩ := one_of w
  obtain ⟨l, hl, w⟩ := got_of w
  obtain ⟨bs, hb, w⟩ := got_of w
  cases ra with
  | cons r t =>
    cases t
    obtain ⟨a, xs, rfl, sq, ra, _⟩ := lstOf_sq fr r hl
    exact ⟨a, bs, rfl, by rw [← bools_rp ra hb]; exact sq, p.now fr (.bl _) w⟩
theorem tuple_firm : CallR X (.type "tuple") (fun xs H Q => ∃ p ys, xs = [.ref p] ∧ SqL X.K H p ys ∧ ∀ l ob, H l = none → ob.dict = none → Q (.ref l) (upd H l (.frz ob (.tup ys)))) := by
  intro pins s σ H xs us Q I r h
  obtain ⟨p, ys, rfl, hq, q⟩ := h
  obtain ⟨u, rfl, rx⟩ := vals1 r
  cases rx
  obtain ⟨its, r', pl, hz⟩ := I.list hq
  have hl := r'.length
  refine call_tuple_list pl.isList (fun h' kp => ?_) (by rw [List.size_toArray, ← hl]; exact hz)
  have J := I.kept (h' := h') (t' := s.toks) kp
  have fresh : H h'.objs.size = none := J.hok.fresh (Nat.le_refl _)
  have J2 : Inv X pins σ (upd H h'.objs.size (.frz { cls := .type "tuple", data := .seq its.toArray } (.tup ys))) { s with heap := h'.push { cls := .type "tuple", data := .seq its.toArray } } :=
    J.laid (t' := s.toks) (fun b o e => Heap.get?_push_of_some _ e) (Nat.le_refl _) (show ObjOk X.prog X.w _ _ _ (.frz _ (.tup ys)) from ⟨Heap.get?_push_size _ rfl, hz, its, r', IsTup.new _ _⟩)
  exact ⟨.ref h'.objs.size, _, J2, rfl, q _ _ fresh rfl⟩
def gTuple : GA := fun M ds post => one ds fun d => match tupOf d with
  | some _ => post d M
  | none => got (seqOf M d) fun l => post (.ftp l) M
theorem c_tuple : CallR X (.type "tuple") (rUA X.K gTuple) := CallR.imp (tuple_firm.or call_tupleT) fun xs H Q q => by
  obtain ⟨H0, M, ds, post, fr, ra, w, p⟩ := q
  obtain ⟨d, rfl, w⟩ := one_of w
  have w : (match tupOf d with
    | some _ => post d M
    | none => got (seqOf M d) fun l => post (.ftp l) M) := w
  cases ra with
  | cons r t =>
    cases t
    cases ht : tupOf d with
    | some l =>
      rw [ht] at w
      obtain ⟨a, xs, rfl, h, ha, hz⟩ := r.tupl ht
      exact .inr ⟨a, xs, rfl, seqT_mono fr.sub h, p.now fr r w⟩
    | none =>
      rw [ht] at w
      obtain ⟨l, hl, w⟩ := got_of w
      obtain ⟨a, xs, rfl, sq, ra, hz⟩ := seqOf_lt fr r hl
      have sq : SqL X.K H a xs := sq.elim (·.1) fun t => by rw [ht] at t; cases t.2
      refine .inl ⟨a, xs, rfl, sq, fun q ob hq hd => ?_⟩
      have s0 : F.le H0 (H0.put q (.ice (.frz ob (.tup xs)))) := F.le_put (fr.fresh hq).1
      exact p _ _ _ _ M w (fr.ice hq) s0 (.ftp (F.ice_eq F.put_same) hd (ra.mono s0) hz)
def tyN (M : Mem) : D → Option String
  | .non => some "NoneType"
  | .bl _ => some "bool"
  | .int _ => some "int"
  | .str _ => some "str"
  | .tup _ => some "tuple"
  | .ftp _ => some "tuple"
  | .ktp _ => some "tuple"
  | .lst _ => some "list"
  | .scr _ => none
  | .ptr a => match M a with
    | some (.lst _) => some "list"
    | some (.dK _) => some "dict"
    | some (.dT _) => some "dict"
    | _ => none
  | .obj _ _ => none
  | .dcK _ => some "dict"
  | .dcT _ => none
  | .exc _ _ _ _ => none
theorem tyN_ty {K : PySem.W.Frag} {H : Hp} {H0 : F} {M : Mem} {v : V} {d : D} {t : String} (f : Fr K H H0 M) (r : Rp K H0 v d) (e : tyN M d = some t) : TyX K H v (.type t) := by
  cases r with
  | non => cases e; exact .base .non
  | bl b => cases e; exact .base (.bl b)
  | int i => cases e; exact .base (.int i)
  | str s h => cases e; exact .base (.str s)
  | tup h ha hz => cases e; exact .base (.tup (f.sub _ _ h))
  | ftp h hd ha hz => cases e; exact .fTuple (f.sub _ _ h)
  | ktp h ha hz =>
    cases e
    rcases h with (h | ⟨o, h⟩) | ⟨o, its, n, h, c, _⟩
    · exact .base (.tup (f.sub _ _ h))
    · exact .fTuple (f.sub _ _ h)
    · exact .kTuple h c
  | lst h ha hz => cases e; exact .base (.lst (f.sub _ _ h))
  | scr h ha hz => cases e
  | obj h hk ha => cases e
  | dcK h hk ha => cases e; exact .base (.dK (f.sub _ _ h))
  | dcT h hk ha => cases e
  | exc0 => cases e
  | exc1 h hk ha => cases e
  | ptr a =>
    have e : (match M a with
      | some (.lst _) => some "list"
      | some (.dK _) => some "dict"
      | some (.dT _) => some "dict"
      | _ => none) = some t := e
    cases q : M a with
    | none => rw [q] at e; cases e
    | some mo =>
      rw [q] at e
      obtain ⟨_, ob, ho, ro⟩ := f.mem a _ q
      cases ro with
      | lst _ _ => cases e; exact .base (.lst ho)
      | dK _ => cases e; exact .base (.dK ho)
      | dT _ => cases e; exact .base (.dT ho)
      | ins _ => cases e
      | tab _ _ => cases e
def isiT (T t : String) : Bool := (t == T) || (t == "bool" && T == "int")
def wIsi (T : String) (w : WE) : WE := fun Γ M post => w Γ M fun d M1 => got (tyN M1 d) fun t => post (.bl (isiT T t)) M1
def askT (T : String) : Bool := ["NoneType", "bool", "int", "str", "tuple", "list", "dict"].all fun t => kitB t T == some (isiT T t)
theorem tyN_mem {M : Mem} {d : D} {t : String} (e : tyN M d = some t) : t ∈ ["NoneType", "bool", "int", "str", "tuple", "list", "dict"] := by
  cases d with
  | ptr a =>
    have e : (match M a with
      | some (.lst _) => some "list"
      | some (.dK _) => some "dict"
      | some (.dT _) => some "dict"
      | _ => none) = some t := e
    split at e <;> first | (cases e; decide) | cases e
  | _ => first | (cases e; decide) | cases e
theorem de_isi {T : String} {x : Str} {p p2 : Pos} (he : DE X e we) (hm : X.mg "isinstance" = none) (hmT : X.mg x = none) (hT : bootBuiltins x = some (.type T)) (hk : askT T = true := by decide +kernel) (hg : Gl X "isinstance" := by rfl) (hgT : Gl X x := by rfl) (hn : x ≠ "__name__" := by decide)
    (hdb : (x == ("__debug__" : Str)) = false := by decide) (hs : starEach [e, .Name x p2] X.env = (false, eval e X.env) :: starEach [.Name x p2] X.env := by rfl) (hpl : (backTo pos (starEach [.Name x p2] X.env)).any (·.1) = false := by rfl)
    (hs2 : starEach [.Name x p2] X.env = (false, eval (.Name x p2) X.env) :: starEach [] X.env := by rfl) :
    DE X (.Call (.Name "isinstance" p) [e, .Name x p2] [] pos) (wIsi T we) :=
  PE.weak (pe_callB call_isi hg hm (by decide +kernel) (pa_cons he (pa_cons (pe_bltn (v := .ty T) hgT hmT hT rfl hn hdb) pa_nil hs2) hs) (by decide) (by decide) hs hpl) fun σ H Q h =>
    up_bind (k := fun d Γ M post => got (tyN M d) fun t => post (.bl (isiT T t)) M) h fun v d H1 H0 Γ M post f e r q p => by
      obtain ⟨t, ht, q⟩ := got_of q
      have hk2 : kitB t T = some (isiT T t) := by
        have := List.all_eq_true.mp hk t (tyN_mem ht)
        exact eq_of_beq this
      exact ⟨v, .ty T, .type t, .type T, isiT T t, rfl, .ty T, tyN_ty f r ht, kit_ty hk2, p.now f (.bl _) q⟩
end
end FD

namespace FD
open PySem PySem.Spec PyProof.Rows L2
section
variable {X : Cx} {a b c e o : Expr} {wa wb wc we wo : WE} {pos apos cpos : Pos} {es : List Expr} {w : WA}
def wM (ok : Mem → D → Prop) (g : GM) (wo : WE) (w : WA) : WE := fun Γ M post => wo Γ M fun d M1 => ok M1 d ∧ w Γ M1 fun ds M2 => g M2 d ds post
def okL (M : Mem) (d : D) : Prop := ∃ l, lstOf M d = some l
def okS (_ : Mem) (d : D) : Prop := ∃ s, d = .str s
theorem okL_ty {K : PySem.W.Frag} {H : Hp} {H0 : F} {M : Mem} {v : V} {d : D} (f : Fr K H H0 M) (r : Rp K H0 v d) (h : okL M d) : tyV K "list" v H := by
  obtain ⟨l, h⟩ := h
  obtain ⟨a, xs, rfl, sq, _, _⟩ := lstOf_sq f r h
  exact .inl ⟨rfl, xs, sq⟩
theorem okS_ty {K : PySem.W.Frag} {H : Hp} {H0 : F} {M : Mem} {v : V} {d : D} (f : Fr K H H0 M) (r : Rp K H0 v d) (h : okS M d) : tyV K "str" v H := by
  obtain ⟨s, rfl⟩ := h
  cases r; exact rfl
theorem up_m {T : String} {ok : Mem → D → Prop} {g : GM} (hok : ∀ {H : Hp} {H0 : F} {M : Mem} {v : V} {d : D}, Fr X.K H H0 M → Rp X.K H0 v d → ok M d → tyV X.K T v H) {σ : L2.St} {H : Hp} {Q : VK} (h : up X.K (wM ok g wo w) σ H Q) : tBM X.K T (rUM X.K g) (up X.K wo) (upA X.K w) σ H Q :=
  up_bind (k := fun d Γ M post => ok M d ∧ w Γ M fun ds M2 => g M2 d ds post) h fun v d H1 H0 Γ M post f e r q p =>
    ⟨hok f r q.1, H0, Γ, M, _, f, e, q.2, fun vs ds H2 H02 M2 q2 f2 s2 r2 => ⟨H02, M2, d, ds, post, f2, r.mono s2, r2, q2, p.mono s2⟩⟩
theorem de_ml {name : Str} {id : String} {g : GM} (slot : Slot "list" name id) (hty : typeOf (.builtin id) = pure (.type "method_descriptor")) (hm : MtR X id (rUM X.K g)) (ho : DE X o wo) (ha : DA X (e :: es) w)
    (hbase : attributeBase o name X.env (eval o X.env) = eval o X.env := by rfl)
    (hfew : ((backTo cpos (starEach (e :: es) X.env)).all (fun x => !x.1) && (backToKw cpos (keywordEach [] X.env)).all (fun x => x.1.isSome)
      && decide ((e :: es).length + ([] : List Keyword).length + (if ([] : List Keyword).isEmpty then 0 else 1) < 30)) = true := by rfl)
    (hline : (apos.endLine == cpos.line) = true := by rfl) (hs : starEach (e :: es) X.env = (false, eval e X.env) :: starEach es X.env := by rfl) (hplain : (backTo cpos (starEach es X.env)).any (·.1) = false := by rfl) :
    DE X (.Call (.Attribute o name apos) (e :: es) [] cpos) (wM okL g wo w) :=
  PE.weak (pe_bm PySem.F.plainAttrs_list slot hty hm ho ha hbase hfew hline hs hplain) fun _ _ _ h => up_m okL_ty h
theorem de_ms {name : Str} {id : String} {g : GM} (slot : Slot "str" name id) (hty : typeOf (.builtin id) = pure (.type "method_descriptor")) (hm : MtR X id (rUM X.K g)) (ho : DE X o wo) (ha : DA X (e :: es) w)
    (hbase : attributeBase o name X.env (eval o X.env) = eval o X.env := by rfl)
    (hfew : ((backTo cpos (starEach (e :: es) X.env)).all (fun x => !x.1) && (backToKw cpos (keywordEach [] X.env)).all (fun x => x.1.isSome)
      && decide ((e :: es).length + ([] : List Keyword).length + (if ([] : List Keyword).isEmpty then 0 else 1) < 30)) = true := by rfl)
    (hline : (apos.endLine == cpos.line) = true := by rfl) (hs : starEach (e :: es) X.env = (false, eval e X.env) :: starEach es X.env := by rfl) (hplain : (backTo cpos (starEach es X.env)).any (·.1) = false := by rfl) :
    DE X (.Call (.Attribute o name apos) (e :: es) [] cpos) (wM okS g wo w) :=
  PE.weak (pe_bm PySem.F.plainAttrs_str slot hty hm ho ha hbase hfew hline hs hplain) fun _ _ _ h => up_m okS_ty h
def cell (M : Mem) (d : D) (k : Addr → List D → Prop) : Prop := match d with
  | .ptr a => match M a with
    | some (.lst l) => k a l
    | _ => False
  | _ => False
theorem cell_of {M : Mem} {d : D} {k : Addr → List D → Prop} (h : cell M d k) : ∃ a l, d = .ptr a ∧ M a = some (.lst l) ∧ k a l := by
  cases d with
  | ptr a =>
    have h : (match M a with
      | some (.lst l) => k a l
      | _ => False) := h
    cases q : M a with
    | none => rw [q] at h; exact h.elim
    | some mo =>
      rw [q] at h
      cases mo with
      | lst l => exact ⟨a, l, rfl, q, h⟩
      | _ => exact h.elim
  | _ => exact h.elim
def gAppend : GM := fun M d ds post => one ds fun y => cell M d fun a l => l.length < 16777216 ∧ post .non (M.upd a (.lst (l ++ [y])))
theorem m_append : MtR X "list.append" (rUM X.K gAppend) := MtR.imp mt_append fun x xs H Q q => by
  obtain ⟨H0, M, d, ds, post, fr, rx, ra, w, p⟩ := q
  obtain ⟨y, rfl, w⟩ := one_of w
  obtain ⟨a, l, rfl, hm, hl, w⟩ := cell_of w
  obtain ⟨_, ob, ho, ro⟩ := fr.mem a _ hm
  cases rx
  cases ra with
  | @cons v _ _ _ rv t =>
    cases t
    cases ro with
    | @lst ys _ h hz =>
      refine ⟨a, ys, v, rfl, rfl, ho, by rw [h.length, sizeLine_eq]; exact hl, ?_⟩
      exact p _ _ _ H0 _ w (fr.put hm (.lst (h.append (.cons rv .nil)) (by rw [List.length_append]; exact line_of (by simp; omega)))) (F.le.refl _) .non
def gPop : GM := fun M d ds post => one ds fun y => isI y fun i => cell M d fun a l => got (ixN l.length i) fun k => got (l[k]?) fun z => post z (M.upd a (.lst (l.eraseIdx k)))
theorem m_pop : MtR X "list.pop" (rUM X.K gPop) := MtR.imp mt_popAt fun x xs H Q q => by
  obtain ⟨H0, M, d, ds, post, fr, rx, ra, w, p⟩ := q
  obtain ⟨y, rfl, w⟩ := one_of w
  obtain ⟨i, rfl, w⟩ := isI_of w
  obtain ⟨a, l, rfl, hm, w⟩ := cell_of w
  obtain ⟨k, hk, w⟩ := got_of w
  obtain ⟨z, hz, w⟩ := got_of w
  obtain ⟨_, ob, ho, ro⟩ := fr.mem a _ hm
  cases rx
  cases ra with
  | cons rv t =>
    cases t; cases rv
    cases ro with
    | @lst ys _ h hl =>
      obtain ⟨v, hv, r⟩ := h.get hz
      obtain ⟨q1, q2, q3, q4⟩ := ixN_seq hk
      have := line_to hl
      refine ⟨a, ys, i, k, v, rfl, rfl, ho, by omega, by omega, by rw [h.length]; exact q1, hv, ?_⟩
      exact p _ _ _ H0 _ w (fr.put hm (.lst (h.erase k) (Nat.le_trans (len_erase l k) hl))) (F.le.refl _) r
def txs : List D → Option (List Str)
  | [] => some []
  | .str s :: l => (txs l).map (s :: ·)
  | _ :: _ => none
theorem txs_map : ∀ ss : List Str, txs (ss.map D.str) = some ss
  | [] => rfl
  | s :: l => by show (txs (l.map D.str)).map (s :: ·) = _; rw [txs_map l]; rfl
theorem txs_rp {K : PySem.W.Frag} {H : F} : ∀ {vs : List V} {ds : List D} {ss : List Str}, RpAll K H vs ds → txs ds = some ss → vs = ss.map V.str ∧ ∀ s ∈ ss, sOk s = true
  | _, _, _, .nil, e => by cases e; exact ⟨rfl, fun s h => by cases h⟩
  | _, _, ss, .cons (d := d) r t, e => by
    cases d with
    | str s =>
      cases r with
      | str _ h =>
        obtain ⟨ss', h1, h2⟩ := Option.map_eq_some_iff.mp (show (txs _).map (s :: ·) = some ss from e)
        subst h2
        obtain ⟨q1, q2⟩ := txs_rp t h1
        rw [q1]
        exact ⟨rfl, fun z hz => by
          rcases List.mem_cons.mp hz with rfl | hz
          · exact h
          · exact q2 z hz⟩
    | _ => cases e
def gIndex : GM := fun M d ds post => one ds fun y => isS y fun z => got (lstOf M d) fun l => got (txs l) fun ss => got (ss.findIdx? (· == z)) fun j => post (.int (j : Nat)) M
def gIndexT : GM := fun M d ds post => one ds fun y => isS y fun z => match d with
  | .ftp l => got (txs l) fun ss => got (ss.findIdx? (· == z)) fun j => post (.int (j : Nat)) M
  | _ => False
def wIxT (wo : WE) (w : WA) : WE := fun Γ M post => wo Γ M fun d M1 => (∃ l, d = .ftp l) ∧ w Γ M1 fun ds M2 => gIndexT M2 d ds post
theorem de_ixT (ho : DE X o wo) (ha : DA X [e] w)
    (hbase : attributeBase o "index" X.env (eval o X.env) = eval o X.env := by rfl)
    (hfew : ((backTo cpos (starEach [e] X.env)).all (fun x => !x.1) && (backToKw cpos (keywordEach [] X.env)).all (fun x => x.1.isSome)
      && decide ([e].length + ([] : List Keyword).length + (if ([] : List Keyword).isEmpty then 0 else 1) < 30)) = true := by rfl)
    (hline : (apos.endLine == cpos.line) = true := by rfl) (hs : starEach [e] X.env = (false, eval e X.env) :: starEach [] X.env := by rfl) :
    DE X (.Call (.Attribute o "index" apos) [e] [] cpos) (wIxT wo w) := by
  refine ⟨fun pins s σ H Q I h => wpAny_Call_method_late hbase hfew hline rfl (thn (ho.run pins s σ H _ I (up_bind (X := X) (R := fun v H1 => ∃ (H0 : F) (M : Mem) (l : List D) (Γ : Env) (post : WK), Fr X.K H1 H0 M ∧ RpE X.K H0 σ Γ ∧ Rp X.K H0 v (.ftp l) ∧ (w Γ M fun ds M2 => gIndexT M2 (.ftp l) ds post) ∧ PostV X.K H0 post Q)
    (k := fun d Γ M post => (∃ l, d = .ftp l) ∧ w Γ M fun ds M2 => gIndexT M2 d ds post) h ?_)) fun v s1 ⟨x, H1, I1, r1, H0, M, l, Γ, post, f, en, r, q, p⟩ => ?_)⟩
  · rintro v d H1 H0 Γ M post f e r ⟨⟨l, rfl⟩, q⟩ p
    exact ⟨H0, M, l, Γ, post, f, e, r, q, p⟩
  · cases r with
    | @ftp pa ob xs _ hp hd hx hz =>
      cases r1
      have hfz := f.sub _ _ hp
      obtain ⟨hget, hlen, its, rv, ot⟩ := I1.hok pa _ hfz
      have typ : s1.TypeIs (.ref pa) "tuple" := by
        obtain ⟨o2, e2, c2, _⟩ := ot
        exact ⟨o2, e2, c2⟩
      refine ⟨"tuple", _, PySem.F.plainAttrs_tuple, PySem.F.slot_tuple_index, PySem.F.type_tuple_index, typ, fun a ea => ?_, ?_⟩
      · cases ea; exact ⟨ob, hget, hd⟩
      · have hA := ha.run cpos pins s1 σ H1 (fun vs H2 => ∃ (z : Str) (ss : List Str) (j : Nat), vs = [.str z] ∧ SqT X.K H2 pa (ss.map V.str) ∧ ss[j]? = some z ∧ (∀ m, m < j → ss[m]? ≠ some z) ∧ Q (.int (j : Nat)) H2) I1 ⟨H0, Γ, M, _, f, en, q, fun vs ds H2 H02 M2 q2 f2 s2 r2 => ?_⟩
        · rw [hs] at hA ⊢
          refine Calls.callWith_builtin rfl (Calls.evalArgs_plain (thn hA fun us s2 ⟨vs, H2, I2, r2, z, ss, j, e1, sq, h1, h2, q2⟩ => ?_))
          exact mt_tup_index pins s2 σ H2 (.ref pa) vs (.ref pa) us Q I2 rfl r2 ⟨pa, ss, z, j, rfl, e1, sq, h1, h2, q2⟩
        · obtain ⟨y, rfl, q2⟩ := one_of q2
          obtain ⟨z, rfl, q2⟩ := isS_of q2
          obtain ⟨ss, hss, q2⟩ := got_of q2
          obtain ⟨j, hj, q2⟩ := got_of q2
          obtain ⟨rfl, _⟩ := txs_rp hx hss
          cases r2 with
          | cons rv t =>
            cases t; cases rv
            obtain ⟨hlt, h1, h2⟩ := List.findIdx?_eq_some_iff_getElem.mp hj
            refine ⟨z, ss, j, rfl, .inl (.inr ⟨ob, f2.sub _ _ (s2.ice _ _ hp)⟩), ?_, fun m hm e => ?_, (p.mono s2).now f2 (.int _) q2⟩
            · rw [List.getElem?_eq_getElem hlt]; exact congrArg some (eq_of_beq h1)
            · have hm2 : m < ss.length := by omega
              rw [List.getElem?_eq_getElem hm2] at e
              have := h2 m hm
              simp only [Option.some.injEq] at e
              simp [e] at this
end
end FD

namespace FD
open PySem PySem.Spec PyProof.Rows L2
def insOf (M : Mem) (C : Addr) (d : D) (k : Addr → List (Str × D) → Prop) : Prop := match d with
  | .ptr a => match M a with
    | some (.ins C' fs) => C' = C ∧ k a fs
    | _ => False
  | _ => False
theorem insOf_of {M : Mem} {C : Addr} {d : D} {k : Addr → List (Str × D) → Prop} (h : insOf M C d k) : ∃ a fs, d = .ptr a ∧ M a = some (.ins C fs) ∧ k a fs := by
  cases d with
  | ptr a =>
    have h : (match M a with
      | some (.ins C' fs) => C' = C ∧ k a fs
      | _ => False) := h
    cases q : M a with
    | none => rw [q] at h; exact h.elim
    | some mo =>
      rw [q] at h
      cases mo with
      | ins C' fs =>
        have h : C' = C ∧ k a fs := h
        exact ⟨a, fs, rfl, by rw [q, h.1], h.2⟩
      | _ => exact h.elim
  | _ => exact h.elim
def insR (M : Mem) (C : Addr) (d : D) (k : List (Str × D) → Prop) : Prop := match d with
  | .ptr a => match M a with
    | some (.ins C' fs) => C' = C ∧ k fs
    | _ => False
  | .obj C' fs => C' = C ∧ k fs
  | _ => False
theorem insR_of {K : PySem.W.Frag} {H : Hp} {H0 : F} {M : Mem} {C : Addr} {v : V} {d : D} {k : List (Str × D) → Prop} (f : Fr K H H0 M) (r : Rp K H0 v d) (h : insR M C d k) : ∃ a dx xs fs, v = .ref a ∧ H a = some (.ins C dx xs) ∧ RpKV K H0 xs fs ∧ k fs := by
  cases d with
  | ptr a =>
    cases r
    have h : (match M a with
      | some (.ins C' fs) => C' = C ∧ k fs
      | _ => False) := h
    cases q : M a with
    | none => rw [q] at h; exact h.elim
    | some mo =>
      rw [q] at h
      cases mo with
      | ins C' fs =>
        obtain ⟨rfl, hkf⟩ := (show C' = C ∧ k fs from h)
        obtain ⟨_, ob, ho, ro⟩ := f.mem a _ q
        cases ro with
        | @ins _ dx xs _ kv => exact ⟨a, dx, xs, fs, rfl, ho, kv, hkf⟩
      | _ => exact h.elim
  | obj C' fs =>
    obtain ⟨rfl, hkf⟩ := (show C' = C ∧ k fs from h)
    cases r with
    | @obj a _ dx xs _ hi hk ha => exact ⟨a, dx, xs, fs, rfl, f.sub _ _ hi, kv_of hk ha, hkf⟩
  | _ => exact h.elim
def RelLk (K : PySem.W.Frag) (H : F) : Option V → Option D → Prop
  | some v, some d => Rp K H v d
  | none, none => True
  | _, _ => False
theorem kv_lookup {K : PySem.W.Frag} {H : F} {f : Str} : ∀ {xs : List (Str × V)} {ds : List (Str × D)}, RpKV K H xs ds → RelLk K H (xs.lookup f) (ds.lookup f)
  | _, _, .nil => trivial
  | (x, v) :: xs, (y, d) :: ds, .cons ⟨e, r⟩ t => by
    have e : x = y := e
    subst e
    have ih := kv_lookup (f := f) t
    simp only [List.lookup_cons]
    cases (f == x) with
    | true => exact r
    | false => exact ih
theorem RelLk.some_of {K : PySem.W.Frag} {H : F} {o : Option V} {d : D} (h : RelLk K H o (some d)) : ∃ v, o = some v ∧ Rp K H v d := by
  cases o with
  | none => exact h.elim
  | some v => exact ⟨v, rfl, h⟩
theorem RelLk.none_of {K : PySem.W.Frag} {H : F} {o : Option V} (h : RelLk K H o none) : o = none := by
  cases o with
  | none => rfl
  | some v => exact h.elim
def putFD (f : Str) (v : D) : List (Str × D) → List (Str × D)
  | [] => [(f, v)]
  | (g, u) :: r => if g = f then (g, v) :: r else (g, u) :: putFD f v r
theorem kv_put {K : PySem.W.Frag} {H : F} {f : Str} {v : V} {d : D} (r : Rp K H v d) : ∀ {xs : List (Str × V)} {ds : List (Str × D)}, RpKV K H xs ds → RpKV K H (putF f v xs) (putFD f d ds)
  | _, _, .nil => .cons ⟨rfl, r⟩ .nil
  | (x, u) :: xs, (y, e) :: ds, .cons ⟨e1, q⟩ t => by
    have e1 : x = y := e1
    subst e1
    unfold putF putFD
    by_cases h : x = f
    · rw [if_pos h, if_pos h]; exact .cons ⟨rfl, r⟩ t
    · rw [if_neg h, if_neg h]; exact .cons ⟨rfl, q⟩ (kv_put r t)
theorem kv_len {κ : Type} {K : PySem.W.Frag} {H : F} {xs : List (κ × V)} {ds : List (κ × D)} (r : RpKV K H xs ds) : xs.length = ds.length := Paired.length r
section
variable {X : Cx} {C : Addr} {f m x : Str} {e o value : Expr} {es : List Expr} {we wo : WE} {w : WA} {pos pos' apos p : Pos} {k : Nat} {ps : List Str} {dsp : DSp}
def wFld (C : Addr) (f : Str) (w : WE) : WE := fun Γ M post => w Γ M fun d M1 => insR M1 C d fun fs => got (fs.lookup f) fun v => post v M1
theorem de_fld (c : Cls X.K C) (n : NoAttr X.K C f) (he : DE X e we) (hb : attributeBase e f X.env (eval e X.env) = eval e X.env := by rfl) : DE X (.Attribute e f pos) (wFld C f we) :=
  PE.weak (pe_fld he hb) fun σ H Q h => up_bind (k := fun d _ M post => insR M C d fun fs => got (fs.lookup f) fun v => post v M) h fun v d H1 H0 Γ M post fr en r q p => by
    obtain ⟨a, dx, xs, fs, rfl, ho, kv, q⟩ := insR_of fr r q
    obtain ⟨z, hz, q⟩ := got_of q
    have lk := kv_lookup (f := f) kv
    rw [hz] at lk
    obtain ⟨v, hv, rv⟩ := lk.some_of
    exact ⟨a, C, _, _, v, rfl, ho, c, n, hv, p.now fr rv q⟩
def sFldD (C : Addr) (f : Str) (wo wv : WE) : WS := fun E Γ M => wv Γ M fun y M1 => wo Γ M1 fun d M2 => insOf M2 C d fun a fs => fs.length < 1000 ∧ E.nx Γ (M2.upd a (.ins C (putFD f y fs)))
theorem ds_fld (c : Cls X.K C) (n : NoAttr X.K C f) (ho : DE X o wo) (hv : DE X value we) (hs : swapsWith value (some (.Attribute o f pos')) pos.line X.env = pure false := by rfl) : DS X (.Assign [.Attribute o f pos'] value pos) (sFldD C f wo we) :=
  PS.weak (ps_fld ho hv hs) fun E σ H h => by
    obtain ⟨H0, Γ, M, post, fr, en, hw, p⟩ := h
    refine ⟨H0, Γ, M, _, fr, en, hw, fun v d H1 H01 M1 q f1 s1 r1 => ⟨H01, Γ, M1, _, f1, en.mono s1, q, fun v2 d2 H2 H02 M2 q2 f2 s2 r2 => ?_⟩⟩
    obtain ⟨a, fs, rfl, hm, hl, q2⟩ := insOf_of q2
    obtain ⟨_, ob, ho, ro⟩ := f2.mem a _ hm
    cases r2
    cases ro with
    | @ins _ dx xs _ kv =>
      refine ⟨a, C, dx, xs, rfl, ho, c, n, by rw [kv_len kv]; exact hl, ?_⟩
      exact p.nx σ Γ _ H02 _ q2 (f2.put hm (.ins (kv_put (r1.mono s2) kv))) (s1.trans s2) ((en.mono s1).mono s2)
structure PubM (P : Program) (w : World) (K : PySem.W.Frag) (mg : Str → Option Value) (base : Heap) (k : Nat) (C : Addr) (m : Str) (ps : List Str) (dsp : DSp) : Prop where
  ex : ∃ (f : Addr) (fd : FuncData), Meth K C m f ∧ Binds K fd ps [] ∧ FnG P w K mg base k f fd ps dsp
def wMeth (C : Addr) (m : Str) (dsp : DSp) (wo : WE) (w : WA) : WE := fun Γ M post => wo Γ M fun d M1 => insR M1 C d fun fs => fs.lookup m = none ∧ w Γ M1 fun ds M2 => dsp (d :: ds) M2 post
theorem de_meth0 {pl : Sem Bool} (c : Cls X.K C) (G : PubM X.prog X.w X.K X.mg X.base k C m ps dsp) (room : Room k X.A) (gd : X.A.guards = some []) (ho : DE X o wo)
    (ht : eval (.Call (.Attribute o m apos) [] [] pos) X.env = (do
      let ov ← eval o X.env
      standAt apos.atName
      let (f, first) ← holding [ov] (getMethod ov m pl)
      callWith pos f first (backTo pos (starEach [] X.env)) (backToKw pos (keywordEach [] X.env))) := by rfl) : DE X (.Call (.Attribute o m apos) [] [] pos) (wMeth C m dsp wo aNil) := by
  obtain ⟨f, fd, hm, hb, G⟩ := G.ex
  refine ⟨fun pins s σ H Q I h => PySem.W.methodCall_KW (pl := pl) (thn (ho.run pins s σ H (fun v H1 => ∃ a dx xs, v = .ref a ∧ H1 a = some (.ins C dx xs) ∧ xs.lookup m = none ∧ toSp X.K dsp [.ref a] H1 Q) I ?_) fun u s1 ⟨v, H1, I1, rv, a, dx, xs, ev, ea, l, q⟩ => ?_) ht⟩
  · refine up_bind (k := fun d Γ M post => insR M C d fun fs => fs.lookup m = none ∧ dsp [d] M post) h fun v d H1 H0 Γ M post fr en r q p => ?_
    obtain ⟨a, dx, xs, fs, rfl, ho, kv, hl, q⟩ := insR_of fr r q
    have lk := kv_lookup (f := m) kv
    rw [hl] at lk
    exact ⟨a, dx, xs, rfl, ho, lk.none_of, H0, M, [d], post, fr, .cons r .nil, q, p⟩
  · subst ev
    obtain rfl : u = Value.ref a := rv
    exact getmeth_ok I1 ea c hm l (PySem.W.callWith_K0 (first := [.ref a]) I1.kIn hm.kp (run_g (us := [.ref a]) (vs := [.ref a]) (dvs := []) G room gd hb .nil I1 (.cons rfl .nil) (by rw [List.append_nil]; exact q)))
structure PubC (P : Program) (w : World) (K : PySem.W.Frag) (mg : Str → Option Value) (base : Heap) (k : Nat) (x : Str) (C : Addr) (ps : List Str) (dds : List D) (dsp : DSp) : Prop where
  ex : ∃ (f : Addr) (fd : FuncData) (dvs : List V) (ds : List Value), mg x = some (.ref C) ∧ Mk K C f ∧ Binds K fd ps ds ∧ Vals dvs ds ∧ (∀ H0 : F, RpAll K H0 dvs dds) ∧ FnG P w K mg base k f fd ps dsp
def wMake (C : Addr) (dds : List D) (dsp : DSp) (w : WA) : WE := fun Γ M post => w Γ M fun ds M1 => ∀ a, M1 a = none → dsp (.ptr a :: (ds ++ dds)) (M1.upd a (.ins C [])) fun d M3 => d = .non ∧ post (.ptr a) M3
theorem de_make {dds : List D} (G : PubC X.prog X.w X.K X.mg X.base k x C ps dds dsp) (room : Room (k + 1) X.A) (gd : X.A.guards = some []) (ha : DA X (e :: es) w) (hg : Gl X x := by rfl) (hdb : (x == ("__debug__" : Str)) = false := by decide)
    (he : starEach (e :: es) X.env = (false, eval e X.env) :: starEach es X.env := by rfl) (hpl : (backTo pos (starEach es X.env)).any (·.1) = false := by rfl) : DE X (.Call (.Name x p) (e :: es) [] pos) (wMake C dds dsp w) := by
  obtain ⟨f, fd, dvs, ds, hm, M, hb, dv, rd, G⟩ := G.ex
  refine ⟨fun pins s σ H Q I h => wpAny_Call_Name_kw (ld_glob I hg hm (PySem.W.callWith_K (h₀ := X.base) I.ok.mod.kin M.kp (thn (ha.run pos pins s σ H _ I (upA_bind (X := X) (R := fun vs H1 => ∀ a dx, H1 a = none → H1 dx = none → dx ≠ a → toSp X.K dsp (.ref a :: (vs ++ dvs)) (upd (upd H1 dx (.own a)) a (.ins C dx [])) fun v H2 => v = .non ∧ Q (.ref a) H2)
    (k := fun ds _ M1 post => ∀ a, M1 a = none → dsp (.ptr a :: (ds ++ dds)) (M1.upd a (.ins C [])) fun d M3 => d = .non ∧ post (.ptr a) M3) h ?_)) fun us s1 ⟨vs, H1, I1, r, q⟩ => ⟨I1.kIn, ?_⟩) he hpl) hdb)⟩
  · intro vs ds H1 H0 Γ M1 post fr en ra q p a dx ha hdx hne
    have ha2 : upd H1 dx (.own a) a = none := by rw [upd_ne (Ne.symm hne)]; exact ha
    refine ⟨H0, M1.upd a (.ins C []), .ptr a :: (ds ++ dds), _, (fr.waste hdx).new ha2 (.ins .nil), .cons (.ptr a) (ra.append (rd H0)), q a (fr.fresh ha).2, fun v d H' H0' M' q' f' s' r' => ?_⟩
    obtain ⟨rfl, q'⟩ := q'
    cases r'
    exact ⟨rfl, p _ _ H' H0' M' q' f' s' (.ptr a)⟩
  · have fa : H1 (s1.heap.objs.size + 1) = none := I1.hok.fresh (Nat.le_succ _)
    have fdx : H1 s1.heap.objs.size = none := I1.hok.fresh (Nat.le_refl _)
    have sp := q (s1.heap.objs.size + 1) s1.heap.objs.size fa fdx (Nat.ne_of_lt (Nat.lt_succ_self _))
    have J := Inv.made (C := C) I1
    have r2 : Vals (V.ref (s1.heap.objs.size + 1) :: (vs ++ dvs)) (Value.ref (s1.heap.objs.size + 1) :: (us ++ ds)) := .cons rfl (r.append dv)
    have ll : (Value.ref (s1.heap.objs.size + 1) :: us ++ ds).length = ps.length := by
      have e1 := r2.length
      rw [sp.len G.len] at e1
      exact e1.symm
    refine wpAny_call (make_map (f := f) I1.kIn M.makes M.init (beq_iff_eq.mp M.fn) (codeAny_mono (G.go _ X.stack _ _ ⟨Value.ref (s1.heap.objs.size + 1) :: us, []⟩ (Value.ref (s1.heap.objs.size + 1) :: (us ++ ds)) _ _ ?_ (room.make C us []) (J.env0.make C us [])
      (hb _ (Value.ref (s1.heap.objs.size + 1) :: us) J.kIn ll) r2 sp) fun res s' hq => ?_))
    · first | exact gd | simpa [Around.under, pushGuards, Code.guards, Code.isGuard, guardIds] using gd
    · match res, hq with
      | .ok (.ret u), hq =>
        obtain ⟨v, H', J3, rv, ev, q3⟩ := J.after hq
        subst ev
        exact ⟨rv, ⟨V.ref (s1.heap.objs.size + 1), H', J3, rfl, q3⟩⟩
      | .ok .next, hq => exact hq.elim
      | .ok .brk, hq => exact hq.elim
      | .ok .cont, hq => exact hq.elim
      | .error e, hq => exact hq.elim
end
end FD

namespace FD
open PySem PySem.Spec PyProof.Rows L2
section
variable {X : Cx} {o i e c : Expr} {we wo wi : WE} {pos : Pos} {wt : WT} {tb : WS}
def gSub (wo wi : WE) : WG := fun d Γ M post => wo Γ M fun x M1 => wi Γ M1 fun y M2 => isI y fun k => cell M2 x fun a l => got (ixN l.length k) fun j => post Γ (M2.upd a (.lst (l.set j d)))
theorem dg_sub (ho : DE X o wo) (hi : DE X i wi)
    (ha : ∀ v, assign (.Subscript o i pos) X.env v = (do
      let ov ← holding [v] (eval o X.env)
      let iv ← holding [v, ov] (eval i X.env)
      standAt pos
      holding [v, ov, iv] (setItem ov iv v)
      release [v, ov, iv] []) := by intro _; rfl) : DG X (.Subscript o i pos) (gSub wo wi) :=
  PG.weak (pg_sub ho hi set_list ha) fun v σ H Q h => by
    obtain ⟨H0, Γ, M, d, post, f, e, r, hw, p⟩ := h
    refine ⟨H0, Γ, M, _, f, e, hw, fun v1 d1 H1 H01 M1 q1 f1 s1 r1 => ⟨H01, Γ, M1, _, f1, e.mono s1, q1, fun v2 d2 H2 H02 M2 q2 f2 s2 r2 => ?_⟩⟩
    obtain ⟨k, rfl, q2⟩ := isI_of q2
    obtain ⟨a, l, rfl, hm, q2⟩ := cell_of q2
    obtain ⟨j, hj, q2⟩ := got_of q2
    obtain ⟨_, ob, hob, ro⟩ := f2.mem a _ hm
    cases r1; cases r2
    cases ro with
    | @lst xs _ hx hz =>
      refine ⟨a, xs, k, j, rfl, rfl, hob, by rw [hx.length]; exact hj, ?_⟩
      exact p σ Γ _ H02 _ q2 (f2.put hm (.lst (RpAll.set ((r.mono s1).mono s2) j hx) (by rw [List.length_set]; exact hz))) (s1.trans s2) ((e.mono s1).mono s2)
def wIce (w : WE) : WE := fun Γ M post => w Γ M fun d M1 => cell M1 d fun a l => post (.lst l) (M1.del a)
theorem de_ice (he : DE X e we) : DE X e (wIce we) :=
  PE.weak he fun σ H Q h => up_bind (k := fun d _ M1 post => cell M1 d fun a l => post (.lst l) (M1.del a)) h fun v d H1 H0 Γ M post f en r q p => by
    obtain ⟨a, l, rfl, hm, q⟩ := cell_of q
    obtain ⟨xs, ra, hz, f2, s2⟩ := f.freeze hm
    cases r
    exact p _ _ H1 _ _ q f2 s2 (.lst (F.ice_eq F.put_same) (ra.mono s2) hz)
def wFtp (w : WA) : WE := fun Γ M post => w Γ M fun ds M1 => fitL ds ∧ post (.ftp ds) M1
end
end FD

namespace FD
open PySem PySem.Spec PyProof.Rows L2
theorem look_zero {d : D} {Γ : Env} {k : D → Prop} : look (some d :: Γ) 0 k = k d := rfl
theorem look_succ {x : Option D} {Γ : Env} {i : Nat} {k : D → Prop} : look (x :: Γ) (i + 1) k = look Γ i k := by unfold look; rw [List.getElem?_cons_succ]
theorem got_so {α : Type} {d : α} {k : α → Prop} : got (some d) k = k d := rfl
theorem isB_bl {b : Bool} {k : Bool → Prop} : isB (.bl b) k = k b := rfl
theorem isI_int {b : Int} {k : Int → Prop} : isI (.int b) k = k b := rfl
theorem isS_str {b : Str} {k : Str → Prop} : isS (.str b) k = k b := rfl
theorem isT_tup {l : List D} {k : List D → Prop} : isT (.tup l) k = k l := rfl
theorem isT_ftp {l : List D} {k : List D → Prop} : isT (.ftp l) k = k l := rfl
theorem isT_ktp {l : List D} {k : List D → Prop} : isT (.ktp l) k = k l := rfl
theorem one_one {d : D} {k : D → Prop} : one [d] k = k d := rfl
theorem two_two {d e : D} {k : D → D → Prop} : two [d, e] k = k d e := rfl
theorem startD_cc {x : Str} {N : List Str} {d : D} {ds : List D} : startD (x :: N) (d :: ds) = some d :: startD N ds := rfl
theorem startD_cn {x : Str} {N : List Str} : startD (x :: N) [] = none :: startD N [] := rfl
theorem startD_nn : startD [] [] = [] := rfl
theorem ix_str {M : Mem} {s : Str} {i : Int} {post : WK} : gIx M (.str s) (.int i) post = got (atI s.cps.toList i) fun c => post (.str ⟨#[c]⟩) M := rfl
theorem ix_tup {M : Mem} {l : List D} {i : Int} {post : WK} : gIx M (.tup l) (.int i) post = got (atI l i) fun d => post d M := rfl
theorem ix_ftp {M : Mem} {l : List D} {i : Int} {post : WK} : gIx M (.ftp l) (.int i) post = got (atI l i) fun d => post d M := rfl
theorem ix_ktp {M : Mem} {l : List D} {i : Int} {post : WK} : gIx M (.ktp l) (.int i) post = got (atI l i) fun d => post d M := rfl
theorem ix_lst {M : Mem} {l : List D} {i : Int} {post : WK} : gIx M (.lst l) (.int i) post = got (atI l i) fun d => post d M := rfl
theorem ix_scr {M : Mem} {l : List D} {i : Int} {post : WK} : gIx M (.scr l) (.int i) post = got (atI l i) fun d => post d M := rfl
theorem atI0 {α : Type} {a : α} {l : List α} : atI (a :: l) 0 = some a := atI_nat (j := 0) rfl
theorem atI1 {α : Type} {a b : α} {l : List α} : atI (a :: b :: l) 1 = some b := atI_nat (j := 1) rfl
theorem atI2 {α : Type} {a b c : α} {l : List α} : atI (a :: b :: c :: l) 2 = some c := atI_nat (j := 2) rfl
theorem atI3 {α : Type} {a b c d : α} {l : List α} : atI (a :: b :: c :: d :: l) 3 = some d := atI_nat (j := 3) rfl
theorem eqd_str {a b : Str} : eqd (.str a) (.str b) = decide (a = b) := by
  unfold eqd; simp only [D.py, PyData.eqv]; exact Bool.beq_eq_decide_eq a b
theorem eqd_int {a b : Int} : eqd (.int a) (.int b) = decide (a = b) := by
  unfold eqd; simp only [D.py, PyData.eqv]; exact Bool.beq_eq_decide_eq a b
theorem eqd_bl {a b : Bool} : eqd (.bl a) (.bl b) = decide (a = b) := by
  unfold eqd; simp only [D.py, PyData.eqv]; exact Bool.beq_eq_decide_eq a b
theorem eq_str {M : Mem} {a b : Str} {post : WK} : gEq M (.str a) (.str b) post = post (.bl (decide (a = b))) M := by
  unfold gEq; simp only [rsv, D.dp, eqd_str]; simp
theorem ne_str {M : Mem} {a b : Str} {post : WK} : gNe M (.str a) (.str b) post = post (.bl (!decide (a = b))) M := by
  unfold gNe; simp only [rsv, D.dp, eqd_str]; simp
theorem eq_int {M : Mem} {a b : Int} {post : WK} : gEq M (.int a) (.int b) post = post (.bl (decide (a = b))) M := by
  unfold gEq; simp only [rsv, D.dp, eqd_int]; simp
theorem ne_int {M : Mem} {a b : Int} {post : WK} : gNe M (.int a) (.int b) post = post (.bl (!decide (a = b))) M := by
  unfold gNe; simp only [rsv, D.dp, eqd_int]; simp
theorem add_int {i j : Int} : addD (.int i) (.int j) = some (.int (i + j)) := rfl
theorem sub_int {i j : Int} : subD (.int i) (.int j) = some (.int (i - j)) := rfl
theorem lt_int {i j : Int} : ltD (.int i) (.int j) = some (.bl (decide (i < j))) := rfl
theorem le_int {i j : Int} : leD (.int i) (.int j) = some (.bl (decide (i ≤ j))) := rfl
theorem gt_int {i j : Int} : gtD (.int i) (.int j) = some (.bl (decide (j < i))) := rfl
theorem ge_int {i j : Int} : geD (.int i) (.int j) = some (.bl (decide (j ≤ i))) := rfl
theorem isN_non {d : D} : isND d .non = some (.bl (isNon d)) := rfl
theorem notN_non {d : D} : notND d .non = some (.bl (!isNon d)) := rfl
theorem len_str {M : Mem} {s : Str} : lenD M (.str s) = some (s.length : Int) := rfl
theorem len_tup {M : Mem} {l : List D} : lenD M (.tup l) = some (l.length : Int) := rfl
theorem len_ftp {M : Mem} {l : List D} : lenD M (.ftp l) = some (l.length : Int) := rfl
theorem len_ktp {M : Mem} {l : List D} : lenD M (.ktp l) = some (l.length : Int) := rfl
theorem len_lst {M : Mem} {l : List D} : lenD M (.lst l) = some (l.length : Int) := rfl
theorem len_scr {M : Mem} {l : List D} : lenD M (.scr l) = some (l.length : Int) := rfl
theorem seq_tup {M : Mem} {l : List D} : seqOf M (.tup l) = some l := rfl
theorem seq_ftp {M : Mem} {l : List D} : seqOf M (.ftp l) = some l := rfl
theorem seq_ktp {M : Mem} {l : List D} : seqOf M (.ktp l) = some l := rfl
theorem seq_lst {M : Mem} {l : List D} : seqOf M (.lst l) = some l := rfl
theorem seq_scr {M : Mem} {l : List D} : seqOf M (.scr l) = some l := rfl
theorem in_tup {M : Mem} {x : D} {l : List D} {post : WK} : gIn M x (.tup l) post = (flatD x = true ∧ l.all flatD = true ∧ post (.bl (inL l x)) M) := rfl
theorem in_ftp {M : Mem} {x : D} {l : List D} {post : WK} : gIn M x (.ftp l) post = (flatD x = true ∧ l.all flatD = true ∧ post (.bl (inL l x)) M) := rfl
theorem in_ktp {M : Mem} {x : D} {l : List D} {post : WK} : gIn M x (.ktp l) post = (flatD x = true ∧ l.all flatD = true ∧ post (.bl (inL l x)) M) := rfl
theorem in_lst {M : Mem} {x : D} {l : List D} {post : WK} : gIn M x (.lst l) post = (flatD x = true ∧ l.all flatD = true ∧ post (.bl (inL l x)) M) := rfl
theorem nin_tup {M : Mem} {x : D} {l : List D} {post : WK} : gNin M x (.tup l) post = (flatD x = true ∧ l.all flatD = true ∧ post (.bl (!inL l x)) M) := rfl
theorem nin_ftp {M : Mem} {x : D} {l : List D} {post : WK} : gNin M x (.ftp l) post = (flatD x = true ∧ l.all flatD = true ∧ post (.bl (!inL l x)) M) := rfl
theorem nin_ktp {M : Mem} {x : D} {l : List D} {post : WK} : gNin M x (.ktp l) post = (flatD x = true ∧ l.all flatD = true ∧ post (.bl (!inL l x)) M) := rfl
theorem nin_lst {M : Mem} {x : D} {l : List D} {post : WK} : gNin M x (.lst l) post = (flatD x = true ∧ l.all flatD = true ∧ post (.bl (!inL l x)) M) := rfl
theorem in_str {M : Mem} {x : D} {z : Str} {post : WK} : gIn M x (.str z) post = isC x fun c => post (.bl (decide (c ∈ z.cps.toList))) M := rfl
theorem nin_str {M : Mem} {x : D} {z : Str} {post : WK} : gNin M x (.str z) post = isC x fun c => post (.bl (!decide (c ∈ z.cps.toList))) M := rfl
theorem isC_one {c : Nat} {k : Nat → Prop} : isC (.str ⟨#[c]⟩) k = k c := rfl
theorem fit_le {α : Type} {l : List α} : fitL l = (l.length ≤ 16777216) := rfl
theorem asL_lst {M : Mem} {l : List D} {k : List D → (Mem → Prop) → Prop} : asL M (.lst l) k = k l noG := rfl
theorem asL_scr {M : Mem} {l : List D} {k : List D → (Mem → Prop) → Prop} : asL M (.scr l) k = k l noG := rfl
theorem if_tt {p q : Prop} : (if true = true then p else q) = p := by simp
theorem if_ff {p q : Prop} : (if false = true then p else q) = q := by simp
end FD

namespace FD
open PySem PySem.Spec PyProof.Rows L2
open AutoSeq1 (wpAny_loadPart')
theorem enum_new {v : Value} {o : Obj} {G : Heap → Prop} (B : Begins v o G) :
    Meets (Builtin.«enumerate.__new__» ⟨[.type "enumerate", v], []⟩) (fun _ R s => G s.heap ∧ R (.ok (.ret (.ref (s.heap.push o).objs.size))) { s with heap := (s.heap.push o).push { cls := .type "enumerate", data := .fields #[.none, .bool false, .ref s.heap.objs.size, rawInt 0, .none, .none] } }) :=
  .of_wp fun prog w A R s h => by
    obtain ⟨hp, g, d, tk, os⟩ := s
    obtain ⟨h1, h⟩ := h
    have hsub := sub_enumerate
    have q1 := fun A E Q (q : Q (Value.ref hp.objs.size) (⟨hp.push o, g, d, tk, os⟩ : Shared)) => B.iter prog w A E ⟨hp, g, d, tk, os⟩ Q h1 q
    wp_walk using q1
    refine wpAny_stack_any fun st => wpAny_pure ?_
    split
    · rename_i c _ _ _ _ _
      cases (c == Value.type "enumerate") <;> (wp_walk using q1; exact ⟨_, rfl, h⟩)
    · wp_walk using q1
      exact ⟨_, rfl, h⟩
theorem enum_call {prog : Program} {w : World} {A : Around} {E : Value → Shared → Prop} {s : Shared} {v : Value} {o : Obj} {G : Heap → Prop} {Q : Value → Shared → Prop} (B : Begins v o G) (h1 : G s.heap)
    (h : ∀ h', IsEnum h' (s.heap.objs.size + 1) s.heap.objs.size 0 .none → h'.get? s.heap.objs.size = some o → (∀ b u, s.heap.get? b = some u → h'.get? b = some u) → Q (.ref (s.heap.objs.size + 1)) { s with heap := h' }) :
    wpAny (model prog w) A (call (.type "enumerate") [v]) Q E s := by
  refine callType_new F.called_enumerate (by decide) (F.typeCall_enumerate_1 _) (F.newCall_enumerate_1 _) (fun obj => F.args_object_init_2 obj _) F.entry_enumerate_new (enum_new B) ⟨h1, ?_⟩
  have hz : (s.heap.push o).objs.size = s.heap.objs.size + 1 := Heap.size_push ..
  have he : IsEnum ((s.heap.push o).push { cls := .type "enumerate", data := .fields #[.none, .bool false, .ref s.heap.objs.size, rawInt 0, .none, .none] }) (s.heap.objs.size + 1) s.heap.objs.size 0 .none := by
    have q := Heap.get?_push_size (s.heap.push o) (o := { cls := .type "enumerate", data := .fields #[.none, .bool false, .ref s.heap.objs.size, rawInt 0, .none, .none] }) rfl
    rw [hz] at q
    exact q
  show _ ∧ _
  rw [hz]
  exact ⟨⟨_, he, rfl⟩, h _ he (Heap.get?_push_of_some _ (Heap.get?_push_size _ B.free)) fun b u x => Heap.get?_push_of_some _ (Heap.get?_push_of_some _ x)⟩
def IteT (K : PySem.W.Frag) (a : Addr) : It :=
  ⟨fun i H => ∃ (xs : List V) (x : V), SqT K H a xs ∧ xs[i]? = some x, fun i H v H' => ∃ T x, v = .ref T ∧ H T = none ∧ H' = upd H T (.tup [.int (i : Nat), x]) ∧ ∀ xs, SqT K H a xs → xs[i]? = some x, fun i H => ∃ xs : List V, SqT K H a xs ∧ xs.length = i⟩
theorem turn_enumT {P : Program} {w : World} {K : PySem.W.Frag} {elts : List Expr} {kk : Nat} {tpos : Pos} (a e it : Addr) :
    Turn P w K (.Tuple elts kk tpos) (IteT K a) [e, it] e (fun i h => (∃ old, IsEnum h e it ((i : Nat) : Int) old) ∧ h.IsTupleIter it a i ∧ e ≠ it ∧ a ≠ it ∧ a ≠ e) where
  mem := by simp
  obj := fun i h st b hb => by
    obtain ⟨⟨old, he⟩, ⟨o, ho, hc, hd⟩, _⟩ := st
    rcases (show b = e ∨ b = it by simpa using hb) with rfl | rfl
    · exact ⟨_, he, fun v q => nomatch q⟩
    · exact ⟨o, ho, fun v q => by rw [hd] at q; cases q⟩
  keep := fun i h h' st k => by
    obtain ⟨⟨old, he⟩, hi, hne⟩ := st
    exact ⟨⟨old, k e (by simp) _ he⟩, hi.at fun o q => k it (by simp) o q, hne⟩
  item := by
    intro X hP hw hK hc i pins s σ H E I hf st hg
    subst hP hw hK
    obtain ⟨⟨old, he⟩, hit, hne, hai, hae⟩ := st
    obtain ⟨xs, x, hq, hx⟩ := hg
    obtain ⟨its, rv, p, hz⟩ := I.tuple hq
    have hl := rv.length
    have hlt : i < its.toArray.size := by
      have := (List.getElem?_eq_some_iff.mp hx).1
      rw [List.size_toArray]; omega
    have hel : e < s.heap.objs.size := Heap.lt_size he
    have hil : it < s.heap.objs.size := by obtain ⟨_, q, _⟩ := hit; exact Heap.lt_size q
    have D := Draws.tuple (prog := X.prog) (w := X.w) (A := X.A.in1) (I.ok.hd hc) it a hai its.toArray
    refine wpAny_pyNext_enum_itemD D he ⟨hit, p⟩ hlt hne (by simp [hne, Ne.symm hae]) fun u h' tk hu ho hst hT hsz hk => ?_
    have hu : its[i]? = some u := by simpa using hu
    obtain ⟨u', hu', ru⟩ := rv.get hx
    rw [hu] at hu'; cases hu'
    refine ⟨_, rfl, wpAny_letOwnedTupleGo_enum (s := { s with heap := h', toks := tk + 1 }) ho fun h'' he' sb => ?_⟩
    have hT2 : h''.get? s.heap.objs.size = some { cls := .type "tuple", data := .seq #[.int i tk, u] } := (sb.2 _ (Nat.ne_of_gt hel)).trans hT
    have new : ObjOk X.prog X.w (upd H s.heap.objs.size (.tup [.int (i : Nat), x])) h'' s.heap.objs.size (.tup [.int (i : Nat), x]) :=
      ⟨by show 2 ≤ sizeLine; decide, [.int i tk, u], .cons ⟨_, rfl⟩ (.cons ru .nil), ⟨_, hT2, rfl, _, rfl⟩⟩
    have J := I.turnedNew (t' := tk + 1) (ch := [e, it]) (fun b ob hb q => (sb.2 b (fun z => hb (by simp [z]))).trans (hk b ob (fun z => hb (by simp [z])) (fun z => hb (by simp [z])) q)) hf (Nat.le_refl _) new
    refine ⟨.ref s.heap.objs.size, _, J, rfl, ⟨_, x, rfl, I.hok.fresh (Nat.le_refl _), rfl, fun ys hy => by rw [I.tuple_inj hy hq]; exact hx⟩, ⟨⟨u, ?_⟩, hst.1.at fun o q => (sb.2 it (Ne.symm hne)).trans q, hne, hai, hae⟩, fun b hb => ?_⟩
    · have e1 : ((i + 1 : Nat) : Int) = (i : Int) + 1 := by omega
      rw [e1]; exact he'
    · have hb' : b < s.heap.objs.size := by
        rcases (show b = e ∨ b = it by simpa using hb) with rfl | rfl
        · exact hel
        · exact hil
      rw [upd_ne (Nat.ne_of_lt hb')]
      exact (hf b hb).1
  done := by
    intro X hP hw hK hc i pins s σ H E I hf st hg
    subst hP hw hK
    obtain ⟨⟨old, he⟩, hit, hne, hai, hae⟩ := st
    obtain ⟨xs, hq, hx⟩ := hg
    obtain ⟨its, rv, p, hz⟩ := I.tuple hq
    have D := Draws.tuple (prog := X.prog) (w := X.w) (A := X.A.in1) (I.ok.hd hc) it a hai its.toArray
    have en : its.toArray.size = i := by rw [List.size_toArray, ← rv.length]; exact hx
    obtain ⟨f0, f1, f2, f3, f4, f5⟩ := hf it (by simp)
    exact wpAny_pyNext_enum_endD D he ⟨by rw [en]; exact hit, p⟩ fun h' eb => ⟨rfl, I.turned (t' := s.toks) (fun b o hb q => eb b o hb q) f0 f1 f3 f4 f5⟩
  self := fun A i s Q E st h => by
    obtain ⟨⟨_, he⟩, _⟩ := st
    exact wpAny_pyIter_enum he h
section
variable {X : Cx} {e tg : Expr} {we : WE} {pos p tpos : Pos} {elts : List Expr} {kk : Nat} {w : WA}
def iEnumT (K : PySem.W.Frag) (ta : TA) : TI := fun σ H R => ta σ H fun vs H1 => ∃ a xs, vs = [.ref a] ∧ SqT K H1 a xs ∧ R (IteT K a) H1
theorem pi_enumT {ta : TA} (hm : X.mg "enumerate" = none) (ha : PA X [e] ta) (hg : Gl X "enumerate" := by rfl) (hs : starEach [e] X.env = [(false, eval e X.env)] := by rfl) : PI X (.Tuple elts kk tpos) (.Call (.Name "enumerate" p) [e] [] pos) (iEnumT X.K ta) := by
  refine ⟨fun pins s σ H R I h => Call_ (ld_blt I hg hm boot_enumerate (PyProof.Rows.callWith_type1 (thn (ha.run pos pins s σ H _ I h) fun us s1 ⟨vs, H1, I1, r1, q1⟩ => ?_) hs rfl))⟩
  obtain ⟨a, xs, rfl, hq, q⟩ := q1
  have er := Vals.ref1 r1
  subst er
  obtain ⟨its, rv, ht, hz⟩ := I1.tuple hq
  have hal : a < s1.heap.objs.size := by obtain ⟨o, ho, _⟩ := ht; exact Heap.lt_size ho
  refine enum_call (begins_tuple a its.toArray) ht fun h' he hit hk => wpAny_pyIter_enum he ?_
  refine ⟨s1.heap.objs.size + 1, [s1.heap.objs.size + 1, s1.heap.objs.size], _, _, H1, rfl, I1.kept (h' := h') (t' := s1.toks) hk, turn_enumT a (s1.heap.objs.size + 1) s1.heap.objs.size,
    ⟨⟨.none, he⟩, ⟨_, hit, rfl, rfl⟩, Nat.succ_ne_self _, Nat.ne_of_lt hal, Nat.ne_of_lt (Nat.lt_succ_of_lt hal)⟩, fun b hb => ?_, q⟩
  have hle : s1.heap.objs.size ≤ b := by
    rcases (show b = s1.heap.objs.size + 1 ∨ b = s1.heap.objs.size by simpa using hb) with z | z
    · rw [z]; exact Nat.le_add_right _ _
    · rw [z]; exact Nat.le_refl _
  exact I1.fpOk hle (I1.hok.fresh hle)
def enumD : Nat → List D → List D
  | _, [] => []
  | i, d :: l => .tup [.int (i : Nat), d] :: enumD (i + 1) l
theorem enumD_len : ∀ (l : List D) (i : Nat), (enumD i l).length = l.length
  | [], _ => rfl
  | d :: l, i => by simp [enumD, enumD_len l (i + 1)]
theorem enumD_get : ∀ (l : List D) (k i : Nat), (enumD k l)[i]? = (l[i]?).map fun d => .tup [.int ((k + i : Nat) : Int), d]
  | [], _, _ => by simp [enumD]
  | d :: l, k, 0 => by simp [enumD]
  | d :: l, k, i + 1 => by
    show (enumD (k + 1) l)[i]? = _
    rw [enumD_get l (k + 1) i, List.getElem?_cons_succ, show k + 1 + i = k + (i + 1) by omega]
theorem two_le : 2 ≤ sizeLine := by decide
theorem walkD_enumT {K : PySem.W.Frag} {a : Addr} {xs : List V} {ds : List D} {H0 : F} (hs : SqT K H0.ice a xs) (ha : RpAll K H0 xs ds) (hz : ds.length ≤ sizeLine) : DWalk K (IteT K a) (enumD 0 ds) noG H0 := by
  have hl : (enumD 0 ds).length = xs.length := by rw [enumD_len, ha.length]
  refine ⟨⟨fun H => SqT K H a xs, fun i H v H' => ∃ T x, v = .ref T ∧ H T = none ∧ H' = upd H T (.tup [.int (i : Nat), x]) ∧ xs[i]? = some x, ⟨fun i H hi q => ?_, fun H q => ?_, fun i H x H' hi q y => ?_⟩, fun H' H0' M' f s _ => seqT_mono (s.trans f.sub) hs, fun i H x H' H0' M' d hd f s _ y => ?_⟩, by rw [enumD_len]; exact hz⟩
  · rw [hl] at hi
    exact ⟨xs, xs[i], q, List.getElem?_eq_getElem hi⟩
  · exact ⟨xs, q, hl.symm⟩
  · obtain ⟨T, v, h1, h2, h3, h4⟩ := y
    exact ⟨T, v, h1, h2, h3, h4 xs q⟩
  · obtain ⟨T, v, rfl, hT, rfl, hx⟩ := y
    obtain ⟨d', e1, r⟩ := ha.getV hx
    rw [enumD_get, e1] at hd
    simp only [Option.map_some, Option.some.injEq, Nat.zero_add] at hd
    subst hd
    have s0 : F.le H0' (H0'.put T (.ice (.tup [.int (i : Nat), v]))) := F.le_put (f.fresh hT).1
    exact ⟨_, f.ice hT, s0, .tup (F.ice_eq F.put_same) (.cons (.int _) (.cons ((r.mono' s).mono s0) .nil)) two_le⟩
def iEnT (w : WA) : WI := fun Γ M post => w Γ M fun ds M1 => one ds fun d => isT d fun l => post (enumD 0 l) noG M1
theorem di_enumT (hm : X.mg "enumerate" = none) (ha : DA X [e] w) (hg : Gl X "enumerate" := by rfl) (hs : starEach [e] X.env = [(false, eval e X.env)] := by rfl) : DI X (.Tuple elts kk tpos) (.Call (.Name "enumerate" p) [e] [] pos) (iEnT w) :=
  PI.weak (pi_enumT hm ha hg hs) fun σ H R h => by
    obtain ⟨H0, Γ, M, post, f, en, hw, p⟩ := h
    refine ⟨H0, Γ, M, _, f, en, hw, fun vs ds H' H0' M' q f' s r => ?_⟩
    obtain ⟨d, rfl, q⟩ := one_of q
    obtain ⟨l, et, q⟩ := isT_of q
    cases r with
    | cons r t =>
      cases t
      obtain ⟨a, xs, rfl, hq, ha, hz⟩ := r.tupl et
      exact ⟨a, xs, rfl, seqT_mono f'.sub hq, p _ noG _ H' H0' M' q f' s (walkD_enumT hq ha hz)⟩
def iEnL (w : WA) : WI := fun Γ M post => w Γ M fun ds M1 => one ds fun d => match d with
  | .lst l => post (enumD 0 l) noG M1
  | _ => False
end
end FD

namespace FD
open PySem PySem.Spec PyProof.Rows L2
theorem hu_of {k : Nat} {A : Around} (r : Room k A) : A.units + 1 < cLine := by have := r.units; omega
def keyK : D → Option Key
  | .int i => some (.inl i)
  | .str s => some (.inr s)
  | _ => none
def keysK : List D → Option (List Key)
  | [] => some []
  | d :: l => match keyK d, keysK l with
    | some k, some ks => some (k :: ks)
    | _, _ => none
def keyT : D → Option (List Key)
  | .tup l => keysK l
  | _ => none
def valD {κ : Type} [DecidableEq κ] : List (κ × D) → κ → Option D
  | [], _ => none
  | (x, d) :: l, k => if x = k then some d else valD l k
def repD {κ : Type} [DecidableEq κ] (k : κ) (v : D) : List (κ × D) → List (κ × D)
  | [] => []
  | (x, d) :: l => (if x = k then (x, v) else (x, d)) :: repD k v l
def putD {κ : Type} [DecidableEq κ] (l : List (κ × D)) (k : κ) (v : D) : List (κ × D) := if (valD l k).isSome = true then repD k v l else l ++ [(k, v)]
section
variable {κ : Type} [DecidableEq κ] {K : PySem.W.Frag} {H : F}
theorem keyK_rp {v : V} {d : D} {k : Key} (r : Rp K H v d) (e : keyK d = some k) : v = kV k := by
  cases r <;> first | cases e | skip
  all_goals rfl
theorem keysK_rp : ∀ {vs : List V} {ds : List D} {ks : List Key}, RpAll K H vs ds → keysK ds = some ks → vs = ks.map kV
  | _, _, _, .nil, e => by cases e; rfl
  | _, _, ks, .cons (d := d) (ds := ds) r t, e => by
    unfold keysK at e
    split at e
    · rename_i k ks' e1 e2
      cases e
      rw [keyK_rp r e1, keysK_rp t e2]; rfl
    · cases e
theorem rp_val {xs : List (κ × V)} {ds : List (κ × D)} (r : RpKV K H xs ds) (k : κ) : RelLk K H (valV xs k) (valD ds k) := by
  unfold RpKV at r
  induction r with
  | nil => exact True.intro
  | @cons p q ps qs h t ih =>
    obtain ⟨x, v⟩ := p
    obtain ⟨y, d⟩ := q
    obtain ⟨e, r⟩ := h
    have e : x = y := e
    subst e
    unfold valD
    by_cases h : x = k
    · rw [valV_pos (p := (x, v)) h, if_pos h]; exact r
    · rw [valV_neg (p := (x, v)) h, if_neg h]; exact ih
theorem RelLk.isSome {o : Option V} {u : Option D} (r : RelLk K H o u) : o.isSome = u.isSome := by
  cases o <;> cases u <;> first | rfl | exact r.elim
theorem rp_rep {xs : List (κ × V)} {ds : List (κ × D)} (r : RpKV K H xs ds) (k : κ) {v : V} {d : D} (rv : Rp K H v d) : RpKV K H (xs.map fun kv => if kv.1 = k then (kv.1, v) else kv) (repD k d ds) := by
  unfold RpKV at r
  induction r with
  | nil => exact .nil
  | @cons p q ps qs h t ih =>
    obtain ⟨x, v'⟩ := p
    obtain ⟨y, d'⟩ := q
    obtain ⟨e, r⟩ := h
    have e : x = y := e
    subst e
    refine .cons ?_ ih
    have r : Rp K H v' d' := r
    by_cases h : x = k <;> simp [h] <;> assumption
theorem kv_snoc {xs : List (κ × V)} {ds : List (κ × D)} {p : κ × V} {q : κ × D} (r : RpKV K H xs ds) (h : p.1 = q.1 ∧ Rp K H p.2 q.2) : RpKV K H (xs ++ [p]) (ds ++ [q]) := Paired.snoc r h
theorem rp_put {xs : List (κ × V)} {ds : List (κ × D)} (r : RpKV K H xs ds) (k : κ) {v : V} {d : D} (rv : Rp K H v d) : RpKV K H (putK xs k v) (putD ds k d) := by
  have e : (xs.any fun kv => decide (kv.1 = k)) = (valD ds k).isSome := by rw [valV_any, (rp_val r k).isSome]
  unfold putK putD
  rw [e]
  by_cases q : (valD ds k).isSome = true
  · rw [if_pos q, if_pos q]; exact rp_rep r k rv
  · rw [if_neg q, if_neg q]; exact kv_snoc r ⟨rfl, rv⟩
end
def dAt (M : Mem) (d y : D) (c : Option D → Prop) : Prop := match d with
  | .ptr a => match M a with
    | some (.dK l) => got (keyK y) fun k => c (valD l k)
    | some (.dT l) => got (keyT y) fun k => c (valD l k)
    | _ => False
  | .dcK l => got (keyK y) fun k => c (valD l k)
  | .dcT l => got (keyT y) fun k => c (valD l k)
  | _ => False
theorem dAt_of {K : PySem.W.Frag} {H : Hp} {H0 : F} {M : Mem} {v u : V} {d y : D} {c : Option D → Prop} (f : Fr K H H0 M) (r : Rp K H0 v d) (ry : Rp K H0 u y) (h : dAt M d y c) :
    ∃ a o o', v = .ref a ∧ DGet H a u o ∧ RelLk K H0 o o' ∧ c o' := by
  cases d with
  | dcK l =>
    obtain ⟨k, hk, h2⟩ := got_of h
    cases r with
    | @dcK a xs _ hob he ha =>
      refine ⟨a, _, _, rfl, ?_, rp_val (kv_of he ha) k, h2⟩
      rw [keyK_rp ry hk]
      exact DGet.k (f.sub _ _ hob)
  | dcT l =>
    obtain ⟨k, hk, h2⟩ := got_of h
    cases r with
    | @dcT a xs _ hob he ha =>
      cases ry with
      | @tup b ys ds hb hy hz =>
        have e := keysK_rp hy hk
        subst e
        exact ⟨a, _, _, rfl, .inr ⟨xs, k, b, hob.imp (f.sub _ _) fun ⟨o, z⟩ => ⟨o, f.sub _ _ z⟩, rfl, f.sub _ _ hb, rfl⟩, rp_val (kv_of he ha) k, h2⟩
      | _ => cases hk
  | ptr a =>
    have h : (match M a with
      | some (.dK l) => got (keyK y) fun k => c (valD l k)
      | some (.dT l) => got (keyT y) fun k => c (valD l k)
      | _ => False) := h
    cases q : M a with
    | none => rw [q] at h; exact h.elim
    | some mo =>
      rw [q] at h
      obtain ⟨_, ob, hob, ro⟩ := f.mem a _ q
      cases mo with
      | dK l =>
        obtain ⟨k, hk, h2⟩ := got_of h
        cases r
        cases ro with
        | @dK xs _ kv =>
          refine ⟨a, _, _, rfl, ?_, rp_val kv k, h2⟩
          rw [keyK_rp ry hk]
          exact DGet.k hob
      | dT l =>
        obtain ⟨k, hk, h2⟩ := got_of h
        cases r
        cases ro with
        | @dT xs _ kv =>
          cases ry with
          | @tup b ys ds hb hy hz =>
            have e := keysK_rp hy hk
            subst e
            exact ⟨a, _, _, rfl, DGet.t hob (f.sub _ _ hb), rp_val kv k, h2⟩
          | _ => cases hk
      | _ => exact h.elim
  | _ => exact h.elim
section
variable {X : Cx} {o i e c : Expr} {we wo wi : WE} {pos pos' : Pos}
def gDIn : G2 := fun M y d post => dAt M d y fun r => post (.bl r.isSome) M
def gDNin : G2 := fun M y d post => dAt M d y fun r => post (.bl (!r.isSome)) M
def wDGet (wo wi : WE) : WE := fun Γ M post => wo Γ M fun d M1 => wi Γ M1 fun y M2 => dAt M2 d y fun r => got r fun z => post z M2
theorem de_dget {k : Nat} (hr : Room k X.A) (ho : DE X o wo) (hi : DE X i wi) (hs : NoSl i := by exact fun _ _ => rfl) : DE X (.Subscript o i pos) (wDGet wo wi) :=
  PE.weak (pe_dget (hu_of hr) ho hi hs) fun σ H Q h => by
    refine up_bind (k := fun d Γ M1 post => wi Γ M1 fun y M2 => dAt M2 d y fun r => got r fun z => post z M2) h fun v d H1 H0 Γ M post f en r q p => ⟨H0, Γ, M, _, f, en, q, fun u y H2 H02 M2 q2 f2 s2 r2 => ?_⟩
    obtain ⟨a, ov, od, rfl, g, rl, q2⟩ := dAt_of f2 (r.mono s2) r2 q2
    obtain ⟨z, rfl, q2⟩ := got_of q2
    obtain ⟨w, rfl, rw⟩ := rl.some_of
    exact ⟨a, w, rfl, g, (p.mono s2).now f2 rw q2⟩
def dPut (M : Mem) (d y z : D) (c : Mem → Prop) : Prop := match d with
  | .ptr a => match M a with
    | some (.dK l) => got (keyK y) fun k => l.length < 16777216 ∧ c (M.upd a (.dK (putD l k z)))
    | some (.dT l) => got (keyT y) fun k => l.length < 16777216 ∧ c (M.upd a (.dT (putD l k z)))
    | _ => False
  | _ => False
theorem lt_line {n : Nat} (h : n < 16777216) : n < sizeLine := by rw [sizeLine_eq]; exact h
theorem dPut_of {K : PySem.W.Frag} {H : Hp} {H0 : F} {M : Mem} {v u w : V} {d y z : D} {c : Mem → Prop} (f : Fr K H H0 M) (r : Rp K H0 v d) (ry : Rp K H0 u y) (rz : Rp K H0 w z) (h : dPut M d y z c) :
    ∃ a H' M', v = .ref a ∧ DPut H a u w H' ∧ Fr K H' H0 M' ∧ c M' := by
  cases d with
  | ptr a =>
    have h : (match M a with
      | some (.dK l) => got (keyK y) fun k => l.length < 16777216 ∧ c (M.upd a (.dK (putD l k z)))
      | some (.dT l) => got (keyT y) fun k => l.length < 16777216 ∧ c (M.upd a (.dT (putD l k z)))
      | _ => False) := h
    cases q : M a with
    | none => rw [q] at h; exact h.elim
    | some mo =>
      rw [q] at h
      obtain ⟨_, ob, hob, ro⟩ := f.mem a _ q
      cases mo with
      | dK l =>
        obtain ⟨k, hk, hl, h2⟩ := got_of h
        cases r
        cases ro with
        | @dK xs _ kv =>
          refine ⟨a, _, _, rfl, ?_, f.put q (.dK (rp_put kv k rz)), h2⟩
          rw [keyK_rp ry hk]
          exact DPut.k hob (by rw [kv_len kv]; exact lt_line hl)
      | dT l =>
        obtain ⟨k, hk, hl, h2⟩ := got_of h
        cases r
        cases ro with
        | @dT xs _ kv =>
          cases ry with
          | @tup b ys ds hb hy hz =>
            have e := keysK_rp hy hk
            subst e
            exact ⟨a, _, _, rfl, DPut.t hob (f.sub _ _ hb) (by rw [kv_len kv]; exact lt_line hl), f.put q (.dT (rp_put kv k rz)), h2⟩
          | _ => cases hk
      | _ => exact h.elim
  | _ => exact h.elim
def sDput (wo wi wv : WE) : WS := fun E Γ M => wv Γ M fun z M1 => wo Γ M1 fun d M2 => wi Γ M2 fun y M3 => dPut M3 d y z fun M4 => E.nx Γ M4
def wDNewK : WE := fun _ M post => ∀ p, M p = none → post (.ptr p) (M.upd p (.dK []))
def wDNewT : WE := fun _ M post => ∀ p, M p = none → post (.ptr p) (M.upd p (.dT []))
end
end FD

set_option maxHeartbeats 2000000
namespace FD
open PySem PySem.Spec PyProof.Rows L2
theorem put_any {X : Cx} {pins : List (Addr × Obj)} {σ : L2.St} {H H' : Hp} {s : Shared} {E : Value → Shared → Prop} {a : Addr} {y v : V} {u r : Value} {Q : Unit → Shared → Prop} (hu : X.A.units + 1 < cLine) (I : Inv X pins σ H s)
    (g : DPut H a y v H') (ry : RelV y u) (rv : RelV v r) (h : ∀ s', Inv X pins σ H' s' → Q () s') : wpAny (model X.prog X.w) X.A (dictSet a u r) Q E s := by
  rcases g with ⟨kvs, k, e, ey, l, eH⟩ | ⟨kvs, k, b, e, ey, eb, l, eH⟩
  · subst ey eH
    exact d_dictSet I e l ry rv h
  · subst ey eH
    cases (show u = Value.ref b from ry)
    obtain ⟨z, hd, xs, rel, dd⟩ := dt_of I.hok e
    have hl : (putK kvs k v).length ≤ sizeLine := by have := length_putK kvs k v; omega
    have room : (tupleKind (mixKind X.prog X.w)).room X.A := (show X.A.units < cLine by omega)
    refine wpAny_dictSet_heap (hsz := by rw [← Paired.length rel]; exact z) room (key_of I.hok eb) dd fun h' dd' hs => h _ ?_
    obtain ⟨q, es, ep, hq, h2, h3, h4, _, h5⟩ := dd'
    refine d_write I (by rw [e]; trivial) hs ⟨q, hq⟩ ⟨hl, hd, _, (rel.put k eb rv).keeps fun c ys ec => ?_, q, es, ep, hq, h2, h3, h4, h5⟩
    have nc : c ≠ a := fun z => by rw [z, e] at ec; cases ec
    rw [upd_ne nc]; exact ec
def tDx (emp : HO) (wi : TI) (g : TG) (tt : TT) (tk tv : TE) (vs : List Nat) : TE := fun σ H Q => wi σ H fun J H1 => ∀ a, H1 a = none → ∃ W : Nat → Nat → Hp → Prop, (∃ m, W 0 m (upd H1 a emp)) ∧ ∀ i m Hi, W i m Hi →
  (J.stop i Hi ∧ Q (.ref a) Hi) ∨ (J.go i Hi ∧ ∃ Nx : Hp → Prop, (∀ Hn, Nx Hn → ∃ m', m' < m ∧ W (i + 1) m' Hn) ∧ ∀ x Hx, J.yld i Hi x Hx → g x (wipe σ vs) Hx fun σ2 H2 => wipe σ2 vs = wipe σ vs ∧ tt σ2 H2 fun b H3 =>
    if b = true then tk σ2 H3 fun y H4 => tv σ2 H4 fun z H5 => ∃ H6, DPut H5 a y z H6 ∧ Nx H6 else Nx H3)
def isEmp (emp : HO) : Prop := emp = .dK [] ∨ emp = .dT []
theorem emp_ok {emp : HO} (he : isEmp emp) {P : Program} {w : World} {H : Hp} (h : Heap) (hb : sysModules < h.objs.size) : ObjOk P w H (h.push { cls := .type "dict", data := .dict #[] }) h.objs.size emp := by
  rcases he with rfl | rfl
  · exact dk_empty h hb
  · exact dt_empty h hb
section
variable {X : Cx} {kx vx tg iter : Expr} {ifs : List Expr} {scope : Scope} {own : List (Str × Nat)} {pos : Pos} {wi : TI} {g : TG} {tt : TT} {tk tv : TE}
abbrev Bk (X : Cx) (scope : Scope) (Pr : Cx → Prop) : Prop := ∀ (s : Shared) (H : Hp) (C : Addr) (cl : List (Str × Addr)) (fp : List Addr), Pr (X.blk s H scope (compEnvC scope cl C X.env) fp)
theorem pe_dx {emp : HO} (he : isEmp emp) (hu : X.A.units + 1 < cLine) (calm : X.calm = true) (nd : X.N.Nodup) (di : PI X tg iter wi) (ok : BlkOk X.N X.env.scope scope own) (dg : Bk X scope fun Y => PG Y tg g) (dt : Bk X scope fun Y => PTs Y ifs tt)
    (dk : Bk X scope fun Y => PE Y kx tk) (dv : Bk X scope fun Y => PE Y vx tv) (hfs : ∀ x, foldedSetIterable iter X.env x = pure x := by intro _; rfl) :
    PE X (.DictComp kx vx [⟨tg, iter, ifs, 0⟩] scope pos) (tDx emp wi g tt tk tv (own.map (·.2))) := by
  refine ⟨fun pins s σ H Q I h => ?_⟩
  rw [arm_eval_DictComp]
  have frees : ∀ y ∈ scope.names, y.2 = .free → ∃ c, X.env.cells.lookup y.1 = some c := fun y hy e => I.ok.has _ (ok.free y hy e)
  refine wpAny_comprehension_free rfl hfs (closure_ok frees) ok.kind (fun y hy e => by rw [ok.uniq y hy, e]) (thn (di.run pins s σ H _ I h) fun xv sa hx => thn hx fun itv sb hb => ?_)
  obtain ⟨it, fp, tn, J, Hb, rfl, Ib, T, stb, fb, q⟩ := hb
  refine wpAny_newObj_type (newEnv_comp ?_)
  have low : ∀ b ∈ fp, b < sb.heap.objs.size := fun b hb => by
    obtain ⟨o, e, _⟩ := T.obj _ _ stb b hb
    exact Heap.lt_size e
  generalize hD : sb.heap.objs.size = a
  have fa : Hb a = none := Ib.hok.fresh (Nat.le_of_eq hD)
  obtain ⟨W, ⟨m0, w0⟩, turn⟩ := q a fa
  -- the new dict is laid
  generalize hsc : ({ sb with heap := sb.heap.push { cls := .type "dict", data := .dict #[] } } : Shared) = sc
  have hph : sc.heap = sb.heap.push { cls := .type "dict", data := .dict #[] } := by rw [← hsc]
  have Ic : Inv X pins σ (upd Hb a emp) sc := by
    rw [← hsc]
    refine Ib.laid (t' := sb.toks) (fun b o e => Heap.get?_push_of_some _ e) (Nat.le_of_eq hD) ?_
    rw [← hD]
    exact emp_ok he sb.heap Ib.big
  have fc : ∀ b ∈ fp, FpOk X pins (upd Hb a emp) b ∧ b < sc.heap.objs.size := fun b hb => by
    have lt := low b hb
    refine ⟨⟨?_, (fb b hb).2⟩, by rw [hph, Heap.size_push]; exact Nat.lt_succ_of_lt lt⟩
    have nb : b ≠ a := by rw [← hD]; exact Nat.ne_of_lt lt
    rw [upd_ne nb]; exact (fb b hb).1
  have stc : tn 0 sc.heap := T.keep _ _ _ stb fun b _ o e => by rw [hph]; exact Heap.get?_push_of_some _ e
  have Id := block_start Ic ok nd fc
  generalize hcl : cellsFrom (sc.heap.objs.size + 1) scope.names (cloFrom X.env.cells scope.names []) = cl at Id
  have kg := dg sc (upd Hb a emp) sc.heap.objs.size cl fp
  have kt := dt sc (upd Hb a emp) sc.heap.objs.size cl fp
  have kk := dk sc (upd Hb a emp) sc.heap.objs.size cl fp
  have kv := dv sc (upd Hb a emp) sc.heap.objs.size cl fp
  have nfp : ∀ b ∈ fp, (upd Hb a emp) b = none := fun b hb => (fc b hb).1.1
  refine (?_ : codeAny (model X.prog X.w) X.A (.compStart (.DictComp kx vx [⟨tg, iter, ifs, 0⟩] scope pos) 0 (.ref it) (.ref a) (compEnvC scope cl sc.heap.objs.size X.env)) (compPost (model X.prog X.w) X.A X.xe none (EP X pins σ Q) (.ref a) sc.heap.objs.size)
    { sc with heap := pushCells (sc.heap.push { cls := .type "dict", data := .dict #[] }) scope.names })
  generalize hce : compEnvC scope cl sc.heap.objs.size X.env = ce at Id kg kt kk kv ⊢
  have cL : ce.locals = sc.heap.objs.size := by subst hce; rfl
  generalize hHc : upd Hb a emp = Hc at Ic Id kg kt kk kv w0 nfp fc
  generalize hsd : ({ sc with heap := pushCells (sc.heap.push { cls := .type "dict", data := .dict #[] }) scope.names } : Shared) = sd at Id ⊢
  have std : tn 0 sd.heap := T.keep _ _ _ stc fun b _ o e => by rw [← hsd]; exact pushCells_keeps _ _ _ _ (Heap.get?_push_of_some _ e)
  have fpk : ∀ {σ' : L2.St} {H' : Hp} {s' : Shared}, Inv (X.blk sc Hc scope ce fp) [] σ' H' s' → (∀ b ∈ fp, H' b = none) → ∀ b ∈ fp, FpOk (X.blk sc Hc scope ce fp) [] H' b := fun {σ' H' s'} I' hn b hb =>
    ⟨hn b hb, (I'.ok.exf b hb).1, I'.ok.exfs b hb, .inl hb, fun x c e => (I'.ok.exf b hb).2 x c e, fun p hp => absurd (show p ∈ ([] : List (Addr × Obj)) ++ [] from hp) (by simp)⟩
  have loop : codeAny (model X.prog X.w) X.A (.compLoop (.DictComp kx vx [⟨tg, iter, ifs, 0⟩] scope pos) 0 (.ref it) (.ref a) ce) (compPost (model X.prog X.w) X.A X.xe none (EP X pins σ Q) (.ref a) sc.heap.objs.size) sd := by
    refine compLoop_anyD (fun n s' => ∃ i Hi, Inv (X.blk sc Hc scope ce fp) [] (wipe σ (own.map (·.2))) Hi s' ∧ tn i s'.heap ∧ (∀ b ∈ fp, Hi b = none) ∧ W i n Hi) ?_ m0 ⟨0, Hc, Id, std, nfp, w0⟩
    rintro n se ⟨i, Hi, Ie, ste, ne, we⟩
    rcases turn i n Hi we with ⟨stop, qq⟩ | ⟨go, Nx, hNx, step⟩
    · refine thnF (T.done (X.blk sc Hc scope ce fp) rfl rfl rfl calm i [] se _ Hi (fun _ _ => False) Ie (fpk Ie ne) ste stop) fun r sf ⟨hr, If⟩ => ?_
      subst hr
      have Iz : Inv X pins σ Hi sf := Ic.call' (ch := fp) If.os If.base If.hok If.bare fun b hb => let z := (fc b hb).1; ⟨z.2.2.2.1, z.2.1, z.2.2.2.2.1, z.2.2.2.2.2⟩
      have nC : Hi sc.heap.objs.size = none := by
        have z : Hi ce.locals = none := If.free
        rwa [cL] at z
      obtain ⟨m, hn, _⟩ := If.loc
      have hn : sf.heap.Ns ce.locals m := hn
      rw [cL] at hn
      refine ⟨m, hn, fun h2 sbt => ?_⟩
      obtain ⟨f0, f1, f2, f3, f4, f5⟩ := Ic.fpOk (Nat.le_refl _) nC
      exact ⟨.ref a, Hi, Iz.turned (t' := sf.toks) (fun b o hb e => (sbt.2 b hb).trans e) f0 f1 f3 f4 f5, rfl, qq⟩
    · refine thnF (T.item (X.blk sc Hc scope ce fp) rfl rfl rfl calm i [] se _ Hi (fun _ _ => False) Ie (fpk Ie ne) ste go) fun r sf ⟨u, hr, hf⟩ => ?_
      subst hr
      refine thnF hf fun _ s7 ⟨x, H7, I7, r7, y7, st7, n7⟩ => ?_
      refine thnF (kg.run _ s7 _ H7 x u _ (I7.pinned (fpk I7 n7) (T.obj _ _ st7)) r7 (step x H7 y7)) fun _ s8 ⟨σ8, H8, I8, hw8, q8⟩ => thnF (kt.run _ s8 σ8 H8 _ I8 q8) fun b s9 ⟨H9, I9, q9⟩ => ?_
      have back : ∀ {s' : Shared} {Hn : Hp}, Inv (X.blk sc Hc scope ce fp) ([] ++ pinsAt fp s7.heap) σ8 Hn s' → Nx Hn → ∃ m, m < n ∧ ∃ i Hi, Inv (X.blk sc Hc scope ce fp) [] (wipe σ (own.map (·.2))) Hi s' ∧ tn i s'.heap ∧ (∀ b ∈ fp, Hi b = none) ∧ W i m Hi := fun {s' Hn} I' nx => by
        obtain ⟨m', hm, w'⟩ := hNx Hn nx
        have pin' : ∀ b ∈ fp, ∀ o, s7.heap.get? b = some o → s'.heap.get? b = some o ∧ Hn b = none := fun b hb o e =>
          let z := I'.pin (b, o) (List.mem_append_right _ (List.mem_append_right _ (mem_pinsAt hb e)))
          ⟨z.1, z.2.1⟩
        have ll : (wipe σ (own.map (·.2))).length = σ8.length := by rw [← hw8, wipe_length]
        refine ⟨m', hm, i + 1, Hn, (I'.unpinned (pins := [])).weak ll (fun j v e => ?_), T.keep _ _ _ st7 fun b hb o e => (pin' b hb o e).1, fun b hb => ?_, w'⟩
        · rw [← hw8] at e; exact (wipe_some e).1
        · obtain ⟨o, e, _⟩ := T.obj _ _ st7 b hb
          exact (pin' b hb o e).2
      cases b with
      | false =>
        simp only [Bool.false_eq_true, if_false] at q9 ⊢
        exact back I9 q9
      | true =>
        simp only [if_true] at q9 ⊢
        exact thnF (kk.run _ s9 σ8 H9 _ I9 q9) fun z sg ⟨yk, Hg, Ig, rg, qg⟩ => thnF (kv.run _ sg σ8 Hg _ Ig qg) fun z2 sh ⟨yv, Hh, Ih, rh, Hp6, dp, nx⟩ => put_any (X := X.blk sc Hc scope ce fp) hu Ih dp rg rh fun sk Ik => back Ik nx
  exact codeAny_compStart_dict loop (T.self X.A 0 _ _ _ std loop)
end
end FD

namespace FD
open PySem PySem.Spec PyProof.Rows L2
section
variable {X : Cx} {kx vx tg iter elt : Expr} {ifs : List Expr} {scope : Scope} {own : List (Str × Nat)} {pos : Pos} {wi : WI} {gd : GD} {tt : WT} {tk tv te : WE}
def wDc (emp : MO) (wi : WI) (gd : GD) (tt : WT) (tk tv : WE) : WE := fun Γ M post => wi Γ M fun items G M1 => ∀ p, M1 p = none → ∃ Pv : Nat → Mem → Prop, Pv 0 (M1.upd p emp) ∧ (∀ i M', Pv i M' → G M') ∧
  (∀ i d M', items[i]? = some d → Pv i M' → gd d Γ fun Γ2 => tt Γ2 M' fun b M3 => if b = true then tk Γ2 M3 fun y M4 => tv Γ2 M4 fun z M5 => dPut M5 (.ptr p) y z fun M6 => Pv (i + 1) M6 else Pv (i + 1) M3) ∧
  ∀ M', Pv items.length M' → post (.ptr p) M'
theorem up_dx {emp : HO} {me : MO} (hem : ∀ H0, RpO X.K H0 me emp) {g : TG} {vs : List Nat} (tg : Tgt X.K g vs gd) {σ : L2.St} {H : Hp} {Q : VK} (h : up X.K (wDc me wi gd tt tk tv) σ H Q) : tDx emp (upI X.K wi) g (upT X.K tt) (up X.K tk) (up X.K tv) vs σ H Q := by
  obtain ⟨H0, Γ, M, post, f, en, hw, p⟩ := h
  refine ⟨H0, Γ, M, _, f, en, hw, fun items G J H1 H01 M1 q f1 s1 dw a ha => ?_⟩
  obtain ⟨Pv, h0, hG, hstep, hend⟩ := q a (f1.fresh ha).2
  obtain ⟨⟨Gv, Y, wk, gv, yl⟩, fit⟩ := dw
  refine ⟨fun i m Hi => m = items.length - i ∧ i ≤ items.length ∧ ∃ H0' M', Fr X.K Hi H0' M' ∧ F.le H01 H0' ∧ Pv i M', ⟨items.length, by simp, Nat.zero_le _, H01, _, f1.new ha (hem H01), F.le.refl _, h0⟩, ?_⟩
  rintro i m Hi ⟨rfl, hi, H0', M', f', s', pv⟩
  have gg := gv Hi H0' M' f' s'.ice (hG i M' pv)
  by_cases hlt : i < items.length
  · refine .inr ⟨wk.goes i Hi hlt gg, fun Hn => ∃ H0' M', Fr X.K Hn H0' M' ∧ F.le H01 H0' ∧ Pv (i + 1) M', fun Hn ⟨H2, M2, f2, s2, pv2⟩ => ⟨items.length - (i + 1), by omega, rfl, hlt, H2, M2, f2, s2, pv2⟩, fun x Hx y => ?_⟩
    have y := wk.yields i Hi x Hx hlt gg y
    have hd : items[i]? = some items[i] := List.getElem?_eq_getElem hlt
    obtain ⟨H0'', f'', s'', r⟩ := yl i Hi x Hx H0' M' _ hd f' s'.ice (hG i M' pv) y
    refine tg.run x _ σ Hx H0'' M' Γ _ _ f'' ((en.mono s1).mono (s'.trans s'')) r (hstep i _ M' hd pv) fun σ2 Γ2 hw2 e2 q2 => ⟨hw2, H0'', Γ2, M', _, f'', e2, q2, fun b H3 H03 M3 q3 f3 s3 => ?_⟩
    cases b with
    | false =>
      simp only [Bool.false_eq_true, if_false] at q3 ⊢
      exact ⟨H03, M3, f3, (s'.trans s'').trans s3, q3⟩
    | true =>
      simp only [if_true] at q3 ⊢
      refine ⟨H03, Γ2, M3, _, f3, e2.mono s3, q3, fun v4 d4 H4 H04 M4 q4 f4 s4 r4 => ⟨H04, Γ2, M4, _, f4, (e2.mono s3).mono s4, q4, fun v5 d5 H5 H05 M5 q5 f5 s5 r5 => ?_⟩⟩
      obtain ⟨a', H', M6, ea, dp, f6, q6⟩ := dPut_of f5 (.ptr a) (r4.mono s5) r5 q5
      cases ea
      exact ⟨H', dp, H05, M6, f6, (((s'.trans s'').trans s3).trans s4).trans s5, q6⟩
  · have e : i = items.length := by omega
    subst e
    exact .inl ⟨wk.stops Hi gg, p _ _ Hi H0' M' (hend M' pv) f' (s1.trans s') (.ptr a)⟩
theorem de_dcT {g : TG} {k : Nat} (hr : Room k X.A) (hc : X.calm = true) (hN : X.N.Nodup) (hi : DI X tg iter wi) (ok : BlkOk X.N X.env.scope scope own) (tgt : Tgt X.K g (own.map (·.2)) gd) (hg : Bk X scope fun Y => PG Y tg g) (ht : Bk X scope fun Y => DTs Y ifs tt)
    (hk : Bk X scope fun Y => DE Y kx tk) (hv : Bk X scope fun Y => DE Y vx tv) (hs : ∀ x, foldedSetIterable iter X.env x = pure x := by intro _; rfl) : DE X (.DictComp kx vx [⟨tg, iter, ifs, 0⟩] scope pos) (wDc (.dT []) wi gd tt tk tv) :=
  PE.weak (pe_dx (.inr rfl) (hu_of hr) hc hN hi ok hg ht hk hv hs) fun _ _ _ h => up_dx (fun _ => .dT .nil) tgt h
def t1w (i j : Nat) : GD := fun d Γ post => post ((Γ.set j none).set i (some d))
theorem tgt1w {K : PySem.W.Frag} {i j : Nat} (hij : i ≠ j) : Tgt K (gName i) [i, j] (t1w i j) := by
  refine ⟨fun v d σ H H0 M Γ post Q f e r w q => q _ _ ?_ ?_ w⟩
  · show (((((σ.set j none).set i none).set i (some v)).set j none).set i none) = (σ.set j none).set i none
    rw [List.set_set, List.set_comm _ _ hij, List.set_set, List.set_set]
  · have z := ((e.unset j).unset i).set i r
    have e1 : ((Γ.set j none).set i none).set i (some d) = (Γ.set j none).set i (some d) := List.set_set ..
    rw [e1] at z
    exact z
def wLc2 (wi : WI) (gd : GD) (tt : WT) (wj : WI) (ge : GD) (tu : WT) (te : WE) : WE := fun Γ M post => wi Γ M fun items G M1 => ∃ Pv : Nat → List D → Mem → Prop, Pv 0 [] M1 ∧ (∀ i acc M', Pv i acc M' → G M') ∧
  (∀ i d acc M', items[i]? = some d → Pv i acc M' → gd d Γ fun Γ2 => tt Γ2 M' fun b M3 => if b = true then wj Γ2 M3 fun jtems G' M4 => ∃ Pw : Nat → List D → Mem → Prop, Pw 0 acc M4 ∧ (∀ j acc M', Pw j acc M' → G' M') ∧
      (∀ j d acc M', jtems[j]? = some d → Pw j acc M' → ge d Γ2 fun Γ3 => tu Γ3 M' fun b M5 => if b = true then te Γ3 M5 fun y M6 => acc.length < 16777216 ∧ Pw (j + 1) (acc ++ [y]) M6 else Pw (j + 1) acc M5) ∧
      ∀ acc M', Pw jtems.length acc M' → Pv (i + 1) acc M'
    else Pv (i + 1) acc M3) ∧
  ∀ acc M', Pv items.length acc M' → post (.lst acc) M'
theorem up_lc2 {wj : WI} {ge : GD} {tu : WT} {g g1 : TG} {vs vs1 : List Nat} (tgt : Tgt X.K g vs gd) (tgt1 : Tgt X.K g1 vs1 ge) {σ : L2.St} {H : Hp} {Q : VK} (h : up X.K (wLc2 wi gd tt wj ge tu te) σ H Q) :
    tLc2 (upI X.K wi) g (upT X.K tt) (upI X.K wj) g1 (upT X.K tu) (up X.K te) vs vs1 σ H Q := by
  obtain ⟨H0, Γ, M, post, f, en, hw, p⟩ := h
  refine ⟨H0, Γ, M, _, f, en, hw, fun items G J H1 H01 M1 q f1 s1 dw D hD => ?_⟩
  obtain ⟨Pv, h0, hG, hstep, hend⟩ := q
  obtain ⟨⟨Gv, Y, wk, gv, yl⟩, fit⟩ := dw
  have hD0 := (f1.fresh hD).1
  -- what holds between the turns
  let B : (List FD.D → Mem → Prop) → Hp → Prop := fun Z Hi => ∃ H0' M' acc xs, Fr X.K Hi H0' M' ∧ F.le H01 H0' ∧ H0' D = some (.res (.lst xs)) ∧ RpAll X.K H0' xs acc ∧ acc.length ≤ 16777216 ∧ Z acc M'
  refine ⟨fun i m Hi => m = items.length - i ∧ i ≤ items.length ∧ B (Pv i) Hi, ⟨items.length, by simp, Nat.zero_le _, H01.put D (.res (.lst [])), M1, [], [], f1.hold hD, F.le_put hD0, F.put_same, .nil, Nat.zero_le _, h0⟩, ?_⟩
  rintro i m Hi ⟨rfl, hi, H0', M', acc, xs, f', s', hr, ra, hl, pv⟩
  have gg := gv Hi H0' M' f' s'.ice (hG i acc M' pv)
  by_cases hlt : i < items.length
  · refine .inr ⟨wk.goes i Hi hlt gg, B (Pv (i + 1)), fun Hn z => ⟨items.length - (i + 1), by omega, rfl, hlt, z⟩, fun x Hx y => ?_⟩
    have y := wk.yields i Hi x Hx hlt gg y
    have hd : items[i]? = some items[i] := List.getElem?_eq_getElem hlt
    obtain ⟨H0'', f'', s'', r⟩ := yl i Hi x Hx H0' M' _ hd f' s'.ice (hG i acc M' pv) y
    refine tgt.run x _ σ Hx H0'' M' Γ _ _ f'' ((en.mono s1).mono (s'.trans s'')) r (hstep i _ acc M' hd pv) fun σ2 Γ2 hw2 e2 q2 => ⟨hw2, H0'', Γ2, M', _, f'', e2, q2, fun b H3 H03 M3 q3 f3 s3 => ?_⟩
    have hr3 : H03 D = some (.res (.lst xs)) := s3 _ _ (s'' _ _ hr)
    have ra3 := (ra.mono s'').mono s3
    cases b with
    | false =>
      simp only [Bool.false_eq_true, if_false] at q3 ⊢
      exact ⟨H03, M3, acc, xs, f3, (s'.trans s'').trans s3, hr3, ra3, hl, q3⟩
    | true =>
      simp only [if_true] at q3 ⊢
      refine ⟨H03, Γ2, M3, _, f3, e2.mono s3, q3, fun jtems G' J1 H4 H04 M4 q4 f4 s4 dw1 => ?_⟩
      obtain ⟨Pw, w0, wG, wstep, wend⟩ := q4
      obtain ⟨⟨Gv1, Y1, wk1, gv1, yl1⟩, fit1⟩ := dw1
      have sAll : F.le H01 H04 := ((s'.trans s'').trans s3).trans s4
      -- what stood at the start of this inner walk, but for D
      let B1 : (List FD.D → Mem → Prop) → Hp → Prop := fun Z Hi => ∃ H0' M' acc xs, Fr X.K Hi H0' M' ∧ (∀ b u, b ≠ D → H04 b = some u → H0' b = some u) ∧ H0' D = some (.res (.lst xs)) ∧ RpAll X.K H0' xs acc ∧ acc.length ≤ 16777216 ∧ Z acc M'
      have over1 : ∀ {K1 : F}, (∀ b u, b ≠ D → H04 b = some u → K1 b = some u) → F.le H01 K1 := fun {K1} k b u e => by
        have nb : b ≠ D := fun z => by rw [z, hD0] at e; cases e
        exact k b u nb (sAll b u e)
      refine ⟨fun j n Hj => n = jtems.length - j ∧ j ≤ jtems.length ∧ B1 (Pw j) Hj, ⟨jtems.length, by simp, Nat.zero_le _, H04, M4, acc, xs, f4, fun b u _ e => e, s4 _ _ hr3, ra3.mono s4, hl, w0⟩, ?_⟩
      rintro j n Hj ⟨rfl, hj, K0, N', ac, ys, fk, sk, hrk, rk, lk, pw⟩
      -- the inner walk sees H04 only through what is frozen
      have iceK : Same H04.ice K0.ice := fun b u e => by
        have e := F.ice_of e
        have nb : b ≠ D := fun z => by rw [z, s4 _ _ hr3] at e; cases e
        exact F.ice_eq (sk b _ nb e)
      have gg1 := gv1 Hj K0 N' fk iceK (wG j ac N' pw)
      by_cases hlt1 : j < jtems.length
      · refine .inr ⟨wk1.goes j Hj hlt1 gg1, B1 (Pw (j + 1)), fun Hn z => ⟨jtems.length - (j + 1), by omega, rfl, hlt1, z⟩, fun x1 Hx1 y1 => ?_⟩
        have y1 := wk1.yields j Hj x1 Hx1 hlt1 gg1 y1
        have hd1 : jtems[j]? = some jtems[j] := List.getElem?_eq_getElem hlt1
        obtain ⟨K1, fk1, sk1, r1⟩ := yl1 j Hj x1 Hx1 K0 N' _ hd1 fk iceK (wG j ac N' pw) y1
        have en2 : RpE X.K K1 σ2 Γ2 := ⟨e2.len, fun i d hd => let ⟨v, h1, h2⟩ := (((e2.mono s3).mono s4)).at_ i d hd; ⟨v, h1, (h2.mono' iceK).mono sk1⟩⟩
        have k1 : ∀ b u, b ≠ D → H04 b = some u → K1 b = some u := fun b u nb e => sk1 b u (sk b u nb e)
        refine tgt1.run x1 _ σ2 Hx1 K1 N' Γ2 _ _ fk1 en2 r1 (wstep j _ ac N' hd1 pw) fun σ3 Γ3 hw3 e3 q3 => ⟨hw3, K1, Γ3, N', _, fk1, e3, q3, fun b H5 K2 N5 q5 f5 s5 => ?_⟩
        have hr5 : K2 D = some (.res (.lst ys)) := s5 _ _ (sk1 _ _ hrk)
        have ra5 := (rk.mono sk1).mono s5
        cases b with
        | false =>
          simp only [Bool.false_eq_true, if_false] at q5 ⊢
          exact ⟨K2, N5, ac, ys, f5, fun b u nb e => s5 b u (k1 b u nb e), hr5, ra5, lk, q5⟩
        | true =>
          simp only [if_true] at q5 ⊢
          refine ⟨K2, Γ3, N5, _, f5, e3.mono s5, q5, fun v6 d6 H6 K3 N6 q6 f6 s6 r6 => ?_⟩
          obtain ⟨hl6, q6⟩ := q6
          have hr6 : K3 D = some (.res (.lst ys)) := s6 _ _ hr5
          have ra6 := ra5.mono s6
          refine ⟨ys, (f6.res _ _ hr6).1, by rw [ra6.length]; exact lt_line hl6, ?_⟩
          have ic := put_res_ice (o' := (ys ++ [v6])) hr6
          refine ⟨K3.put D (.res (.lst (ys ++ [v6]))), N6, ac ++ [d6], ys ++ [v6], f6.rehold hr6, fun b u nb e => ?_, F.put_same, (ra6.mono' ic).append (.cons (r6.mono' ic) .nil), by rw [List.length_append]; simp; omega, q6⟩
          rw [F.put_ne nb]; exact s6 b u (s5 b u (k1 b u nb e))
      · have ej : j = jtems.length := by omega
        subst ej
        exact .inl ⟨wk1.stops Hj gg1, K0, N', ac, ys, fk, over1 sk, hrk, rk, lk, wend ac N' pw⟩
  · have e : i = items.length := by omega
    subst e
    have ic := put_thaw_ice (o' := .lst xs) hr
    refine .inl ⟨wk.stops Hi gg, p _ _ Hi (H0'.put D (.ice (.lst xs))) M' (hend acc M' pv) (f'.settle hr) (s1.trans ?_) (.lst (F.ice_eq F.put_same) (ra.mono' ic) (by rw [sizeLine_eq]; exact hl))⟩
    intro b o eb
    by_cases hb : b = D
    · subst hb; rw [hD0] at eb; cases eb
    · rw [F.put_ne hb]; exact s' b o eb
theorem de_lc2 {tg1 iter1 : Expr} {ifs1 : List Expr} {vs1 : List Nat} {wj : WI} {ge : GD} {tu : WT} {g g1 : TG} (hc : X.calm = true) (hN : X.N.Nodup) (hi : DI X tg iter wi) (ok : BlkOk X.N X.env.scope scope own) (hv : ∀ i ∈ vs1, i ∈ own.map (·.2))
    (tgt : Tgt X.K g (own.map (·.2)) gd) (tgt1 : Tgt X.K g1 vs1 ge) (hg : Bk X scope fun Y => PG Y tg g) (ht : Bk X scope fun Y => DTs Y ifs tt) (hi1 : Bk X scope fun Y => DI Y tg1 iter1 wj) (hg1 : Bk X scope fun Y => PG Y tg1 g1) (ht1 : Bk X scope fun Y => DTs Y ifs1 tu)
    (he : Bk X scope fun Y => DE Y elt te) (hs : ∀ x, foldedSetIterable iter X.env x = pure x := by intro _; rfl) (hs1 : ∀ env x, foldedSetIterable iter1 env x = pure x := by intro _ _; rfl) :
    DE X (.ListComp elt [⟨tg, iter, ifs, 0⟩, ⟨tg1, iter1, ifs1, 0⟩] scope pos) (wLc2 wi gd tt wj ge tu te) :=
  PE.weak (pe_lc2 hc hN hi ok hv hg ht hi1 hg1 ht1 he hs hs1) fun _ _ _ h => up_lc2 tgt tgt1 h
end
end FD

namespace FD
open PySem PySem.Spec PyProof.Rows L2
section
variable {X : Cx} {k v e o : Expr} {es : List Expr} {pos apos cpos : Pos} {wk wv we wo : WE} {w : WA}
def wDisp1 (emp : MO) (wk wv : WE) : WE := fun Γ M post => ∀ p, M p = none → wk Γ (M.upd p emp) fun y M1 => wv Γ M1 fun z M2 => dPut M2 (.ptr p) y z fun M3 => post (.ptr p) M3
def joinD (l m : List (Key × D)) : List (Key × D) := m.foldl (fun acc kv => putD acc kv.1 kv.2) l
theorem isiB_ok {K : PySem.W.Frag} {C : Addr} (h : isiB K C = true) : PySem.W.findIn K (.ref C) "__class__" = some (some (.builtin "object.__class__")) ∧ PySem.W.specialIn K (.builtin "object.__class__") "__get__" = some (some (.builtin "getset_descriptor.__get__")) ∧
    PySem.W.takesIn K (.builtin "object.__class__") = some true ∧ PySem.W.mroIn K C (.type "object") = some true := by
  unfold isiB at h
  simp only [Bool.and_eq_true] at h
  obtain ⟨⟨⟨h1, h2⟩, h3⟩, h4⟩ := h
  refine ⟨?_, ?_, ?_, ?_⟩
  · split at h1
    · rename_i n e; rw [e, eq_of_beq h1]
    · cases h1
  · split at h2
    · rename_i n e; rw [e, eq_of_beq h2]
    · cases h2
  · split at h3
    · assumption
    · cases h3
  · split at h4
    · assumption
    · cases h4
def wIsiC (C : Addr) (w : WE) : WE := fun Γ M post => w Γ M fun d M1 => insR M1 C d fun _ => post (.bl true) M1
def isBD (d e : D) : Option D := match d, e with
  | .bl a, .bl b => some (.bl (decide (a = b)))
  | _, _ => none
def notBD (d e : D) : Option D := match d, e with
  | .bl a, .bl b => some (.bl (!decide (a = b)))
  | _, _ => none
end
end FD

namespace FD
open PySem PySem.Spec PyProof.Rows L2
section
variable {X : Cx} {e o : Expr} {es : List Expr} {pos apos cpos p : Pos} {we wo : WE} {w : WA}
def gMulS : G2 := fun M x y post => isS x fun s => isI y fun n => MulOk s n ∧ sOk (Txt.mul s n) = true ∧ post (.str (Txt.mul s n)) M
mutual
theorem Rp.reads {pins : List (Addr × Obj)} {σ : L2.St} {H : Hp} {s : Shared} (I : Inv X pins σ H s) {H0 : F} (f : Same H0.ice H) : ∀ {v : V} {d : D} {u : Value}, Rp X.K H0 v d → d.dp ≤ 64 → RelV v u → ∃ as, Reads s.heap u d.py as
  | _, _, u, .non, _, r => by cases (show u = Value.none from r); exact ⟨_, .none⟩
  | _, _, u, .bl b, _, r => by cases (show u = Value.bool b from r); exact ⟨_, .bool b⟩
  | _, _, u, .int i, _, r => by obtain ⟨t, rfl⟩ := (show ∃ t, u = Value.int i t from r); exact ⟨_, .int i t⟩
  | _, _, u, .str x _, _, r => by obtain ⟨t, rfl⟩ := (show ∃ t, u = Value.str x t from r); exact ⟨_, .str x t⟩
  | .ref a, .tup l, u, .tup h ha _, z, r => by
    cases (show u = Value.ref a from r)
    obtain ⟨its, rv, ⟨o, h1, h2, n, h3⟩, _⟩ := I.tuple (.of (f _ _ h))
    obtain ⟨as, ra⟩ := RpAll.reads I f ha (by unfold D.dp at z; omega) rv
    exact ⟨as, .tuple h1 h2 h3 (by simpa using ra)⟩
  | .ref a, .ftp l, u, .ftp h _ ha _, z, r => by
    cases (show u = Value.ref a from r)
    obtain ⟨its, rv, ⟨o, h1, h2, n, h3⟩, _⟩ := I.tuple (.inl (.inr ⟨_, f _ _ h⟩))
    obtain ⟨as, ra⟩ := RpAll.reads I f ha (by unfold D.dp at z; omega) rv
    exact ⟨as, .tuple h1 h2 h3 (by simpa using ra)⟩
  | .ref a, .ktp l, u, .ktp h ha _, z, r => by
    cases (show u = Value.ref a from r)
    obtain ⟨its, rv, ⟨o, h1, h2, n, h3⟩, _⟩ := I.tuple (seqT_mono f h)
    obtain ⟨as, ra⟩ := RpAll.reads I f ha (by unfold D.dp at z; omega) rv
    exact ⟨as, .tuple h1 h2 h3 (by simpa using ra)⟩
  | .ref a, .lst l, u, .lst h ha _, z, r => by
    cases (show u = Value.ref a from r)
    obtain ⟨its, rv, ⟨o, n, h1, h2, _, h3⟩, _⟩ := I.list (.of (f _ _ h))
    obtain ⟨as, ra⟩ := RpAll.reads I f ha (by unfold D.dp at z; omega) rv
    exact ⟨_, .list h1 h2 h3 (by simpa using ra)⟩
  | .ref a, .scr l, u, .scr h ha _, z, r => by
    cases (show u = Value.ref a from r)
    obtain ⟨its, rv, ⟨o, n, h1, h2, _, h3⟩, _⟩ := I.list (f.seq h)
    obtain ⟨as, ra⟩ := RpAll.reads I f ha (by unfold D.dp at z; omega) rv
    exact ⟨_, .list h1 h2 h3 (by simpa using ra)⟩
  | _, .ptr a, _, .ptr _, z, _ => by unfold D.dp at z; omega
  | _, .obj _ _, _, .obj _ _ _, z, _ => by unfold D.dp at z; omega
  | _, .dcK _, _, .dcK _ _ _, z, _ => by unfold D.dp at z; omega
  | _, .dcT _, _, .dcT _ _ _, z, _ => by unfold D.dp at z; omega
  | _, .exc _ _ _ _, _, .exc0, z, _ => by unfold D.dp at z; omega
  | _, .exc _ _ _ _, _, .exc1 _ _ _, z, _ => by unfold D.dp at z; omega
theorem RpAll.reads {pins : List (Addr × Obj)} {σ : L2.St} {H : Hp} {s : Shared} (I : Inv X pins σ H s) {H0 : F} (f : Same H0.ice H) : ∀ {vs : List V} {ds : List D} {us : List Value}, RpAll X.K H0 vs ds → dpAll ds ≤ 64 → Vals vs us → ∃ as, ReadsAll s.heap us (pyAll ds) as
  | _, _, _, .nil, _, .nil => ⟨_, .nil⟩
  | _, d :: ds, _, .cons h t, z, .cons r rs => by
    obtain ⟨as, q⟩ := Rp.reads I f h (by unfold dpAll at z; omega) r
    obtain ⟨bs, q2⟩ := RpAll.reads I f t (by unfold dpAll at z; omega) rs
    exact ⟨_, .cons q q2⟩
end
mutual
theorem noDict_py : ∀ d : D, d.py.hasDict = false
  | .non => rfl
  | .bl _ => rfl
  | .int _ => rfl
  | .str _ => rfl
  | .tup l => by simp [D.py, PyData.hasDict, noDict_all l]
  | .ftp l => by simp [D.py, PyData.hasDict, noDict_all l]
  | .ktp l => by simp [D.py, PyData.hasDict, noDict_all l]
  | .lst l => by simp [D.py, PyData.hasDict, noDict_all l]
  | .scr l => by simp [D.py, PyData.hasDict, noDict_all l]
  | .ptr _ => rfl
  | .obj _ _ => rfl
  | .dcK _ => rfl
  | .dcT _ => rfl
  | .exc _ _ _ _ => rfl
theorem noDict_all : ∀ l : List D, PyData.hasDictAll (pyAll l) = false
  | [] => rfl
  | d :: l => by simp [pyAll, PyData.hasDictAll, noDict_py d, noDict_all l]
end
def isSeqD : D → Bool
  | .tup _ => true
  | .ftp _ => true
  | .ktp _ => true
  | .lst _ => true
  | .scr _ => true
  | _ => false
def gRepr : GA := fun M ds post => one ds fun d => isSeqD d = true ∧ d.dp ≤ 16 ∧ d.py.showable = true ∧ sOk d.py.shown = true ∧ post (.str d.py.shown) M
theorem c_repr {k : Nat} (gd : X.A.guards = some []) (hr : Room k X.A) : CallR X (.builtin "repr") (rUA X.K gRepr) := by
  intro pins s σ H xs us Q I r h
  obtain ⟨H0, M, ds, post, f, ra, q, p⟩ := h
  obtain ⟨d, rfl, hq, hd, hs, ht, q⟩ := one_of q
  cases ra with
  | @cons v _ _ _ r1 t1 =>
    cases t1
    cases r with
    | cons ru tu =>
      cases tu
      obtain ⟨as, rd⟩ := Rp.reads I f.sub r1 (by omega) ru
      have isr : ∃ a, v = .ref a := by cases r1 <;> first | exact ⟨_, rfl⟩ | cases hq
      obtain ⟨a, rfl⟩ := isr
      have eu := (show _ = Value.ref a from ru)
      subst eu
      have hdp : d.py.depth ≤ 16 := by rw [(Rp.shape r1 (by omega)).1]; exact hd
      have un := hr.units
      refine repr_of_reads' rd hs (fun z => by rw [noDict_py] at z; cases z) gd (by omega) (fun _ _ e => e) (fun h' u tk hk => ⟨.str d.py.shown, H, I.kept (h' := h') (t' := tk) hk, ⟨u, rfl⟩, p.now f (.str _ ht) q⟩) (sOk_len ht)
theorem de_repr {k : Nat} (gd : X.A.guards = some []) (hr : Room k X.A) (hm : X.mg "repr" = none) (ha : DA X (e :: es) w) (hg : Gl X "repr" := by rfl)
    (hs : starEach (e :: es) X.env = (false, eval e X.env) :: starEach es X.env := by rfl) (hpl : (backTo pos (starEach es X.env)).any (·.1) = false := by rfl) : DE X (.Call (.Name "repr" p) (e :: es) [] pos) (wB gRepr w) :=
  de_b (he := hs) (hpl := hpl) (c_repr gd hr) hm (by decide +kernel) ha hg
def pick {α : Type} (ix : List Nat) (l : List α) : List α := ix.filterMap fun i => l[i]?
theorem pick_rp {K : PySem.W.Frag} {H : F} {vs : List V} {ds : List D} (r : RpAll K H vs ds) : ∀ ix : List Nat, RpAll K H (pick ix vs) (pick ix ds)
  | [] => .nil
  | i :: ix => by
    have ih := pick_rp r ix
    unfold pick at ih ⊢
    rw [List.filterMap_cons, List.filterMap_cons]
    cases e : ds[i]? with
    | none =>
      have e2 : vs[i]? = none := by rw [List.getElem?_eq_none_iff] at e ⊢; rw [r.length]; exact e
      rw [e2]; exact ih
    | some d =>
      obtain ⟨v, e2, r2⟩ := r.get e
      rw [e2]; exact .cons r2 ih
theorem vals_get {vs : List V} {us : List Value} (r : Vals vs us) (i : Nat) : (∃ v u, vs[i]? = some v ∧ us[i]? = some u ∧ RelV v u) ∨ (vs[i]? = none ∧ us[i]? = none) := by
  cases e : vs[i]? with
  | none => exact .inr ⟨rfl, by rw [List.getElem?_eq_none_iff] at e ⊢; rw [← r.length]; exact e⟩
  | some v =>
    obtain ⟨u, hu, rv⟩ := r.get e
    exact .inl ⟨v, u, rfl, hu, rv⟩
theorem pick_vals {vs : List V} {us : List Value} (r : Vals vs us) : ∀ ix : List Nat, Vals (pick ix vs) (pick ix us)
  | [] => .nil
  | i :: ix => by
    have ih := pick_vals r ix
    unfold pick at ih ⊢
    rw [List.filterMap_cons, List.filterMap_cons]
    rcases vals_get r i with ⟨v, u, e1, e2, rv⟩ | ⟨e1, e2⟩
    · rw [e1, e2]; exact .cons rv ih
    · rw [e1, e2]; exact ih
structure PubK (P : Program) (w : World) (K : PySem.W.Frag) (mg : Str → Option Value) (base : Heap) (k : Nat) (x : Str) (n : Nat) (ks : List Str) (ix : List Nat) (ps : List Str) (dsp : DSp) : Prop where
  ex : ∃ (f : Addr) (fd : FuncData), mg x = some (.ref f) ∧ PySem.W.keepIn K (.ref f) = true ∧ (∀ (s : Shared) (us ws : List Value), us.length = n → ws.length = ks.length → BindsTo s fd ⟨us, ks.zip ws⟩ (ps.zip (pick ix (us ++ ws)))) ∧ FnG P w K mg base k f fd ps dsp
abbrev DKw (X : Cx) (kws : List Keyword) (w : WA) : Prop := PK X kws (upA X.K w)
theorem PK.weak {kws : List Keyword} {t t' : TA} (h : PK X kws t) (i : ∀ σ H Q, t' σ H Q → t σ H Q) : PK X kws t' := ⟨fun pos pins s σ H Q I q => h.run pos pins s σ H Q I (i σ H Q q)⟩
theorem dk_nil : DKw X [] aNil := PK.weak pk_nil fun σ H Q h => by
  obtain ⟨H0, Γ, M, post, f, e, hw, p⟩ := h
  exact p [] [] H H0 M hw f (F.le.refl _) .nil
theorem dk_cons {kws : List Keyword} {nm : Option Str} {kpos : Pos} (he : DE X e we) (hr : DKw X kws w) : DKw X (⟨nm, e, kpos⟩ :: kws) (aCons we w) :=
  PK.weak (pk_cons he hr) fun σ H Q h => by
    obtain ⟨H0, Γ, M, post, f, en, hw, p⟩ := h
    exact ⟨H0, Γ, M, _, f, en, hw, fun v d H1 H01 M1 q1 f1 s1 r1 => ⟨H01, Γ, M1, _, f1, en.mono s1, q1, fun vs ds H2 H02 M2 q2 f2 s2 r2 => p _ _ H2 H02 M2 q2 f2 (s1.trans s2) (.cons (r1.mono s2) r2)⟩⟩
def wCallK (dsp : DSp) (n m : Nat) (ix : List Nat) (w wk : WA) : WE := fun Γ M post => w Γ M fun ds M1 => wk Γ M1 fun es M2 => ds.length = n ∧ es.length = m ∧ dsp (pick ix (ds ++ es)) M2 post
end
section
variable {P : Program} {w : World} {K : PySem.W.Frag} {mg : Str → Option Value} {base : Heap}
structure Fng (P : Program) (w : World) (K : PySem.W.Frag) (mg : Str → Option Value) (base : Heap) (k : Nat) (x : Str) (st : Stmt) (ps : List Str) (dsp : DSp) : Prop where
  ex : ∃ fd, FunD K x x (defArgs st) (defBody st) (defScope st) [] [] (He.ga K x) fd ∧ FnG P w K mg base k (He.ga K x) fd ps dsp
  g : mg x = some (.ref (He.ga K x))
theorem fng_of {k : Nat} {x : Str} {st : Stmt} {N ps : List Str} {dsp : DSp} (h : ∃ fd, FunD K x x (defArgs st) (defBody st) (defScope st) [] [] (He.ga K x) fd) (g : mg x = some (.ref (He.ga K x))) (S : FnScope N ps (defScope st))
    (l : ∀ ds M post, dsp ds M post → ds.length = ps.length)
    (hb : ∀ (f : Addr) (cdv : Value) (A : Around) (outer : List PySem.Env) (s : Shared) (H : Hp), (A.deeper (envOfC x (defScope st) s.heap.objs.size f cdv)).guards = some [] → Room k (A.deeper (envOfC x (defScope st) s.heap.objs.size f cdv)) →
      ∃ ws, DSs (bx P w K mg base N x (defScope st) f cdv A outer s H) (defBody st) ws ∧ ∀ ds M post, dsp ds M post → ws { nx := fun _ M' => post .non M', rt := post } (startD N ds) M) :
    Fng P w K mg base (k + 1) x st ps dsp := by
  obtain ⟨fd, D⟩ := h
  refine ⟨⟨fd, D, ?_⟩, g⟩
  obtain ⟨oc, od, dV, kV, doc, pm, an, cdv, ct, osl, rfl, lk, hcd, _, _⟩ := D.ex
  exact g_of lk hcd S l fun A outer s H => hb _ cdv A outer s H
theorem Fng.pub {k : Nat} {x : Str} {st : Stmt} {ps : List Str} {dsp : DSp} (F : Fng P w K mg base k x st ps dsp)
    (bd : ∀ (kV doc pm : Value) (an : Option Addr) (cdv ct : Value) (us : List Value), us.length = ps.length → bindArgs (PySem.W.fnOf x x (defArgs st) (defBody st) (defScope st) .none kV doc pm an cdv ct) ⟨us, []⟩ = pure (ps.zip us)) : Pub P w K mg base k x ps dsp := by
  obtain ⟨fd, D, G⟩ := F.ex
  exact ⟨_, fd, F.g, D.kp, D.bindsN bd, G⟩
end
end FD

namespace FD
open PySem PySem.Spec PyProof.Rows L2
section
variable {P : Program} {w : World} {K : PySem.W.Frag} {mg : Str → Option Value} {base : Heap}
theorem pubM_of {k : Nat} {C f : Addr} {m qual : Str} {st : Stmt} {N ps : List Str} {dsp : DSp} (h : ∃ fd, FunD K m qual (defArgs st) (defBody st) (defScope st) [] [] f fd) (mt : Meth K C m f) (S : FnScope N ps (defScope st))
    (bd : ∀ (kV doc pm : Value) (an : Option Addr) (cdv ct : Value) (us : List Value), us.length = ps.length → bindArgs (PySem.W.fnOf m qual (defArgs st) (defBody st) (defScope st) .none kV doc pm an cdv ct) ⟨us, []⟩ = pure (ps.zip us))
    (l : ∀ ds M post, dsp ds M post → ds.length = ps.length)
    (hb : ∀ (f : Addr) (cdv : Value) (A : Around) (outer : List PySem.Env) (s : Shared) (H : Hp), (A.deeper (envOfC qual (defScope st) s.heap.objs.size f cdv)).guards = some [] → Room k (A.deeper (envOfC qual (defScope st) s.heap.objs.size f cdv)) →
      ∃ ws, DSs (bx P w K mg base N qual (defScope st) f cdv A outer s H) (defBody st) ws ∧ ∀ ds M post, dsp ds M post → ws { nx := fun _ M' => post .non M', rt := post } (startD N ds) M) :
    PubM P w K mg base (k + 1) C m ps dsp := by
  obtain ⟨fd, D⟩ := h
  have b := D.bindsN bd
  obtain ⟨oc, od, dV, kV, doc, pm, an, cdv, ct, osl, rfl, lk, hcd, _, _⟩ := D.ex
  exact ⟨_, _, mt, b, g_of lk hcd S l fun A outer s H => hb _ cdv A outer s H⟩
end
end FD

set_option maxHeartbeats 1000000
namespace FD
open PySem PySem.Spec PyProof.Rows L2
theorem isi_ss : isiT "str" "str" = true := by decide
theorem isi_tt : isiT "tuple" "tuple" = true := by decide
theorem isi_st : isiT "str" "tuple" = false := by decide
theorem isi_ts : isiT "tuple" "str" = false := by decide
theorem ty_str {M : Mem} {s : Str} : tyN M (.str s) = some "str" := rfl
theorem ty_tup {M : Mem} {l : List D} : tyN M (.tup l) = some "tuple" := rfl
theorem ty_ktp {M : Mem} {l : List D} : tyN M (.ktp l) = some "tuple" := rfl
theorem ty_ftp {M : Mem} {l : List D} : tyN M (.ftp l) = some "tuple" := rfl
theorem all_lst {M : Mem} {l : List D} {post : WK} : gAll M [.lst l] post = got (bools l) fun bs => post (.bl (bs.all id)) M := rfl
theorem any_lst {M : Mem} {l : List D} {post : WK} : gAny M [.lst l] post = got (bools l) fun bs => post (.bl (bs.any id)) M := rfl
theorem flat_s {s : Str} : flatD (.str s) = true := rfl
theorem tuple_lst {M : Mem} {l : List D} {post : WK} : gTuple M [.lst l] post = post (.ftp l) M := rfl
theorem int_int {M : Mem} {i : Int} {post : WK} : gInt M [.int i] post = post (.int i) M := rfl
theorem isNon_non : isNon .non = true := rfl
theorem isNon_int {i : Int} : isNon (.int i) = false := rfl
theorem isNon_str {i : Str} : isNon (.str i) = false := rfl
theorem isNon_ptr {i : Addr} : isNon (.ptr i) = false := rfl
theorem isNon_tup {l : List D} : isNon (.tup l) = false := rfl
theorem isNon_ftp {l : List D} : isNon (.ftp l) = false := rfl
def LcI (items : List D) (G : Mem → Prop) (gd : GD) (tt : WT) (te : WE) (Γ : Env) (M : Mem) (post : WK) : Prop := ∃ Pv : Nat → List D → Mem → Prop, Pv 0 [] M ∧ (∀ i acc M', Pv i acc M' → G M') ∧
  (∀ i d acc M', items[i]? = some d → Pv i acc M' → gd d Γ fun Γ2 => tt Γ2 M' fun b M3 => if b = true then te Γ2 M3 fun y M4 => Pv (i + 1) (acc ++ [y]) M4 else Pv (i + 1) acc M3) ∧
  ∀ acc M', Pv items.length acc M' → post (.lst acc) M'
theorem wLc_eq {wi : WI} {gd : GD} {tt : WT} {te : WE} : wLc wi gd tt te = fun Γ M post => wi Γ M fun items G M1 => LcI items G gd tt te Γ M1 post := rfl
def ForI (items : List D) (G : Mem → Prop) (g : WG) (tb : WS) (E : DEnds) (Γ : Env) (M : Mem) : Prop := ∃ Pv : Nat → Env → Mem → Prop, Pv 0 Γ M ∧ (∀ i Γ' M', Pv i Γ' M' → G M') ∧
  (∀ i d Γ' M', items[i]? = some d → Pv i Γ' M' → g d Γ' M' fun Γ2 M2 => tb { E with nx := Pv (i + 1), ct := Pv (i + 1), bk := E.nx } Γ2 M2) ∧ ∀ Γ' M', Pv items.length Γ' M' → E.nx Γ' M'
theorem sFor_eq {wi : WI} {g : WG} {tb : WS} : sFor wi g tb = fun E Γ M => wi Γ M fun items G M1 => ForI items G g tb E Γ M1 := rfl
def DcI (emp : MO) (items : List D) (G : Mem → Prop) (gd : GD) (tt : WT) (tk tv : WE) (Γ : Env) (M : Mem) (post : WK) : Prop := ∀ p, M p = none → ∃ Pv : Nat → Mem → Prop, Pv 0 (M.upd p emp) ∧ (∀ i M', Pv i M' → G M') ∧
  (∀ i d M', items[i]? = some d → Pv i M' → gd d Γ fun Γ2 => tt Γ2 M' fun b M3 => if b = true then tk Γ2 M3 fun y M4 => tv Γ2 M4 fun z M5 => dPut M5 (.ptr p) y z fun M6 => Pv (i + 1) M6 else Pv (i + 1) M3) ∧
  ∀ M', Pv items.length M' → post (.ptr p) M'
theorem wDc_eq {emp : MO} {wi : WI} {gd : GD} {tt : WT} {tk tv : WE} : wDc emp wi gd tt tk tv = fun Γ M post => wi Γ M fun items G M1 => DcI emp items G gd tt tk tv Γ M1 post := rfl
theorem lc_at {gd : GD} {tt : WT} {te : WE} {Γ : Env} {M : Mem} {post : WK} {G : Mem → Prop} {α : Type} (xs : List α) (enc : α → D) (g : α → Bool) (f : α → D) (Iv : Mem → Prop) (i0 : Iv M) (iG : ∀ M', Iv M' → G M')
    (step : ∀ x ∈ xs, ∀ M', Iv M' → ∀ (yes : WK) (no : Mem → Prop), (g x = true → ∀ M2, Iv M2 → yes (f x) M2) → (g x = false → ∀ M2, Iv M2 → no M2) → gd (enc x) Γ fun Γ2 => tt Γ2 M' fun b M3 => if b = true then te Γ2 M3 yes else no M3)
    (fin : ∀ M', Iv M' → post (.lst ((xs.filter g).map f)) M') : LcI (xs.map enc) G gd tt te Γ M post := by
  refine ⟨fun i acc M' => acc = ((xs.take i).filter g).map f ∧ Iv M', ⟨rfl, i0⟩, fun i acc M' h => iG M' h.2, ?_, ?_⟩
  · rintro i d acc M' hd ⟨rfl, im⟩
    rw [List.getElem?_map] at hd
    cases e : xs[i]? with
    | none => rw [e] at hd; cases hd
    | some x =>
      rw [e] at hd; cases hd
      have hx : x ∈ xs := List.mem_of_getElem? e
      exact step x hx M' im _ _ (fun gx M2 i2 => ⟨by rw [List.take_succ, e]; simp [gx], i2⟩) (fun gx M2 i2 => ⟨by rw [List.take_succ, e]; simp [gx], i2⟩)
  · rintro acc M' ⟨rfl, im⟩
    rw [List.length_map, List.take_length]
    exact fin M' im
theorem lc_pure {gd : GD} {tt : WT} {te : WE} {Γ : Env} {M : Mem} {post : WK} {G : Mem → Prop} {α : Type} (xs : List α) (enc : α → D) (g : α → Bool) (f : α → D) (iG : G M)
    (step : ∀ x ∈ xs, ∀ (yes : WK) (no : Mem → Prop), (g x = true → yes (f x) M) → (g x = false → no M) → gd (enc x) Γ fun Γ2 => tt Γ2 M fun b M3 => if b = true then te Γ2 M3 yes else no M3)
    (fin : post (.lst ((xs.filter g).map f)) M) : LcI (xs.map enc) G gd tt te Γ M post := by
  refine lc_at xs enc g f (· = M) rfl (fun M' h => h ▸ iG) ?_ ?_
  · rintro x hx M' rfl yes no hy hn
    exact step x hx yes no (fun q => hy q M' rfl) fun q => hn q M' rfl
  · rintro M' rfl
    exact fin
theorem filter_tt {α : Type} (xs : List α) : xs.filter (fun _ => true) = xs := List.filter_eq_self.mpr fun _ _ => rfl
theorem lc_mapI {gd : GD} {te : WE} {Γ : Env} {M : Mem} {post : WK} {G : Mem → Prop} {α : Type} (xs : List α) (enc : α → D) (f : α → D) (Iv : Mem → Prop) (i0 : Iv M) (iG : ∀ M', Iv M' → G M')
    (step : ∀ x ∈ xs, ∀ M', Iv M' → ∀ (yes : WK), (∀ M2, Iv M2 → yes (f x) M2) → gd (enc x) Γ fun Γ2 => te Γ2 M' yes)
    (fin : ∀ M', Iv M' → post (.lst (xs.map f)) M') : LcI (xs.map enc) G gd tYesD te Γ M post := by
  refine lc_at xs enc (fun _ => true) f Iv i0 iG ?_ ?_
  · intro x hx M' im yes no hy hn
    exact step x hx M' im yes (hy rfl)
  · intro M' im
    rw [filter_tt]; exact fin M' im
theorem lc_map {gd : GD} {te : WE} {Γ : Env} {M : Mem} {post : WK} {G : Mem → Prop} {α : Type} (xs : List α) (enc : α → D) (f : α → D) (iG : G M)
    (step : ∀ x ∈ xs, ∀ (yes : WK), yes (f x) M → gd (enc x) Γ fun Γ2 => te Γ2 M yes)
    (fin : post (.lst (xs.map f)) M) : LcI (xs.map enc) G gd tYesD te Γ M post := by
  refine lc_mapI xs enc f (· = M) rfl (fun M' h => h ▸ iG) ?_ ?_
  · rintro x hx M' rfl yes hy
    exact step x hx yes (hy M' rfl)
  · rintro M' rfl
    exact fin
def Lc2J (jtems : List D) (G' : Mem → Prop) (ge : GD) (tu : WT) (te : WE) (acc0 : List D) (Γ2 : Env) (M4 : Mem) (nx : List D → Mem → Prop) : Prop := ∃ Pw : Nat → List D → Mem → Prop, Pw 0 acc0 M4 ∧ (∀ j acc M', Pw j acc M' → G' M') ∧
      (∀ j d acc M', jtems[j]? = some d → Pw j acc M' → ge d Γ2 fun Γ3 => tu Γ3 M' fun b M5 => if b = true then te Γ3 M5 fun y M6 => acc.length < 16777216 ∧ Pw (j + 1) (acc ++ [y]) M6 else Pw (j + 1) acc M5) ∧
      ∀ acc M', Pw jtems.length acc M' → nx acc M'
def Lc2I (items : List D) (G : Mem → Prop) (gd : GD) (tt : WT) (wj : WI) (ge : GD) (tu : WT) (te : WE) (Γ : Env) (M : Mem) (post : WK) : Prop := ∃ Pv : Nat → List D → Mem → Prop, Pv 0 [] M ∧ (∀ i acc M', Pv i acc M' → G M') ∧
  (∀ i d acc M', items[i]? = some d → Pv i acc M' → gd d Γ fun Γ2 => tt Γ2 M' fun b M3 => if b = true then wj Γ2 M3 fun jtems G' M4 => Lc2J jtems G' ge tu te acc Γ2 M4 (Pv (i + 1))
    else Pv (i + 1) acc M3) ∧
  ∀ acc M', Pv items.length acc M' → post (.lst acc) M'
theorem wLc2_eq {wi : WI} {gd : GD} {tt : WT} {wj : WI} {ge : GD} {tu : WT} {te : WE} : wLc2 wi gd tt wj ge tu te = fun Γ M post => wi Γ M fun items G M1 => Lc2I items G gd tt wj ge tu te Γ M1 post := rfl
theorem lc2_map {gd : GD} {wj : WI} {ge : GD} {te : WE} {Γ : Env} {M : Mem} {post : WK} {G : Mem → Prop} {α β : Type} (xs : List α) (enc : α → D) (ys : α → List β) (enb : β → D) (f : α → β → D) (iG : G M)
    (hz : (xs.flatMap fun x => (ys x).map (f x)).length ≤ 16777216)
    (inner : ∀ x ∈ xs, ∀ (k : List D → (Mem → Prop) → Env → Prop), (∀ G', G' M → ∀ Γ2, (∀ y ∈ ys x, ∀ yes : WK, yes (f x y) M → ge (enb y) Γ2 fun Γ3 => te Γ3 M yes) → k ((ys x).map enb) G' Γ2) → gd (enc x) Γ fun Γ2 => wj Γ2 M fun jtems G' M4 => M4 = M ∧ k jtems G' Γ2)
    (mono : ∀ Γ2 (P Q : List D → (Mem → Prop) → Mem → Prop), (∀ i G M, P i G M → Q i G M) → wj Γ2 M P → wj Γ2 M Q) (gmono : ∀ d (P Q : Env → Prop), (∀ g, P g → Q g) → gd d Γ P → gd d Γ Q)
    (fin : post (.lst (xs.flatMap fun x => (ys x).map (f x))) M) : Lc2I (xs.map enc) G gd tYesD wj ge tYesD te Γ M post := by
  refine ⟨fun i acc M' => acc = ((xs.take i).flatMap fun x => (ys x).map (f x)) ∧ M' = M, ⟨rfl, rfl⟩, fun i acc M' h => h.2 ▸ iG, ?_, ?_⟩
  · rintro i d acc M' hd ⟨rfl, rfl⟩
    rw [List.getElem?_map] at hd
    cases e : xs[i]? with
    | none => rw [e] at hd; cases hd
    | some x =>
      rw [e] at hd; cases hd
      have hx : x ∈ xs := List.mem_of_getElem? e
      have e1 : (xs.take (i + 1)).flatMap (fun x => (ys x).map (f x)) = (xs.take i).flatMap (fun x => (ys x).map (f x)) ++ (ys x).map (f x) := by rw [List.take_succ, e]; simp
      have hz1 : ((xs.take (i + 1)).flatMap fun x => (ys x).map (f x)).length ≤ 16777216 := by
        refine Nat.le_trans ?_ hz
        conv => rhs; rw [← List.take_append_drop (i + 1) xs, List.flatMap_append, List.length_append]
        exact Nat.le_add_right _ _
      refine gmono _ _ _ (fun g q => mono _ _ _ (fun it G1 M1 q => ?_) q) (inner x hx (fun jtems G' Γ2 => G' M' ∧ jtems = (ys x).map enb ∧ ∀ y ∈ ys x, ∀ yes : WK, yes (f x y) M' → ge (enb y) Γ2 fun Γ3 => te Γ3 M' yes) fun G' g' Γ2 hy => ⟨g', rfl, hy⟩)
      obtain ⟨rfl, g', rfl, hy⟩ := q
      refine ⟨fun j acc M2 => acc = ((xs.take i).flatMap fun x => (ys x).map (f x)) ++ ((ys x).take j).map (f x) ∧ M2 = M1, ⟨by simp, rfl⟩, fun j acc M2 h => h.2 ▸ g', ?_, ?_⟩
      · rintro j d acc M2 hd ⟨rfl, rfl⟩
        rw [List.getElem?_map] at hd
        cases e2 : (ys x)[j]? with
        | none => rw [e2] at hd; cases hd
        | some y =>
          rw [e2] at hd; cases hd
          refine hy y (List.mem_of_getElem? e2) _ ⟨?_, ?_, rfl⟩
          · rw [e1, List.length_append, List.length_map] at hz1
            rw [List.length_append, List.length_map, List.length_take]
            have := (List.getElem?_eq_some_iff.mp e2).1
            omega
          · rw [List.take_succ, e2]; simp
      · rintro acc M2 ⟨rfl, rfl⟩
        refine ⟨?_, rfl⟩
        rw [List.length_map, List.take_length, e1]
  · rintro acc M' ⟨rfl, rfl⟩
    rw [List.length_map, List.take_length]
    exact fin
end FD

namespace FD
open PySem PySem.Spec PyProof.Rows L2
section
variable {g : WG} {tb : WS} {E : DEnds} {Γ : Env} {M : Mem} {G : Mem → Prop} {α σ : Type}
theorem for_map (xs : List α) (enc : α → D) (Iv : Nat → Env → Mem → Prop) (i0 : Iv 0 Γ M) (iG : ∀ i Γ' M', Iv i Γ' M' → G M')
    (step : ∀ i x, xs[i]? = some x → ∀ Γ' M', Iv i Γ' M' → g (enc x) Γ' M' fun Γ2 M2 => tb ⟨Iv (i + 1), E.rt, E.nx, Iv (i + 1)⟩ Γ2 M2)
    (fin : ∀ Γ' M', Iv xs.length Γ' M' → E.nx Γ' M') : ForI (xs.map enc) G g tb E Γ M := by
  refine ⟨Iv, i0, iG, fun i d Γ' M' hd h => ?_, fun Γ' M' h => fin Γ' M' (by rw [List.length_map] at h; exact h)⟩
  rw [List.getElem?_map] at hd
  cases e : xs[i]? with
  | none => rw [e] at hd; cases hd
  | some x => rw [e] at hd; cases hd; exact step i x e Γ' M' h
theorem for_find (xs : List α) (enc : α → D) (c : α → Bool) (Iv : Env → Mem → Prop) (i0 : Iv Γ M) (iG : ∀ Γ' M', Iv Γ' M' → G M')
    (step : ∀ x ∈ xs, ∀ Γ' M', Iv Γ' M' → ∀ N : Env → Mem → Prop, (c x = true → xs.find? c = some x → g (enc x) Γ' M' fun Γ2 M2 => tb ⟨N, E.rt, E.nx, N⟩ Γ2 M2) ∧ (c x = false → (∀ Γ2 M2, Iv Γ2 M2 → N Γ2 M2) → g (enc x) Γ' M' fun Γ2 M2 => tb ⟨N, E.rt, E.nx, N⟩ Γ2 M2))
    (fin : xs.find? c = none → ∀ Γ' M', Iv Γ' M' → E.nx Γ' M') : ForI (xs.map enc) G g tb E Γ M := by
  refine for_map xs enc (fun i Γ' M' => (∀ y ∈ xs.take i, c y = false) ∧ Iv Γ' M') ⟨fun y hy => by simp at hy, i0⟩ (fun i Γ' M' h => iG _ _ h.2) (fun i x e Γ' M' h => ?_) fun Γ' M' h => ?_
  · have hx := List.mem_of_getElem? e
    have q := step x hx Γ' M' h.2 (fun Γ2 M2 => (∀ y ∈ xs.take (i + 1), c y = false) ∧ Iv Γ2 M2)
    cases hc : c x with
    | true =>
      refine q.1 hc ?_
      have hl : i < xs.length := (List.getElem?_eq_some_iff.mp e).1
      have e2 : xs = xs.take i ++ x :: xs.drop (i + 1) := by
        have := List.getElem_cons_drop (as := xs) (i := i) hl
        rw [(List.getElem?_eq_some_iff.mp e).2] at this
        rw [this, List.take_append_drop]
      rw [List.find?_eq_some_iff_append]
      exact ⟨hc, xs.take i, xs.drop (i + 1), e2, fun y hy => by rw [h.1 y hy]; rfl⟩
    | false =>
      refine q.2 hc fun Γ2 M2 iv => ⟨fun y hy => ?_, iv⟩
      rw [List.take_succ, e] at hy
      simp only [Option.toList, List.mem_append, List.mem_singleton] at hy
      rcases hy with hy | rfl
      · exact h.1 y hy
      · exact hc
  · refine fin ?_ Γ' M' h.2
    rw [List.find?_eq_none]
    intro x hx
    have := h.1 x (by rw [List.take_length]; exact hx)
    rw [this]; simp
end
section
variable {gd : GD} {tt : WT} {te : WE} {Γ : Env} {M : Mem} {post : WK} {G : Mem → Prop} {α σ : Type}
theorem lc_draw (xs : List α) (enc : α → D) (Iv : List D → Mem → Prop) (i0 : Iv [] M) (iG : ∀ acc M', Iv acc M' → G M')
    (step : ∀ x ∈ xs, ∀ acc M', acc.length < xs.length → Iv acc M' → ∀ yes : WK, (∀ y M4, Iv (acc ++ [y]) M4 → yes y M4) → gd (enc x) Γ fun Γ2 => te Γ2 M' yes)
    (fin : ∀ acc M', acc.length = xs.length → Iv acc M' → post (.lst acc) M') : LcI (xs.map enc) G gd tYesD te Γ M post := by
  refine ⟨fun i acc M' => acc.length = i ∧ Iv acc M', ⟨rfl, i0⟩, fun i acc M' h => iG _ _ h.2, ?_, ?_⟩
  · rintro i d acc M' hd ⟨hl, iv⟩
    rw [List.getElem?_map] at hd
    cases e : xs[i]? with
    | none => rw [e] at hd; cases hd
    | some x =>
      rw [e] at hd; cases hd
      have hi := (List.getElem?_eq_some_iff.mp e).1
      have q := step x (List.mem_of_getElem? e) acc M' (by omega) iv (fun y M4 => (acc ++ [y]).length = i + 1 ∧ Iv (acc ++ [y]) M4) fun y M4 h => ⟨by simp [hl], h⟩
      simp only [tYesD, if_true]
      exact q
  · rintro acc M' ⟨hl, iv⟩
    rw [List.length_map] at hl
    exact fin acc M' hl iv
end
section
variable {M : Mem} {post : WK}
theorem add_str {a b : Str} {k : D → Prop} : got (addD (.str a) (.str b)) k = (a.length + b.length ≤ 16777216 ∧ k (.str (a ++ b))) := by
  show got (if a.length + b.length ≤ 16777216 then some (D.str (a ++ b)) else none) k = _
  by_cases h : a.length + b.length ≤ 16777216
  · rw [if_pos h]; exact propext ⟨fun q => ⟨h, q⟩, fun q => q.2⟩
  · rw [if_neg h]; exact propext ⟨fun q => q.elim, fun q => absurd q.1 h⟩
theorem add_lst {a b : List D} {k : D → Prop} : got (addD (.lst a) (.lst b)) k = (a.length + b.length ≤ 16777216 ∧ k (.lst (a ++ b))) := by
  show got (if a.length + b.length ≤ 16777216 then some (D.lst (a ++ b)) else none) k = _
  by_cases h : a.length + b.length ≤ 16777216
  · rw [if_pos h]; exact propext ⟨fun q => ⟨h, q⟩, fun q => q.2⟩
  · rw [if_neg h]; exact propext ⟨fun q => q.elim, fun q => absurd q.1 h⟩
theorem add_tup {a b : List D} {k : D → Prop} : got (addD (.tup a) (.tup b)) k = (a.length + b.length ≤ 16777216 ∧ k (.tup (a ++ b))) := by
  rw [addD_tup (a := a) (b := b) rfl rfl]
  by_cases h : a.length + b.length ≤ 16777216
  · rw [if_pos h]
    refine propext ⟨fun q => ⟨h, ?_⟩, fun q => ?_⟩
    · have q : k (if a = [] then .tup b else if b = [] then .tup a else .tup (a ++ b)) := q
      split at q
      · rename_i e; rw [e]; exact q
      · split at q
        · rename_i e; rw [e, List.append_nil]; exact q
        · exact q
    · show k (if a = [] then .tup b else if b = [] then .tup a else .tup (a ++ b))
      split
      · rename_i e; rw [e] at q; exact q.2
      · split
        · rename_i e; rw [e, List.append_nil] at q; exact q.2
        · exact q.2
  · rw [if_neg h]; exact propext ⟨fun q => q.elim, fun q => absurd q.1 h⟩
theorem mul_int {i j : Int} {k : D → Prop} : got (mulD (.int i) (.int j)) k = ((i.natAbs < 18446744073709551616 ∨ j.natAbs < 18446744073709551616) ∧ k (.int (i * j))) := by
  show got (if i.natAbs < 18446744073709551616 ∨ j.natAbs < 18446744073709551616 then some (D.int (i * j)) else none) k = _
  by_cases h : i.natAbs < 18446744073709551616 ∨ j.natAbs < 18446744073709551616
  · rw [if_pos h]; exact propext ⟨fun q => ⟨h, q⟩, fun q => q.2⟩
  · rw [if_neg h]; exact propext ⟨fun q => q.elim, fun q => absurd q.1 h⟩
theorem mod_int {i j : Int} {k : D → Prop} : got (modD (.int i) (.int j)) k = (0 < j ∧ k (.int (i % j))) := by
  show got (if 0 < j then some (D.int (i % j)) else none) k = _
  by_cases h : 0 < j
  · rw [if_pos h]; exact propext ⟨fun q => ⟨h, q⟩, fun q => q.2⟩
  · rw [if_neg h]; exact propext ⟨fun q => q.elim, fun q => absurd q.1 h⟩
theorem fdiv_int {i j : Int} {k : D → Prop} : got (fdivD (.int i) (.int j)) k = ((0 < j ∧ j < 1073741824) ∧ k (.int (i / j))) := by
  show got (if 0 < j ∧ j < 1073741824 then some (D.int (i / j)) else none) k = _
  by_cases h : 0 < j ∧ j < 1073741824
  · rw [if_pos h]; exact propext ⟨fun q => ⟨h, q⟩, fun q => q.2⟩
  · rw [if_neg h]; exact propext ⟨fun q => q.elim, fun q => absurd q.1 h⟩
theorem pow_int {i j : Int} {k : D → Prop} : got (powD (.int i) (.int j)) k = ((0 ≤ j ∧ j ≤ 1000000 ∧ i.natAbs < 18446744073709551616) ∧ k (.int (i ^ j.toNat))) := by
  show got (if 0 ≤ j ∧ j ≤ 1000000 ∧ i.natAbs < 18446744073709551616 then some (D.int (i ^ j.toNat)) else none) k = _
  by_cases h : 0 ≤ j ∧ j ≤ 1000000 ∧ i.natAbs < 18446744073709551616
  · rw [if_pos h]; exact propext ⟨fun q => ⟨h, q⟩, fun q => q.2⟩
  · rw [if_neg h]; exact propext ⟨fun q => q.elim, fun q => absurd q.1 h⟩
theorem dpAll_strs : ∀ ss : List Str, dpAll (ss.map D.str) = 0
  | [] => by simp [dpAll]
  | s :: ss => by rw [List.map_cons, dpAll, dpAll_strs ss]; simp [D.dp]
theorem dpAll_ints : ∀ l : List Int, dpAll (l.map D.int) = 0
  | [] => by simp [dpAll]
  | s :: ss => by rw [List.map_cons, dpAll, dpAll_ints ss]; simp [D.dp]
theorem dpAll_mapI {α : Type} {f : α → Int} (l : List α) : dpAll (l.map fun x => D.int (f x)) = 0 := by
  have := dpAll_ints (l.map f)
  rwa [List.map_map] at this
theorem eq_ftp_nil {l : List D} : gEq M (.ftp l) (.tup []) post = (dpAll l + 1 ≤ 64 ∧ post (.bl l.isEmpty) M) := by
  unfold gEq rsv
  have e : eqd (.ftp l) (.tup []) = l.isEmpty := by cases l <;> simp [eqd, D.py, pyAll, PyData.eqv, PyData.eqvAll]
  simp only [e]
  have z : (D.tup []).dp ≤ 64 := by simp [D.dp, dpAll]
  have z2 : (D.ftp l).dp = dpAll l + 1 := by simp [D.dp]
  rw [z2]
  exact propext ⟨fun q => ⟨q.1, q.2.2⟩, fun q => ⟨q.1, z, q.2⟩⟩
theorem ne_ftp_nil {l : List D} : gNe M (.ftp l) (.tup []) post = (dpAll l + 1 ≤ 64 ∧ post (.bl (!l.isEmpty)) M) := by
  unfold gNe rsv
  have e : eqd (.ftp l) (.tup []) = l.isEmpty := by cases l <;> simp [eqd, D.py, pyAll, PyData.eqv, PyData.eqvAll]
  simp only [e]
  have z : (D.tup []).dp ≤ 64 := by simp [D.dp, dpAll]
  have z2 : (D.ftp l).dp = dpAll l + 1 := by simp [D.dp]
  rw [z2]
  exact propext ⟨fun q => ⟨q.1, q.2.2⟩, fun q => ⟨q.1, z, q.2⟩⟩
theorem Mem.del_upd {a : Addr} {o : MO} (h : M a = none) : (M.upd a o).del a = M := by
  funext b
  unfold Mem.del Mem.upd
  by_cases e : b = a
  · rw [if_pos e, e, h]
  · rw [if_neg e, if_neg e]
theorem Mem.upd_upd {a : Addr} {o o' : MO} : (M.upd a o).upd a o' = M.upd a o' := by
  funext b
  unfold Mem.upd
  by_cases e : b = a
  · rw [if_pos e, if_pos e]
  · rw [if_neg e, if_neg e, if_neg e]
theorem cell_eq {a : Addr} {l : List D} {k : Addr → List D → Prop} (h : M a = some (.lst l)) : cell M (.ptr a) k = k a l := by
  unfold cell; simp only [h]
theorem cell_upd {a : Addr} {l : List D} {k : Addr → List D → Prop} : cell (M.upd a (.lst l)) (.ptr a) k = k a l := cell_eq Mem.upd_same
theorem insOf_eq {C a : Addr} {fs : List (Str × D)} {k : Addr → List (Str × D) → Prop} (h : M a = some (.ins C fs)) : insOf M C (.ptr a) k = k a fs := by
  unfold insOf; simp [h]
theorem dAt_T {a : Addr} {l : List (List Key × D)} {y : D} {c : Option D → Prop} {k : List Key} (h : M a = some (.dT l)) (e : keyT y = some k) : dAt M (.ptr a) y c = c (valD l k) := by
  unfold dAt; simp only [h, e]; rfl
theorem dPut_T {a : Addr} {l : List (List Key × D)} {y z : D} {c : Mem → Prop} {k : List Key} (h : M a = some (.dT l)) (e : keyT y = some k) : dPut M (.ptr a) y z c = (l.length < 16777216 ∧ c (M.upd a (.dT (putD l k z)))) := by
  unfold dPut; simp only [h, e]; rfl
theorem asL_cell {a : Addr} {l : List D} {k : List D → (Mem → Prop) → Prop} (h : M a = some (.lst l)) : asL M (.ptr a) k = k l fun M' => M' a = some (.lst l) := by
  unfold asL; simp only [h]
theorem okL_cell {a : Addr} {l : List D} (h : M a = some (.lst l)) : okL M (.ptr a) := ⟨l, by unfold lstOf; simp only [tupOf]; unfold seqOf; simp only [h]⟩
theorem append_eq {a : Addr} {l : List D} {y : D} (h : M a = some (.lst l)) : gAppend M (.ptr a) [y] post = (l.length < 16777216 ∧ post .non (M.upd a (.lst (l ++ [y])))) := by
  unfold gAppend; rw [one_one, cell_eq h]
end
end FD

namespace FD
open PySem PySem.Spec PyProof.Rows L2
mutual
/-- e is d, with what M has and M' lacks as data -/
inductive Fz (M M' : Mem) : D → D → Prop
  | same (d : D) : Fz M M' d d
  | lst {a : Addr} {l l' : List D} (h : M a = some (.lst l)) (n : M' a = none) (f : FzAll M M' l l') : Fz M M' (.ptr a) (.lst l')
  | dK {a : Addr} {l l' : List (Key × D)} (h : M a = some (.dK l)) (n : M' a = none) (hk : l.map (·.1) = l'.map (·.1)) (f : FzAll M M' (l.map (·.2)) (l'.map (·.2))) : Fz M M' (.ptr a) (.dcK l')
  | dT {a : Addr} {l l' : List (List Key × D)} (h : M a = some (.dT l)) (n : M' a = none) (hk : l.map (·.1) = l'.map (·.1)) (f : FzAll M M' (l.map (·.2)) (l'.map (·.2))) : Fz M M' (.ptr a) (.dcT l')
  | obj {a C : Addr} {l l' : List (Str × D)} (h : M a = some (.ins C l)) (n : M' a = none) (hk : l.map (·.1) = l'.map (·.1)) (f : FzAll M M' (l.map (·.2)) (l'.map (·.2))) : Fz M M' (.ptr a) (.obj C l')
inductive FzAll (M M' : Mem) : List D → List D → Prop
  | nil : FzAll M M' [] []
  | cons {d d' : D} {l l' : List D} (h : Fz M M' d d') (t : FzAll M M' l l') : FzAll M M' (d :: l) (d' :: l')
end
theorem FzAll.len {M M' : Mem} : ∀ {l l' : List D}, FzAll M M' l l' → l.length = l'.length
  | _, _, .nil => rfl
  | _, _, .cons _ t => by rw [List.length_cons, List.length_cons, FzAll.len t]
section
variable {K : PySem.W.Frag} {H0 H1 : F} {M M' : Mem}
mutual
theorem Fz.rp (s : F.le H0 H1) (dr : ∀ a mo, M a = some mo → M' a = none → ∃ o, H1.ice a = some o ∧ RpO K H0 mo o) : ∀ {d d' : D}, Fz M M' d d' → ∀ v, Rp K H0 v d → Rp K H1 v d'
  | _, _, .same d, v, r => r.mono s
  | _, _, .lst h n f, v, r => by
    cases r
    obtain ⟨o, ho, ro⟩ := dr _ _ h n
    cases ro with
    | lst ha hz => exact .lst ho (FzAll.rp s dr f _ ha) (by rw [← f.len]; exact hz)
  | _, _, .dK h n hk f, v, r => by
    cases r
    obtain ⟨o, ho, ro⟩ := dr _ _ h n
    cases ro with
    | dK kv => exact .dcK ho ((kv_to kv).1.trans hk) (FzAll.rp s dr f _ (kv_to kv).2)
  | _, _, .dT h n hk f, v, r => by
    cases r
    obtain ⟨o, ho, ro⟩ := dr _ _ h n
    cases ro with
    | dT kv => exact .dcT (.inl ho) ((kv_to kv).1.trans hk) (FzAll.rp s dr f _ (kv_to kv).2)
  | _, _, .obj h n hk f, v, r => by
    cases r
    obtain ⟨o, ho, ro⟩ := dr _ _ h n
    cases ro with
    | ins kv => exact .obj ho ((kv_to kv).1.trans hk) (FzAll.rp s dr f _ (kv_to kv).2)
theorem FzAll.rp (s : F.le H0 H1) (dr : ∀ a mo, M a = some mo → M' a = none → ∃ o, H1.ice a = some o ∧ RpO K H0 mo o) : ∀ {l l' : List D}, FzAll M M' l l' → ∀ vs, RpAll K H0 vs l → RpAll K H1 vs l'
  | _, _, .nil, _, .nil => .nil
  | _, _, .cons h t, _, .cons r rs => .cons (Fz.rp s dr h _ r) (FzAll.rp s dr t _ rs)
end
end
def wFz (w : WE) : WE := fun Γ M post => w Γ M fun d M1 => ∃ (d' : D) (M2 : Mem), M2.le M1 ∧ Fz M1 M2 d d' ∧ post d' M2
theorem de_fz {X : Cx} {e : Expr} {we : WE} (he : DE X e we) : DE X e (wFz we) :=
  PE.weak he fun σ H Q h => up_bind (k := fun (d : D) _ (M1 : Mem) (post : WK) => ∃ (d' : D) (M2 : Mem), M2.le M1 ∧ Fz M1 M2 d d' ∧ post d' M2) h fun v d H1 H0 Γ M post f en r q p => by
    obtain ⟨d', M2, le, fz, q⟩ := q
    obtain ⟨H0', s, f', dr⟩ := f.drop le
    exact p v d' H1 H0' M2 q f' s (fz.rp s dr v r)
theorem Mem.del_same {M : Mem} {a : Addr} : M.del a a = none := by unfold Mem.del; rw [if_pos rfl]
theorem Mem.del_ne {M : Mem} {a b : Addr} (h : b ≠ a) : M.del a b = M b := by unfold Mem.del; rw [if_neg h]
end FD

namespace FD
open PySem PySem.Spec PyProof.Rows L2
theorem sSeq_e (t u : WS) : FD.sSeq t u = (fun E Γ M => t { E with nx := u E } Γ M : WS) := rfl
theorem sRet_e (w : WE) : FD.sRet w = (fun E Γ M => w Γ M E.rt : WS) := rfl
theorem sIf_e (t : WT) (u v : WS) : FD.sIf t u v = (fun E Γ M => t Γ M fun b M1 => if b = true then u E Γ M1 else v E Γ M1 : WS) := rfl
theorem sAsg_e (w : WE) (g : WG) : FD.sAsg w g = (fun E Γ M => w Γ M fun d M1 => g d Γ M1 E.nx : WS) := rfl
theorem gSet_e (i : Nat) : FD.gSet i = (fun d Γ M post => post (Γ.set i (some d)) M : WG) := rfl
theorem sDrop_e (w : WE) : FD.sDrop w = (fun E Γ M => w Γ M fun _ M1 => E.nx Γ M1 : WS) := rfl
theorem sNext_e : FD.sNext = (fun E Γ M => E.nx Γ M : WS) := rfl
theorem sPar_e (i j : Nat) (w : WA) : FD.sPar i j w = (fun E Γ M => w Γ M fun ds M1 => match ds with
  | [x, y] => E.nx ((Γ.set i (some x)).set j (some y)) M1
  | _ => False : WS) := rfl
theorem sPar3_e (i j l : Nat) (w : WA) : FD.sPar3 i j l w = (fun E Γ M => w Γ M fun ds M1 => match ds with
  | [x, y, z] => E.nx (((Γ.set i (some x)).set j (some y)).set l (some z)) M1
  | _ => False : WS) := rfl
theorem wIf_e (t : WT) (wa wb : WE) : FD.wIf t wa wb = (fun Γ M post => t Γ M fun c M1 => if c = true then wa Γ M1 post else wb Γ M1 post : WE) := rfl
theorem wOp_e (g : G2) (wa wb : WE) : FD.wOp g wa wb = (fun Γ M post => wa Γ M fun x M1 => wb Γ M1 fun y M2 => g M2 x y post : WE) := rfl
theorem wUn_e (g : G1) (wa : WE) : FD.wUn g wa = (fun Γ M post => wa Γ M fun x M1 => g M1 x post : WE) := rfl
theorem wVar_e (i : Nat) : FD.wVar i = (fun Γ M post => look Γ i fun d => post d M : WE) := rfl
theorem wC_e (d : D) : FD.wC d = (fun _ M post => post d M : WE) := rfl
theorem wTst_e (w : WE) : FD.wTst w = (fun Γ M post => w Γ M fun d M1 => isB d fun b => post b M1 : WT) := rfl
theorem wAnd_e (t u : WT) : FD.wAnd t u = (fun Γ M post => t Γ M fun c M1 => if c = true then u Γ M1 post else post false M1 : WT) := rfl
theorem wOr_e (t u : WT) : FD.wOr t u = (fun Γ M post => t Γ M fun c M1 => if c = true then post true M1 else u Γ M1 post : WT) := rfl
theorem wNot_e (t : WT) : FD.wNot t = (fun Γ M post => t Γ M fun c M1 => post (!c) M1 : WT) := rfl
theorem wAndV_e (wa wb : WE) : FD.wAndV wa wb = (fun Γ M post => wa Γ M fun d M1 => isB d fun c => if c = true then wb Γ M1 post else post (.bl false) M1 : WE) := rfl
theorem wOrV_e (wa wb : WE) : FD.wOrV wa wb = (fun Γ M post => wa Γ M fun d M1 => isB d fun c => if c = true then post (.bl true) M1 else wb Γ M1 post : WE) := rfl
theorem wNotV_e (wa : WE) : FD.wNotV wa = (fun Γ M post => wa Γ M fun d M1 => isB d fun c => post (.bl (!c)) M1 : WE) := rfl
theorem wChain_e (g g' : G2) (wa wb wc : WE) : FD.wChain g g' wa wb wc = (fun Γ M post => wa Γ M fun x M1 => wb Γ M1 fun y M2 => g M2 x y fun z M3 => isB z fun k => if k = true then wc Γ M3 fun u M4 => g' M4 y u post else post (.bl false) M3 : WE) := rfl
theorem aNil_e : FD.aNil = (fun _ M post => post [] M : WA) := rfl
theorem aCons_e (w : WE) (r : WA) : FD.aCons w r = (fun Γ M post => w Γ M fun d M1 => r Γ M1 fun ds M2 => post (d :: ds) M2 : WA) := rfl
theorem wTup_e (w : WA) : FD.wTup w = (fun Γ M post => w Γ M fun ds M1 => fitL ds ∧ post (.tup ds) M1 : WE) := rfl
theorem wLst_e (w : WA) : FD.wLst w = (fun Γ M post => w Γ M fun ds M1 => fitL ds ∧ post (.lst ds) M1 : WE) := rfl
theorem wFtp_e (w : WA) : FD.wFtp w = (fun Γ M post => w Γ M fun ds M1 => fitL ds ∧ post (.ftp ds) M1 : WE) := rfl
theorem wNew_e (w : WA) : FD.wNew w = (fun Γ M post => w Γ M fun ds M1 => fitL ds ∧ ∀ p, M1 p = none → post (.ptr p) (M1.upd p (.lst ds)) : WE) := rfl
theorem wCall_e (dsp : DSp) (w : WA) : FD.wCall dsp w = (fun Γ M post => w Γ M fun ds M1 => dsp ds M1 post : WE) := rfl
theorem wB_e (g : GA) (w : WA) : FD.wB g w = (fun Γ M post => w Γ M fun ds M1 => g M1 ds post : WE) := rfl
theorem wSl_e (g : GS) (w : WE) (wl wh : WO) : FD.wSl g w wl wh = (fun Γ M post => w Γ M fun d M1 => wl Γ M1 fun lo M2 => wh Γ M2 fun hi M3 => g M3 d lo hi post : WE) := rfl
theorem oSome_e (w : WE) : FD.oSome w = (fun Γ M post => w Γ M fun d M1 => isI d fun i => post (some i) M1 : WO) := rfl
theorem oNone_e : FD.oNone = (fun _ M post => post none M : WO) := rfl
theorem wIsi_e (T : String) (w : WE) : FD.wIsi T w = (fun Γ M post => w Γ M fun d M1 => got (tyN M1 d) fun t => post (.bl (isiT T t)) M1 : WE) := rfl
theorem wIsiC_e (C : Addr) (w : WE) : FD.wIsiC C w = (fun Γ M post => w Γ M fun d M1 => insR M1 C d fun _ => post (.bl true) M1 : WE) := rfl
theorem p1_e (f : D → Option D) : FD.p1 f = (fun M x post => got (f x) fun z => post z M : G1) := rfl
theorem p2_e (f : D → D → Option D) : FD.p2 f = (fun M x y post => got (f x y) fun z => post z M : G2) := rfl
theorem gLen_e : FD.gLen = (fun M ds post => one ds fun d => got (lenD M d) fun n => post (.int n) M : GA) := rfl
theorem iLst_e (w : WE) : FD.iLst w = (fun Γ M post => w Γ M fun d M1 => asL M1 d fun l G => post l G M1 : WI) := rfl
theorem iTup_e (w : WE) : FD.iTup w = (fun Γ M post => w Γ M fun d M1 => isT d fun l => post l noG M1 : WI) := rfl
theorem iStrD_e (w : WE) : FD.iStrD w = (fun Γ M post => w Γ M fun d M1 => isS d fun z => post (signs z) noG M1 : WI) := rfl
theorem iEnT_e (w : WA) : FD.iEnT w = (fun Γ M post => w Γ M fun ds M1 => one ds fun d => isT d fun l => post (enumD 0 l) noG M1 : WI) := rfl
theorem iEnL_e (w : WA) : FD.iEnL w = (fun Γ M post => w Γ M fun ds M1 => one ds fun d => match d with
  | .lst l => post (enumD 0 l) noG M1
  | _ => False : WI) := rfl
theorem iRng_e (w : WA) : FD.iRng w = (fun Γ M post => w Γ M fun ds M1 => match ds with
  | [.int j] => j ≤ 16777216 ∧ -16777216 ≤ j ∧ post (rng 0 j.toNat) noG M1
  | _ => False : WI) := rfl
theorem iRng2_e (w : WA) : FD.iRng2 w = (fun Γ M post => w Γ M fun ds M1 => match ds with
  | [.int i, .int j] => (j ≤ 16777216 ∧ -16777216 ≤ j ∧ i ≤ 16777216 ∧ 0 ≤ i) ∧ post (rng i (j - i).toNat) noG M1
  | _ => False : WI) := rfl
theorem gTup_e (n : Nat) (u : WGs) : FD.gTup n u = (fun d Γ M post => isT d fun l => l.length = n ∧ u l Γ M post : WG) := rfl
theorem gsNil_e : FD.gsNil = (fun ds Γ M post => ds = [] ∧ post Γ M : WGs) := rfl
theorem wM_e (ok : Mem → D → Prop) (g : GM) (wo : WE) (w : WA) : FD.wM ok g wo w = (fun Γ M post => wo Γ M fun d M1 => ok M1 d ∧ w Γ M1 fun ds M2 => g M2 d ds post : WE) := rfl
theorem wIxT_e (wo : WE) (w : WA) : FD.wIxT wo w = (fun Γ M post => wo Γ M fun d M1 => (∃ l, d = .ftp l) ∧ w Γ M1 fun ds M2 => gIndexT M2 d ds post : WE) := rfl
theorem wFld_e (C : Addr) (f : Str) (w : WE) : FD.wFld C f w = (fun Γ M post => w Γ M fun d M1 => insR M1 C d fun fs => got (fs.lookup f) fun v => post v M1 : WE) := rfl
theorem wMeth_e (C : Addr) (m : Str) (dsp : DSp) (wo : WE) (w : WA) : FD.wMeth C m dsp wo w = (fun Γ M post => wo Γ M fun d M1 => insR M1 C d fun fs => fs.lookup m = none ∧ w Γ M1 fun ds M2 => dsp (d :: ds) M2 post : WE) := rfl
theorem wMake_e (C : Addr) (dds : List D) (dsp : DSp) (w : WA) : FD.wMake C dds dsp w = (fun Γ M post => w Γ M fun ds M1 => ∀ a, M1 a = none → dsp (.ptr a :: (ds ++ dds)) (M1.upd a (.ins C [])) fun d M3 => d = .non ∧ post (.ptr a) M3 : WE) := rfl
theorem sFldD_e (C : Addr) (f : Str) (wo wv : WE) : FD.sFldD C f wo wv = (fun E Γ M => wv Γ M fun y M1 => wo Γ M1 fun d M2 => insOf M2 C d fun a fs => fs.length < 1000 ∧ E.nx Γ (M2.upd a (.ins C (putFD f y fs))) : WS) := rfl
theorem wDGet_e (wo wi : WE) : FD.wDGet wo wi = (fun Γ M post => wo Γ M fun d M1 => wi Γ M1 fun y M2 => dAt M2 d y fun r => got r fun z => post z M2 : WE) := rfl
theorem sDput_e (wo wi wv : WE) : FD.sDput wo wi wv = (fun E Γ M => wv Γ M fun z M1 => wo Γ M1 fun d M2 => wi Γ M2 fun y M3 => dPut M3 d y z fun M4 => E.nx Γ M4 : WS) := rfl
theorem wDNewK_e : FD.wDNewK = (fun _ M post => ∀ p, M p = none → post (.ptr p) (M.upd p (.dK [])) : WE) := rfl
theorem wDNewT_e : FD.wDNewT = (fun _ M post => ∀ p, M p = none → post (.ptr p) (M.upd p (.dT [])) : WE) := rfl
theorem wDisp1_e (emp : MO) (wk wv : WE) : FD.wDisp1 emp wk wv = (fun Γ M post => ∀ p, M p = none → wk Γ (M.upd p emp) fun y M1 => wv Γ M1 fun z M2 => dPut M2 (.ptr p) y z fun M3 => post (.ptr p) M3 : WE) := rfl
theorem wIce_e (w : WE) : FD.wIce w = (fun Γ M post => w Γ M fun d M1 => cell M1 d fun a l => post (.lst l) (M1.del a) : WE) := rfl
theorem gSub_e (wo wi : WE) : FD.gSub wo wi = (fun d Γ M post => wo Γ M fun x M1 => wi Γ M1 fun y M2 => isI y fun k => cell M2 x fun a l => got (ixN l.length k) fun j => post Γ (M2.upd a (.lst (l.set j d))) : WG) := rfl
theorem wCallK_e (dsp : DSp) (n m : Nat) (ix : List Nat) (w wk : WA) : FD.wCallK dsp n m ix w wk = (fun Γ M post => w Γ M fun ds M1 => wk Γ M1 fun es M2 => ds.length = n ∧ es.length = m ∧ dsp (pick ix (ds ++ es)) M2 post : WE) := rfl
theorem t1_e (i : Nat) : FD.t1 i = (fun d Γ post => post (Γ.set i (some d)) : GD) := rfl
theorem t2_e (i j : Nat) : FD.t2 i j = (fun d Γ post => isT d fun l => two l fun x y => post ((Γ.set i (some x)).set j (some y)) : GD) := rfl
theorem t1w_e (i j : Nat) : FD.t1w i j = (fun d Γ post => post ((Γ.set j none).set i (some d)) : GD) := rfl
theorem tYesD_e : FD.tYesD = (fun _ M post => post true M : WT) := rfl
theorem gDIn_e : FD.gDIn = (fun M y d post => dAt M d y fun r => post (.bl r.isSome) M : G2) := rfl
theorem gDNin_e : FD.gDNin = (fun M y d post => dAt M d y fun r => post (.bl (!r.isSome)) M : G2) := rfl
theorem gIndexT_e : FD.gIndexT = (fun M d ds post => one ds fun y => isS y fun z => match d with
  | .ftp l => got (txs l) fun ss => got (ss.findIdx? (· == z)) fun j => post (.int (j : Nat)) M
  | _ => False : GM) := rfl
theorem gIndex_e : FD.gIndex = (fun M d ds post => one ds fun y => isS y fun z => got (lstOf M d) fun l => got (txs l) fun ss => got (ss.findIdx? (· == z)) fun j => post (.int (j : Nat)) M : GM) := rfl
theorem gInt_e : FD.gInt = (fun M ds post => one ds fun d => match d with
  | .int i => post (.int i) M
  | .bl b => post (.int (if b then 1 else 0)) M
  | _ => False : GA) := rfl
theorem gAbs_e : FD.gAbs = (fun M ds post => one ds fun d => isI d fun i => post (.int (if i < 0 then -i else i)) M : GA) := rfl
theorem gMax_e : FD.gMax = (fun M ds post => two ds fun x y => isI x fun i => isI y fun j => post (.int (if j > i then j else i)) M : GA) := rfl
theorem gMin_e : FD.gMin = (fun M ds post => two ds fun x y => isI x fun i => isI y fun j => post (.int (if j < i then j else i)) M : GA) := rfl
theorem gDivmod_e : FD.gDivmod = (fun M ds post => two ds fun x y => isI x fun i => isI y fun j => (0 < j ∧ j < 1073741824) ∧ post (.tup [.int (i / j), .int (i % j)]) M : GA) := rfl
theorem wFz_e (w : WE) : FD.wFz w = (fun Γ M post => w Γ M fun d M1 => ∃ (d' : D) (M2 : Mem), M2.le M1 ∧ Fz M1 M2 d d' ∧ post d' M2 : WE) := rfl
end FD
namespace FD
open PySem PySem.Spec PyProof.Rows L2
theorem gsCons_e {t : WG} {u : WGs} {d : D} {r : List D} {Γ : Env} {M : Mem} {post : Env → Mem → Prop} : gsCons t u (d :: r) Γ M post = t d Γ M fun Γ' M' => u r Γ' M' post := rfl
theorem insR_obj {M : Mem} {C : Addr} {fs : List (Str × D)} {k : List (Str × D) → Prop} : insR M C (.obj C fs) k = k fs := by
  show (C = C ∧ k fs) = _
  simp
theorem insR_ptr {M : Mem} {C a : Addr} {fs : List (Str × D)} {k : List (Str × D) → Prop} (h : M a = some (.ins C fs)) : insR M C (.ptr a) k = k fs := by
  show (match M a with
    | some (.ins C' fs) => C' = C ∧ k fs
    | _ => False) = _
  rw [h]
  simp
theorem dAt_dcT {M : Mem} {l : List (List Key × D)} {y : D} {c : Option D → Prop} : dAt M (.dcT l) y c = got (keyT y) fun k => c (valD l k) := rfl
end FD

set_option maxHeartbeats 400000
namespace FD
open PySem PySem.Spec PyProof.Rows L2
def F.cut (h : F) (a : Addr) : F := fun b => if b = a then none else h b
theorem F.cut_same {h : F} {a : Addr} : h.cut a a = none := by unfold F.cut; rw [if_pos rfl]
theorem F.cut_ne {h : F} {a b : Addr} (n : b ≠ a) : h.cut a b = h b := by unfold F.cut; rw [if_neg n]
theorem cut_ice {H0 : F} {p : Addr} {o : HO} (h : H0 p = some (.res o)) : Same H0.ice (H0.cut p).ice := fun b u e => by
  have e := F.ice_of e
  have hb : b ≠ p := fun z => by rw [z, h] at e; cases e
  exact F.ice_eq (by rw [F.cut_ne hb]; exact e)
theorem Fr.release {K : PySem.W.Frag} {H : Hp} {H0 : F} {M : Mem} (f : Fr K H H0 M) {p : Addr} {xs : List V} {ds : List D} (h : H0 p = some (.res (.lst xs))) (ra : RpAll K H0 xs ds) (hz : ds.length ≤ sizeLine) : Fr K H (H0.cut p) (M.upd p (.lst ds)) := by
  have ic := cut_ice h
  refine ⟨fun b u e => ?_, fun b u e => ?_, fun a mo e => ?_⟩
  · have e := F.ice_of e
    have hb : b ≠ p := fun z => by rw [z, F.cut_same] at e; cases e
    rw [F.cut_ne hb] at e; exact f.sub b u (F.ice_eq e)
  · have hb : b ≠ p := fun z => by rw [z, F.cut_same] at e; cases e
    rw [F.cut_ne hb] at e; exact f.res b u e
  · by_cases ne : a = p
    · subst ne
      rw [Mem.upd_same] at e; cases e
      exact ⟨F.cut_same, _, (f.res _ _ h).1, .lst (ra.mono' ic) hz⟩
    · rw [Mem.upd_ne ne] at e
      obtain ⟨n0, u, e1, e2⟩ := f.mem a mo e
      exact ⟨by rw [F.cut_ne ne]; exact n0, u, e1, e2.mono' ic⟩
section
variable {X : Cx} {elt iter tg e : Expr} {ifs : List Expr} {scope : Scope} {pos : Pos} {wi : WI} {tt : WT} {te : WE}
def wLcN (wi : WI) (gd : GD) (tt : WT) (te : WE) : WE := fun Γ M post => wi Γ M fun items G M1 => ∃ Pv : Nat → List D → Mem → Prop, Pv 0 [] M1 ∧ (∀ i acc M', Pv i acc M' → G M') ∧
  (∀ i d acc M', items[i]? = some d → Pv i acc M' → gd d Γ fun Γ2 => tt Γ2 M' fun b M3 => if b = true then te Γ2 M3 fun y M4 => Pv (i + 1) (acc ++ [y]) M4 else Pv (i + 1) acc M3) ∧
  ∀ acc M', Pv items.length acc M' → ∀ p, M' p = none → post (.ptr p) (M'.upd p (.lst acc))
theorem up_lcN {g : TG} {gd : GD} {vs : List Nat} (tg : Tgt X.K g vs gd) {σ : L2.St} {H : Hp} {Q : VK} (h : up X.K (wLcN wi gd tt te) σ H Q) : tLc (upI X.K wi) g (upT X.K tt) (up X.K te) vs σ H Q := by
  obtain ⟨H0, Γ, M, post, f, en, hw, p⟩ := h
  refine ⟨H0, Γ, M, _, f, en, hw, fun items G J H1 H01 M1 q f1 s1 dw D hD => ?_⟩
  obtain ⟨Pv, h0, hG, hstep, hend⟩ := q
  obtain ⟨⟨Gv, Y, wk, gv, yl⟩, fit⟩ := dw
  have hD0 := (f1.fresh hD).1
  refine lc_it wk (fun i H' => ∃ H0' M' acc xs, Fr X.K H' H0' M' ∧ F.le H01 H0' ∧ H0' D = some (.res (.lst xs)) ∧ RpAll X.K H0' xs acc ∧ acc.length ≤ i ∧ Pv i acc M')
    ⟨H01.put D (.res (.lst [])), M1, [], [], f1.hold hD, F.le_put hD0, F.put_same, .nil, Nat.le_refl _, h0⟩ ?_ ?_ ?_
  · rintro i H' _ ⟨H0', M', acc, xs, f', s', hr, ra, hl, pv⟩
    exact gv H' H0' M' f' s'.ice (hG i acc M' pv)
  · rintro i x H' H'' hi ⟨H0', M', acc, xs, f', s', hr, ra, hl, pv⟩ y
    have hd : items[i]? = some items[i] := List.getElem?_eq_getElem hi
    obtain ⟨H0'', f'', s'', r⟩ := yl i H' x H'' H0' M' _ hd f' s'.ice (hG i acc M' pv) y
    refine tg.run x _ σ H'' H0'' M' Γ _ _ f'' ((en.mono s1).mono (s'.trans s'')) r (hstep i _ acc M' hd pv) fun σ2 Γ2 hw2 e2 q2 => ⟨hw2, H0'', Γ2, M', _, f'', e2, q2, fun b H3 H03 M3 q3 f3 s3 => ?_⟩
    have hr3 : H03 D = some (.res (.lst xs)) := s3 _ _ (s'' _ _ hr)
    have ra3 := (ra.mono s'').mono s3
    cases b with
    | false =>
      simp only [Bool.false_eq_true, if_false] at q3 ⊢
      exact ⟨H03, M3, acc, xs, f3, (s'.trans s'').trans s3, hr3, ra3, by omega, q3⟩
    | true =>
      simp only [if_true] at q3 ⊢
      refine ⟨H03, Γ2, M3, _, f3, e2.mono s3, q3, fun v d H4 H04 M4 q4 f4 s4 r4 => ?_⟩
      have hr4 : H04 D = some (.res (.lst xs)) := s4 _ _ hr3
      have ra4 := ra3.mono s4
      refine ⟨xs, (f4.res _ _ hr4).1, ?_, ?_⟩
      · rw [ra4.length]; omega
      · have ic := put_res_ice (o' := (xs ++ [v])) hr4
        refine ⟨H04.put D (.res (.lst (xs ++ [v]))), M4, acc ++ [d], xs ++ [v], f4.rehold hr4, ?_, F.put_same, ?_, ?_, q4⟩
        · intro b o eb
          have t := (((s'.trans s'').trans s3).trans s4) b o eb
          by_cases hb : b = D
          · subst hb; rw [hD0] at eb; cases eb
          · rw [F.put_ne hb]; exact t
        · exact (ra4.mono' ic).append (.cons (r4.mono' ic) .nil)
        · rw [List.length_append]; simp; exact hl
  · rintro H' ⟨H0', M', acc, xs, f', s', hr, ra, hl, pv⟩
    have mD : M' D = none := by
      cases q : M' D with
      | none => rfl
      | some mo => rw [(f'.mem D mo q).1] at hr; cases hr
    refine p _ _ H' (H0'.cut D) (M'.upd D (.lst acc)) (hend acc M' pv D mD) (f'.release hr ra (by omega)) (s1.trans ?_) (.ptr D)
    intro b o eb
    by_cases hb : b = D
    · subst hb; rw [hD0] at eb; cases eb
    · rw [F.cut_ne hb]; exact s' b o eb
theorem ds_setLcN {i : Nat} {y : Str} {py spos : Pos} {own : List (Str × Nat)} {g : TG} {gd : GD} (hc : X.calm = true) (hN : X.N.Nodup) (hi : DI X tg iter wi) (ok : BlkOk X.N X.env.scope scope own) (tgt : Tgt X.K g (own.map (·.2)) gd)
    (hg : ∀ (s : Shared) (H : Hp) (C : Addr) (cl : List (Str × Addr)) (fp : List Addr), PG (X.blk s H scope (compEnvC scope cl C X.env) fp) tg g) (ht : ∀ (s : Shared) (H : Hp) (C : Addr) (cl : List (Str × Addr)) (fp : List Addr), DTs (X.blk s H scope (compEnvC scope cl C X.env) fp) ifs tt)
    (he : ∀ (s : Shared) (H : Hp) (C : Addr) (cl : List (Str × Addr)) (fp : List Addr), DE (X.blk s H scope (compEnvC scope cl C X.env) fp) elt te)
    (hsw : swapsWith (.ListComp elt [⟨tg, iter, ifs, 0⟩] scope pos) (some (.Name y py)) spos.line X.env = pure true) (hy : X.N[i]? = some y := by rfl) (hyl : X.env.scope.names.lookup y = some .local := by rfl) (hs : ∀ x, foldedSetIterable iter X.env x = pure x := by intro _; rfl) :
    DS X (.Assign [.Name y py] (.ListComp elt [⟨tg, iter, ifs, 0⟩] scope pos) spos) (sAsg (wLcN wi gd tt te) (gSet i)) :=
  PS.weak (ps_setLc hc hN hy hyl hsw hi ok hg ht he hs) fun E σ H h => by
    obtain ⟨H0, Γ, M, post, f, e, hw, p⟩ := h
    exact up_lcN tgt ⟨H0, Γ, M, _, f, e, hw, fun v d H' H0' M' q f' s r => p.nx (σ.set i (some v)) (Γ.set i (some d)) H' H0' M' q f' s ((e.mono s).set i r)⟩
theorem wLcN_eq {gd : GD} : wLcN wi gd tt te = fun Γ M post => wi Γ M fun items G M1 => LcI items G gd tt te Γ M1 fun d M' => ∃ l, d = .lst l ∧ ∀ p, M' p = none → post (.ptr p) (M'.upd p (.lst l)) := by
  funext Γ M post
  unfold wLcN LcI
  simp only [D.lst.injEq, exists_eq_left']
end
end FD
namespace FD
open PySem PySem.Spec PyProof.Rows L2
section
variable {X : Cx}
def gJn : GM := fun M d ds post => one ds fun y => isS d fun sep => got (seqOf M y) fun l => got (txs l) fun ss => ((ss.map (·.length)).sum + ss.length * sep.length ≤ 16777216 ∧ sOk (Txt.join sep ss) = true) ∧ post (.str (Txt.join sep ss)) M
theorem m_join : MtR X "str.join" (rUM X.K gJn) := MtR.imp mt_join fun x xs H Q q => by
  obtain ⟨H0, M, d, ds, post, fr, rx, ra, w, p⟩ := q
  obtain ⟨y, rfl, w⟩ := one_of w
  obtain ⟨sep, rfl, w⟩ := isS_of w
  obtain ⟨l, hl, w⟩ := got_of w
  obtain ⟨ss, hs, ⟨hz, ok⟩, w⟩ := got_of w
  cases rx
  cases ra with
  | cons rv t =>
    cases t
    obtain ⟨a, ys, rfl, sq, h, _⟩ := seqOf_sq fr rv hl
    obtain ⟨rfl, _⟩ := txs_rp h hs
    exact ⟨sep, a, ss, rfl, rfl, sq, hz, p.now fr (.str _ ok) w⟩
end
end FD

set_option maxHeartbeats 2000000
namespace FD
open PySem PySem.Spec PyProof.Rows L2
section
variable {P : Program} {w : World} {K : PySem.W.Frag}
theorem ints_rp {H : F} : ∀ ns : List Int, RpAll K H (ns.map V.int) (ns.map D.int)
  | [] => .nil
  | n :: ns => .cons (.int n) (ints_rp ns)
theorem toSp_law {dsp : DSp} {H : Hp} {a : Addr} {ns : List Int} (sq : SqL K H a (ns.map V.int)) (hl : ns.length ≤ sizeLine) (hd : dsp [.scr (ns.map D.int)] (fun _ => none) fun d _ => d = .bl true) :
    toSp K dsp [.ref a] H fun v _ => v = .bl true := by
  let H0 : F := fun b => (H b).map RO.ice
  have e : H0.ice = H := by
    funext b
    show (match (H b).map RO.ice with
      | some (.ice o) => some o
      | _ => none) = H b
    cases H b <;> rfl
  refine ⟨H0, fun _ => none, [.scr (ns.map D.int)], _, ⟨by rw [e]; exact fun _ _ z => z, fun b o z => ?_, fun b mo z => by cases z⟩, .cons (.scr (by rw [e]; exact sq) (ints_rp ns) (by rw [List.length_map]; exact hl)) .nil, hd, fun v d H' H0' M' q f s r => ?_⟩
  · have z2 : (H b).map RO.ice = some (.res o) := z
    cases q : H b with
    | none => rw [q] at z2; cases z2
    | some u => rw [q] at z2; cases z2
  · subst q
    cases r
    rfl
variable {mg mb : Str → Option Value} {k : Nat} {fa a : Addr} {fd : FuncData} {x : Str} {dsp : DSp} {s1 : Shared} {vs : List Value} {ns : List Int}
theorem end_call (KX : K.In s1.heap) (gn : s1.heap.Ns mainGlobals mg) (bn : s1.heap.Ns builtinsNs mb) (bo : ∀ x : Str, x ≠ "__name__" → mb x = bootBuiltins x) (nl : s1.heap.NoLimit) (ge : s1.gens = #[])
    (at_ : s1.heap.get? a = some { cls := .type "list", data := .seq vs.toArray }) (is : IntsAre vs ns) (le : ns.length ≤ sizeLine) (room : Room k callerA)
    (F : ∀ base : Heap, K.In base → base.Ns mainGlobals mg → FnG P w K mg base k fa fd [x] dsp) (bd : ∀ (s : Shared) (u : Value), BindsTo s fd ⟨[u], []⟩ [(x, u)]) (hd : dsp [.scr (ns.map D.int)] (fun _ => none) fun d _ => d = .bl true) :
    codeAny (model P w) callerA (.call (.ref fa) ⟨[.ref a], []⟩) (fun r s2 => r = .ok (.ret (.bool true)) ∧ OldK s1.heap s2.heap ∧ s2.os = s1.os ∧ AllBare s2.gens) s1 := by
  have main : ∀ H : Hp, Only H → SqL K H a (ns.map V.int) → HOk P w H s1.heap → (∀ b u, H b = some u → b = a ∧ K.lookup a = none) →
      codeAny (model P w) callerA (.call (.ref fa) ⟨[.ref a], []⟩) (fun r s2 => r = .ok (.ret (.bool true)) ∧ OldK s1.heap s2.heap ∧ s2.os = s1.os ∧ AllBare s2.gens) s1 := by
    intro H only sq ok near
    have free : ∀ (b : Addr) (o : Obj), s1.heap.get? b = some o → (∀ es ep, o.data = .dict es ep → H b = none) := fun b o e es ep dd => by
      cases q : H b with
      | none => rfl
      | some u =>
        obtain ⟨rfl, _⟩ := near b u q
        rw [at_] at e
        cases e
        cases (show Data.seq vs.toArray _ = Data.dict es ep from dd)
    have spaces : ∀ {b : Addr} {m : Str → Option Value}, s1.heap.Ns b m → (hidT s1.heap H).Ns b m := fun {b m} n => by
      obtain ⟨o, es, ep, e, dd, r⟩ := n
      exact ⟨o, es, ep, hidT_get e (free b o e es ep dd), dd, r⟩
    have inn : K.In (hidT s1.heap H) := fun b o e => by
      refine hidT_get (KX b o e) ?_
      cases q : H b with
      | none => rfl
      | some u =>
        obtain ⟨rfl, z⟩ := near b u q
        rw [z] at e
        cases e
    obtain ⟨mc, l1, l2⟩ := nl
    have env : Env0 P w K mg (hidT s1.heap H) callerA [] s1 H :=
      { frames := rfl, mod := ⟨inn, spaces gn, ⟨mb, spaces bn, bo⟩, ⟨mc, spaces l1, l2⟩⟩, bs := fun b o e => of_hidT e, bsz := Nat.le_of_eq (hidT_size _ _), funs := trivial, frf := fun b m => (by cases (show b ∈ ([] : List Addr) from m)), hok := ok, bare := .of_eq ge }
    have go := (F _ inn (spaces gn)).go callerA [] s1 H ⟨[.ref a], []⟩ [.ref a] [.ref a] (fun v _ => v = .bl true) rfl room env (bd s1 (.ref a)) (.cons rfl .nil) (toSp_law sq le hd)
    refine codeAny_mono go fun r s2 h => ?_
    match r, h with
    | .ok (.ret u), h =>
      obtain ⟨v, H2, os, bare, un, ok2, rv, rfl⟩ := h
      cases (show u = Value.bool true from rv)
      refine ⟨rfl, OldK.of_keep fun b o e => ?_, os, bare⟩
      rcases only b with z | ⟨ob, xs, z⟩
      · exact un.keep b o e z (fun m => by cases (show b ∈ ([] : List Addr) from m)) (by simp)
      · obtain ⟨e1, _⟩ := ok b _ z
        obtain ⟨e2, _⟩ := ok2 b _ (un.frzs b ob _ z)
        rw [e] at e1
        cases e1
        exact e2
    | .ok .next, h => exact False.elim h
    | .ok .brk, h => exact False.elim h
    | .ok .cont, h => exact False.elim h
    | .error e, h => exact False.elim h
  have nums := vals_ints is
  have many := is.length
  cases q : K.lookup a with
  | some o =>
    have e := KX a o q
    rw [at_] at e
    cases e
    exact main (fun _ => none) (fun _ => .inl rfl) (.inr ⟨_, vs.toArray, _, q, rfl, rfl, rfl, by rw [List.size_toArray, many]; exact le, by simpa using nums⟩) (fun b u z => by cases z) (fun b u z => by cases z)
  | none =>
    let ob : Obj := { cls := .type "list", data := .seq vs.toArray }
    have one_ : ∀ (b : Addr) (u : HO), (if b = a then some (HO.frz ob (.lst (ns.map V.int))) else none) = some u → b = a ∧ u = HO.frz ob (.lst (ns.map V.int)) := fun b u z => by
      by_cases c : b = a
      · rw [if_pos c] at z; cases z; exact ⟨c, rfl⟩
      · rw [if_neg c] at z; cases z
    refine main (fun b => if b = a then some (HO.frz ob (.lst (ns.map V.int))) else none) (fun b => ?_) (.inl (.inr ⟨ob, if_pos rfl⟩)) (fun b u z => ?_) fun b u z => ⟨(one_ b u z).1, q⟩
    · by_cases c : b = a
      · exact .inr ⟨ob, ns.map V.int, if_pos c⟩
      · exact .inl (if_neg c)
    · obtain ⟨rfl, rfl⟩ := one_ b u z
      exact ⟨at_, by rw [List.length_map]; exact le, vs, _, nums, at_⟩
end
theorem Fng.atD {P : Program} {w : World} {K : PySem.W.Frag} {mg : Str → Option Value} {base : Heap} {k : Nat} {x : Str} {st : Stmt} {ps : List Str} {dsp : DSp} (F : Fng P w K mg base k x st ps dsp) {fd : FuncData} (D : FunD K x x (defArgs st) (defBody st) (defScope st) [] [] (He.ga K x) fd) : FnG P w K mg base k (He.ga K x) fd ps dsp := by
  obtain ⟨fd2, D2, G⟩ := F.ex
  obtain ⟨oc, od, dV, kV, doc, pm, an, cdv, ct, osl, rfl, lk, _, _, _⟩ := D.ex
  obtain ⟨oc2, od2, dV2, kV2, doc2, pm2, an2, cdv2, ct2, osl2, rfl, lk2, _, _, _⟩ := D2.ex
  rw [lk] at lk2
  simp only [Option.some.injEq, Obj.mk.injEq, Data.func.injEq] at lk2
  obtain ⟨_, _, e, _⟩ := lk2
  rw [e]
  exact G
theorem end_walk {l : PySem.W.OpenLaw} {n k : Nat} {q : Program} {loose : List Str} {XP : (Str → Option Value) → Heap → Prop} {YP : World → Heap → Prop} {d : DefRec} {x : Str} (most : l.most = some n) (small : n ≤ sizeLine) (nodf : d.params.defaults = []) (room : Room k callerA)
    (F : ∀ (w : World) (mg : Str → Option Value) (fa : Addr) (h : Heap), YP w h → h.Ns mainGlobals mg → mg d.name = some (.ref fa) → ∃ (K : PySem.W.Frag) (fd : FuncData) (dsp : DSp), K.In h ∧ (∀ (s : Shared) (u : Value), BindsTo s fd ⟨[u], []⟩ [(x, u)]) ∧
      (∀ ns : List Int, ns.length ≤ n → dsp [.scr (ns.map D.int)] (fun _ => none) fun d _ => d = .bl true) ∧ ∀ base : Heap, K.In base → base.Ns mainGlobals mg → FnG l.prog w K mg base k fa fd [x] dsp) :
    PySem.W.WalkO q loose XP YP l.row.toRowW d [] (fun f vs => PySem.call f vs) :=
  Att.attach_call most nodf fun w s0 s1 mg mb fa o pm cd doc a vs ns G Y h1 h2 h3 named obj nums len gens => by
    obtain ⟨K, fd, dsp, inn, bd, sp, G2⟩ := F w mg fa _ Y G.T.g named
    exact end_call inn G.T.g G.T.b G.T.builtins G.T.nolimit gens obj nums (Nat.le_trans len small) room G2 bd (sp ns len)
end FD

set_option maxHeartbeats 1000000
namespace FM
open PySem PySem.Spec PyProof.Rows L2 FD
def sg (b : Bool) : Str := if b then "+" else "-"
def sgc (b : Bool) : Nat := if b then 43 else 45
structure Lit where
  n : Str
  s : Bool
deriving DecidableEq
def Lit.op (a : Lit) : Lit := ⟨a.n, !a.s⟩
inductive Rule where
  | be (a : Lit)
  | either (a b : Lit)
  | needs (a b : Lit)
  | bars (a b : Lit)
  | same (f : Bool) (x y : Str)
  | unlike (f : Bool) (x y : Str)
deriving DecidableEq
def tp (f : Bool) (l : List D) : D := if f then .ftp l else .tup l
def litD (a : Lit) : D := .tup [.str a.n, .str (sg a.s)]
def ruleD : Rule → D
  | .be a => .tup [.str "be", litD a]
  | .either a b => .tup [.str "either", litD a, litD b]
  | .needs a b => .tup [.str "needs", litD a, litD b]
  | .bars a b => .tup [.str "bars", litD a, litD b]
  | .same f x y => tp f [.str "same", .str x, .str y]
  | .unlike f x y => tp f [.str "unlike", .str x, .str y]
def words : List Str := ["be", "either", "needs", "bars", "same", "unlike"]
def letters : Str := "abcdefghijklmnopqrstuvwxyz"
def nameOk (s : Str) : Bool := decide (1 ≤ s.length) && decide (s.length ≤ 8) && !decide (s ∈ words) && s.cps.toList.all fun c => decide (c ∈ letters.cps.toList)
def litOk (ss : List Str) (a : Lit) : Bool := decide (a.n ∈ ss)
def ruleOk (ss : List Str) : Rule → Bool
  | .be a => litOk ss a
  | .either a b => litOk ss a && litOk ss b && !decide (a.n = b.n)
  | .needs a b => litOk ss a && litOk ss b && !decide (a.n = b.n)
  | .bars a b => litOk ss a && litOk ss b && !decide (a.n = b.n)
  | .same _ x y => decide (x ∈ ss) && decide (y ∈ ss) && !decide (x = y)
  | .unlike _ x y => decide (x ∈ ss) && decide (y ∈ ss) && !decide (x = y)
def clauses : Rule → List (Lit × Lit)
  | .be a => [(a, a)]
  | .either a b => [(a, b)]
  | .needs a b => [(a.op, b)]
  | .bars a b => [(a.op, b.op)]
  | .same _ x y => [(⟨x, false⟩, ⟨y, true⟩), (⟨x, true⟩, ⟨y, false⟩)]
  | .unlike _ x y => [(⟨x, true⟩, ⟨y, true⟩), (⟨x, false⟩, ⟨y, false⟩)]
def clD (c : Lit × Lit) : D := .tup [litD c.1, litD c.2]
def steps1 (c : Lit × Lit) : List (Lit × Lit) := if c.1 = c.2 then [(c.1.op, c.2)] else [(c.1.op, c.2), (c.2.op, c.1)]
def steps (r : Rule) : List (Lit × Lit) := (clauses r).flatMap steps1
def lits (ss : List Str) : List Lit := ss.flatMap fun x => [⟨x, true⟩, ⟨x, false⟩]
def optD : Option Nat → D
  | none => .non
  | some i => .int i
def setS (t : List Bool) : Str := ⟨(t.map sgc).toArray⟩
def setD (t : List Bool) : D := .str (setS t)
abbrev strsF (ss : List Str) : D := .ftp (ss.map D.str)
abbrev strsL (ss : List Str) : D := .lst (ss.map D.str)
section
variable {M : Mem} {f : Bool} {l : List D} {i : Int} {post : WK}
theorem ix_tp : gIx M (tp f l) (.int i) post = got (atI l i) fun d => post d M := by cases f <;> rfl
theorem len_tp : lenD M (tp f l) = some (l.length : Int) := by cases f <;> rfl
theorem ty_tp : tyN M (tp f l) = some "tuple" := by cases f <;> rfl
theorem isT_tp {k : List D → Prop} : isT (tp f l) k = k l := by cases f <;> rfl
theorem seq_tp : seqOf M (tp f l) = some l := by cases f <;> rfl
theorem dp_tp : (tp f l).dp = dpAll l + 1 := by cases f <;> simp [tp, D.dp]
theorem tp_f : tp false l = .tup l := rfl
theorem tp_t : tp true l = .ftp l := rfl
theorem tp_inj {g : Bool} {m : List D} : tp f l = tp g m ↔ f = g ∧ l = m := by cases f <;> cases g <;> simp [tp]
end
inductive Fg where
  | f
  | t
  | k
deriving DecidableEq
def tq (f : Fg) (l : List D) : D := match f with
  | .f => .tup l
  | .t => .ftp l
  | .k => .ktp l
section
variable {M : Mem} {f : Fg} {l : List D} {i : Int} {post : WK}
theorem ix_tq : gIx M (tq f l) (.int i) post = got (atI l i) fun d => post d M := by cases f <;> rfl
theorem len_tq : lenD M (tq f l) = some (l.length : Int) := by cases f <;> rfl
theorem ty_tq : tyN M (tq f l) = some "tuple" := by cases f <;> rfl
theorem tup_tq : tupOf (tq f l) = some l := by cases f <;> rfl
theorem isT_tq {k : List D → Prop} : isT (tq f l) k = k l := by cases f <;> rfl
theorem seq_tq : seqOf M (tq f l) = some l := by cases f <;> rfl
theorem dp_tq : (tq f l).dp = dpAll l + 1 := by cases f <;> simp [tq, D.dp]
theorem py_tq : (tq f l).py = .tuple (pyAll l) := by cases f <;> simp [tq, D.py]
theorem tq_f : tq .f l = .tup l := rfl
theorem tq_t : tq .t l = .ftp l := rfl
theorem tq_inj {g : Fg} {m : List D} : tq f l = tq g m ↔ f = g ∧ l = m := by cases f <;> cases g <;> simp [tq]
end
section
variable {α β : Type}
theorem tk_fm {l : List α} {i : Nat} {x : α} {g : α → List β} (h : l[i]? = some x) : (l.take (i + 1)).flatMap g = (l.take i).flatMap g ++ g x := by
  rw [List.take_succ, h]; simp
theorem tk_one {l : List α} {i : Nat} {x : α} (h : l[i]? = some x) : l.take (i + 1) = l.take i ++ [x] := by
  rw [List.take_succ, h]; simp
theorem map_at {l : List α} {i : Nat} {g : α → β} {d : β} (h : (l.map g)[i]? = some d) : ∃ x, l[i]? = some x ∧ d = g x := by
  rw [List.getElem?_map] at h
  cases e : l[i]? with
  | none => rw [e] at h; cases h
  | some x => rw [e] at h; cases h; exact ⟨x, rfl, rfl⟩
end
theorem sg_eq (b : Bool) : sg b = ⟨#[sgc b]⟩ := by cases b <;> decide +kernel
theorem sgc_inj {a b : Bool} : sgc a = sgc b ↔ a = b := by cases a <;> cases b <;> simp [sgc]
theorem sg_inj {a b : Bool} : sg a = sg b ↔ a = b := by rw [sg_eq, sg_eq]; simp [sgc_inj]
theorem pm_cps : (Str.ofString "+-").cps.toList = [43, 45] := by decide +kernel
theorem signs_pm : FD.signs "+-" = [D.str (sg true), D.str (sg false)] := by
  unfold FD.signs; rw [pm_cps, sg_eq, sg_eq]; rfl
theorem setS_len (t : List Bool) : (setS t).length = t.length := by simp [setS, Str.length]
theorem setS_cps (t : List Bool) : (setS t).cps.toList = t.map sgc := by simp [setS]
theorem map_sgc_inj : ∀ {t u : List Bool}, t.map sgc = u.map sgc → t = u
  | [], [], _ => rfl
  | [], _ :: _, h => by cases h
  | _ :: _, [], h => by cases h
  | a :: t, b :: u, h => by
    simp only [List.map_cons, List.cons.injEq] at h
    rw [sgc_inj.mp h.1, map_sgc_inj h.2]
theorem setS_inj {t u : List Bool} : setS t = setS u ↔ t = u := by
  refine ⟨fun h => ?_, fun h => by rw [h]⟩
  have e := congrArg (fun s : Str => s.cps.toList) h
  simp only [setS_cps] at e
  exact map_sgc_inj e
theorem setS_app (t u : List Bool) : setS t ++ setS u = setS (t ++ u) := by
  show (⟨(setS t).cps ++ (setS u).cps⟩ : Str) = _
  simp [setS]
theorem setS_one (b : Bool) : sg b = setS [b] := by rw [sg_eq]; rfl
theorem setS_ok {t : List Bool} (h : t.length ≤ 16777216) : sOk (setS t) = true := by
  refine sOk_of ?_ fun c hc => ?_
  · have := setS_len t; unfold Str.length at this; omega
  · rw [setS_cps] at hc
    obtain ⟨b, _, rfl⟩ := List.mem_map.mp hc
    cases b <;> simp [sgc]
theorem setD_inj {t u : List Bool} : setD t = setD u ↔ t = u := by unfold setD; rw [D.str.injEq, setS_inj]
theorem ix_set {M : Mem} {t : List Bool} {i : Nat} {b : Bool} {post : WK} (h : t[i]? = some b) : gIx M (setD t) (.int (i : Int)) post = post (.str (sg b)) M := by
  have e : atI (setS t).cps.toList (i : Int) = some (sgc b) := atI_nat (by rw [setS_cps, List.getElem?_map, h]; rfl)
  show got (atI (setS t).cps.toList (i : Int)) (fun c => post (.str ⟨#[c]⟩) M) = _
  rw [e, sg_eq]
  rfl
theorem cutS_take {s : Str} {k : Nat} : cutS s none (some (k : Int)) = ⟨(s.cps.toList.take k).toArray⟩ := by
  unfold cutS
  rw [HT.sIx_nat, HT.sIx_none]
  congr 2
  rw [List.drop_zero, Nat.sub_zero]
  have : s.length = s.cps.toList.length := by simp [Str.length]
  rw [this]
  by_cases h : k ≤ s.cps.toList.length
  · rw [Nat.min_eq_left h]
  · rw [Nat.min_eq_right (by omega), List.take_length, List.take_of_length_le (by omega)]
theorem cutS_drop {s : Str} {k : Nat} : cutS s (some (k : Int)) none = ⟨(s.cps.toList.drop k).toArray⟩ := by
  unfold cutS
  rw [HT.sIx_nat, HT.sIx_none]
  congr 2
  have : s.length = s.cps.toList.length := by simp [Str.length]
  rw [this]
  by_cases h : k ≤ s.cps.toList.length
  · rw [Nat.min_eq_left h, List.take_of_length_le (by simp)]
  · rw [Nat.min_eq_right (by omega)]
    rw [List.drop_of_length_le (Nat.le_refl _), List.drop_of_length_le (by omega)]
    simp
theorem sl_str {M : Mem} {s : Str} {lo hi : Option Int} {post : WK} : gSlice M (.str s) lo hi post = post (.str (cutS s lo hi)) M := rfl
theorem sl_set {M : Mem} {t : List Bool} {lo hi : Option Int} {post : WK} : gSlice M (setD t) lo hi post = post (.str (cutS (setS t) lo hi)) M := rfl
def flip (t : List Bool) (k : Nat) : List Bool := t.take k ++ [!(t.getD k false)] ++ t.drop (k + 1)
theorem flip_len {t : List Bool} {k : Nat} (h : k < t.length) : (flip t k).length = t.length := by unfold flip; simp; omega
theorem eqd_lit {a b : Lit} : eqd (litD a) (litD b) = decide (a = b) := by
  have ne : ((Str.ofString "+") == (Str.ofString "-")) = false := by decide +kernel
  have ne2 : ((Str.ofString "-") == (Str.ofString "+")) = false := by decide +kernel
  obtain ⟨n, s⟩ := a
  obtain ⟨m, t⟩ := b
  cases s <;> cases t <;> simp [eqd, litD, sg, D.py, pyAll, PyData.eqv, PyData.eqvAll, ne, ne2, Bool.beq_eq_decide_eq]
theorem litD_inj {a b : Lit} : litD a = litD b ↔ a = b := by
  obtain ⟨n, s⟩ := a
  obtain ⟨m, t⟩ := b
  simp [litD, sg_inj]
theorem clD_inj {a b : Lit × Lit} : clD a = clD b ↔ a = b := by
  obtain ⟨x, y⟩ := a
  obtain ⟨z, u⟩ := b
  simp [clD, litD_inj]
theorem nq_0_1 : (Str.ofString "be" = Str.ofString "either") = False := eq_false (by decide +kernel)
theorem nq_0_2 : (Str.ofString "be" = Str.ofString "needs") = False := eq_false (by decide +kernel)
theorem nq_0_3 : (Str.ofString "be" = Str.ofString "bars") = False := eq_false (by decide +kernel)
theorem nq_0_4 : (Str.ofString "be" = Str.ofString "same") = False := eq_false (by decide +kernel)
theorem nq_0_5 : (Str.ofString "be" = Str.ofString "unlike") = False := eq_false (by decide +kernel)
theorem nq_0_6 : (Str.ofString "be" = Str.ofString "+") = False := eq_false (by decide +kernel)
theorem nq_0_7 : (Str.ofString "be" = Str.ofString "-") = False := eq_false (by decide +kernel)
theorem nq_1_0 : (Str.ofString "either" = Str.ofString "be") = False := eq_false (by decide +kernel)
theorem nq_1_2 : (Str.ofString "either" = Str.ofString "needs") = False := eq_false (by decide +kernel)
theorem nq_1_3 : (Str.ofString "either" = Str.ofString "bars") = False := eq_false (by decide +kernel)
theorem nq_1_4 : (Str.ofString "either" = Str.ofString "same") = False := eq_false (by decide +kernel)
theorem nq_1_5 : (Str.ofString "either" = Str.ofString "unlike") = False := eq_false (by decide +kernel)
theorem nq_1_6 : (Str.ofString "either" = Str.ofString "+") = False := eq_false (by decide +kernel)
theorem nq_1_7 : (Str.ofString "either" = Str.ofString "-") = False := eq_false (by decide +kernel)
theorem nq_2_0 : (Str.ofString "needs" = Str.ofString "be") = False := eq_false (by decide +kernel)
theorem nq_2_1 : (Str.ofString "needs" = Str.ofString "either") = False := eq_false (by decide +kernel)
theorem nq_2_3 : (Str.ofString "needs" = Str.ofString "bars") = False := eq_false (by decide +kernel)
theorem nq_2_4 : (Str.ofString "needs" = Str.ofString "same") = False := eq_false (by decide +kernel)
theorem nq_2_5 : (Str.ofString "needs" = Str.ofString "unlike") = False := eq_false (by decide +kernel)
theorem nq_2_6 : (Str.ofString "needs" = Str.ofString "+") = False := eq_false (by decide +kernel)
theorem nq_2_7 : (Str.ofString "needs" = Str.ofString "-") = False := eq_false (by decide +kernel)
theorem nq_3_0 : (Str.ofString "bars" = Str.ofString "be") = False := eq_false (by decide +kernel)
theorem nq_3_1 : (Str.ofString "bars" = Str.ofString "either") = False := eq_false (by decide +kernel)
theorem nq_3_2 : (Str.ofString "bars" = Str.ofString "needs") = False := eq_false (by decide +kernel)
theorem nq_3_4 : (Str.ofString "bars" = Str.ofString "same") = False := eq_false (by decide +kernel)
theorem nq_3_5 : (Str.ofString "bars" = Str.ofString "unlike") = False := eq_false (by decide +kernel)
theorem nq_3_6 : (Str.ofString "bars" = Str.ofString "+") = False := eq_false (by decide +kernel)
theorem nq_3_7 : (Str.ofString "bars" = Str.ofString "-") = False := eq_false (by decide +kernel)
theorem nq_4_0 : (Str.ofString "same" = Str.ofString "be") = False := eq_false (by decide +kernel)
theorem nq_4_1 : (Str.ofString "same" = Str.ofString "either") = False := eq_false (by decide +kernel)
theorem nq_4_2 : (Str.ofString "same" = Str.ofString "needs") = False := eq_false (by decide +kernel)
theorem nq_4_3 : (Str.ofString "same" = Str.ofString "bars") = False := eq_false (by decide +kernel)
theorem nq_4_5 : (Str.ofString "same" = Str.ofString "unlike") = False := eq_false (by decide +kernel)
theorem nq_4_6 : (Str.ofString "same" = Str.ofString "+") = False := eq_false (by decide +kernel)
theorem nq_4_7 : (Str.ofString "same" = Str.ofString "-") = False := eq_false (by decide +kernel)
theorem nq_5_0 : (Str.ofString "unlike" = Str.ofString "be") = False := eq_false (by decide +kernel)
theorem nq_5_1 : (Str.ofString "unlike" = Str.ofString "either") = False := eq_false (by decide +kernel)
theorem nq_5_2 : (Str.ofString "unlike" = Str.ofString "needs") = False := eq_false (by decide +kernel)
theorem nq_5_3 : (Str.ofString "unlike" = Str.ofString "bars") = False := eq_false (by decide +kernel)
theorem nq_5_4 : (Str.ofString "unlike" = Str.ofString "same") = False := eq_false (by decide +kernel)
theorem nq_5_6 : (Str.ofString "unlike" = Str.ofString "+") = False := eq_false (by decide +kernel)
theorem nq_5_7 : (Str.ofString "unlike" = Str.ofString "-") = False := eq_false (by decide +kernel)
theorem nq_6_0 : (Str.ofString "+" = Str.ofString "be") = False := eq_false (by decide +kernel)
theorem nq_6_1 : (Str.ofString "+" = Str.ofString "either") = False := eq_false (by decide +kernel)
theorem nq_6_2 : (Str.ofString "+" = Str.ofString "needs") = False := eq_false (by decide +kernel)
theorem nq_6_3 : (Str.ofString "+" = Str.ofString "bars") = False := eq_false (by decide +kernel)
theorem nq_6_4 : (Str.ofString "+" = Str.ofString "same") = False := eq_false (by decide +kernel)
theorem nq_6_5 : (Str.ofString "+" = Str.ofString "unlike") = False := eq_false (by decide +kernel)
theorem nq_6_7 : (Str.ofString "+" = Str.ofString "-") = False := eq_false (by decide +kernel)
theorem nq_7_0 : (Str.ofString "-" = Str.ofString "be") = False := eq_false (by decide +kernel)
theorem nq_7_1 : (Str.ofString "-" = Str.ofString "either") = False := eq_false (by decide +kernel)
theorem nq_7_2 : (Str.ofString "-" = Str.ofString "needs") = False := eq_false (by decide +kernel)
theorem nq_7_3 : (Str.ofString "-" = Str.ofString "bars") = False := eq_false (by decide +kernel)
theorem nq_7_4 : (Str.ofString "-" = Str.ofString "same") = False := eq_false (by decide +kernel)
theorem nq_7_5 : (Str.ofString "-" = Str.ofString "unlike") = False := eq_false (by decide +kernel)
theorem nq_7_6 : (Str.ofString "-" = Str.ofString "+") = False := eq_false (by decide +kernel)
theorem tp_ne {f : Bool} {l m : List D} (h : l ≠ m) : tp f l ≠ .tup m := by cases f <;> simp [tp, h]
theorem ne_tp {f : Bool} {l m : List D} (h : m ≠ l) : D.tup m ≠ tp f l := by cases f <;> simp [tp, h]
theorem ruleD_inj {a b : Rule} : ruleD a = ruleD b ↔ a = b := by
  have sn : ∀ {x y : String} {l m : List D}, (Str.ofString x = Str.ofString y) = False → (D.str (Str.ofString x) :: l) ≠ (D.str (Str.ofString y) :: m) := fun h e => by
    simp only [List.cons.injEq, D.str.injEq] at e
    rw [h] at e; exact e.1
  cases a <;> cases b <;> simp only [ruleD, tp_inj, litD_inj, D.tup.injEq, List.cons.injEq, D.str.injEq, true_and, and_true, Rule.be.injEq, Rule.either.injEq, Rule.needs.injEq, Rule.bars.injEq, Rule.same.injEq, Rule.unlike.injEq, reduceCtorEq, iff_false, nq_0_1, nq_0_2, nq_0_3, nq_0_4, nq_0_5, nq_0_6, nq_0_7, nq_1_0, nq_1_2, nq_1_3, nq_1_4, nq_1_5, nq_1_6, nq_1_7, nq_2_0, nq_2_1, nq_2_3, nq_2_4, nq_2_5, nq_2_6, nq_2_7, nq_3_0, nq_3_1, nq_3_2, nq_3_4, nq_3_5, nq_3_6, nq_3_7, nq_4_0, nq_4_1, nq_4_2, nq_4_3, nq_4_5, nq_4_6, nq_4_7, nq_5_0, nq_5_1, nq_5_2, nq_5_3, nq_5_4, nq_5_6, nq_5_7, nq_6_0, nq_6_1, nq_6_2, nq_6_3, nq_6_4, nq_6_5, nq_6_7, nq_7_0, nq_7_1, nq_7_2, nq_7_3, nq_7_4, nq_7_5, nq_7_6, false_and, not_false_eq_true, and_false]
  all_goals (refine fun e => absurd e ?_; first | exact tp_ne (sn (by first | exact nq_0_1 | exact nq_0_2 | exact nq_0_3 | exact nq_0_4 | exact nq_0_5 | exact nq_0_6 | exact nq_0_7 | exact nq_1_0 | exact nq_1_2 | exact nq_1_3 | exact nq_1_4 | exact nq_1_5 | exact nq_1_6 | exact nq_1_7 | exact nq_2_0 | exact nq_2_1 | exact nq_2_3 | exact nq_2_4 | exact nq_2_5 | exact nq_2_6 | exact nq_2_7 | exact nq_3_0 | exact nq_3_1 | exact nq_3_2 | exact nq_3_4 | exact nq_3_5 | exact nq_3_6 | exact nq_3_7 | exact nq_4_0 | exact nq_4_1 | exact nq_4_2 | exact nq_4_3 | exact nq_4_5 | exact nq_4_6 | exact nq_4_7 | exact nq_5_0 | exact nq_5_1 | exact nq_5_2 | exact nq_5_3 | exact nq_5_4 | exact nq_5_6 | exact nq_5_7 | exact nq_6_0 | exact nq_6_1 | exact nq_6_2 | exact nq_6_3 | exact nq_6_4 | exact nq_6_5 | exact nq_6_7 | exact nq_7_0 | exact nq_7_1 | exact nq_7_2 | exact nq_7_3 | exact nq_7_4 | exact nq_7_5 | exact nq_7_6)) | exact ne_tp (sn (by first | exact nq_0_1 | exact nq_0_2 | exact nq_0_3 | exact nq_0_4 | exact nq_0_5 | exact nq_0_6 | exact nq_0_7 | exact nq_1_0 | exact nq_1_2 | exact nq_1_3 | exact nq_1_4 | exact nq_1_5 | exact nq_1_6 | exact nq_1_7 | exact nq_2_0 | exact nq_2_1 | exact nq_2_3 | exact nq_2_4 | exact nq_2_5 | exact nq_2_6 | exact nq_2_7 | exact nq_3_0 | exact nq_3_1 | exact nq_3_2 | exact nq_3_4 | exact nq_3_5 | exact nq_3_6 | exact nq_3_7 | exact nq_4_0 | exact nq_4_1 | exact nq_4_2 | exact nq_4_3 | exact nq_4_5 | exact nq_4_6 | exact nq_4_7 | exact nq_5_0 | exact nq_5_1 | exact nq_5_2 | exact nq_5_3 | exact nq_5_4 | exact nq_5_6 | exact nq_5_7 | exact nq_6_0 | exact nq_6_1 | exact nq_6_2 | exact nq_6_3 | exact nq_6_4 | exact nq_6_5 | exact nq_6_7 | exact nq_7_0 | exact nq_7_1 | exact nq_7_2 | exact nq_7_3 | exact nq_7_4 | exact nq_7_5 | exact nq_7_6)))
theorem map_inj {α β : Type} {f : α → β} (h : ∀ {a b}, f a = f b ↔ a = b) : ∀ {l m : List α}, l.map f = m.map f ↔ l = m
  | [], [] => by simp
  | [], _ :: _ => by simp
  | _ :: _, [] => by simp
  | a :: l, b :: m => by rw [List.map_cons, List.map_cons, List.cons.injEq, List.cons.injEq, h, map_inj h]
theorem strs_inj {l m : List Str} : l.map D.str = m.map D.str ↔ l = m := map_inj fun {a b} => by rw [D.str.injEq]
theorem lits_inj {l m : List Lit} : l.map litD = m.map litD ↔ l = m := map_inj litD_inj
theorem rules_inj {l m : List Rule} : l.map ruleD = m.map ruleD ↔ l = m := map_inj ruleD_inj
theorem sets_inj {l m : List (List Bool)} : l.map setD = m.map setD ↔ l = m := map_inj setD_inj
theorem inL_strs {ss : List Str} {x : Str} : inL (ss.map D.str) (.str x) = decide (x ∈ ss) := by
  induction ss with
  | nil => rfl
  | cons s ss ih =>
    unfold inL at ih ⊢
    rw [List.map_cons, List.any_cons, ih, eqd_str]
    by_cases h : s = x
    · subst h; simp
    · have h2 : ¬ x = s := fun z => h z.symm
      simp [h, h2]
theorem flatSs (ss : List Str) : (ss.map D.str).all flatD = true := by
  rw [List.all_eq_true]
  intro d hd
  obtain ⟨s, _, rfl⟩ := List.mem_map.mp hd
  rfl
theorem inL_sets {ss : List (List Bool)} {x : List Bool} : inL (ss.map setD) (setD x) = decide (x ∈ ss) := by
  have e : ss.map setD = (ss.map setS).map D.str := by rw [List.map_map]; rfl
  rw [e]
  show inL _ (.str (setS x)) = _
  rw [inL_strs]
  refine decide_eq_decide.mpr ?_
  rw [List.mem_map]
  exact ⟨fun ⟨y, hy, e⟩ => setS_inj.mp e ▸ hy, fun h => ⟨x, h, rfl⟩⟩
theorem flatSets (ss : List (List Bool)) : (ss.map setD).all flatD = true := by
  rw [List.all_eq_true]
  intro d hd
  obtain ⟨s, _, rfl⟩ := List.mem_map.mp hd
  rfl
theorem flat_set {t : List Bool} : flatD (setD t) = true := rfl
theorem bools_mapf {α : Type} (l : List α) (g : α → Bool) : bools (l.map fun x => D.bl (g x)) = some (l.map g) := by
  have := bools_map (l.map g)
  rwa [List.map_map] at this
theorem all_map {α : Type} (l : List α) (g : α → Bool) : (l.map g).all id = l.all g := by
  induction l with
  | nil => rfl
  | cons x l ih => simp [ih]
theorem any_map {α : Type} (l : List α) (g : α → Bool) : (l.map g).any id = l.any g := by
  induction l with
  | nil => rfl
  | cons x l ih => simp [ih]
theorem tw : (2 ≤ 16777216) = True := by simp
theorem tw3 : (3 ≤ 16777216) = True := by simp
theorem enumD_map {α : Type} {f : α → D} : ∀ {l : List α} {k : Nat}, enumD k (l.map f) = (l.zipIdx k).map fun p => D.tup [.int (p.2 : Int), f p.1]
  | [], k => by simp [enumD]
  | a :: l, k => by
    rw [List.map_cons, List.zipIdx_cons, List.map_cons]
    show _ :: _ = _
    rw [enumD_map (l := l) (k := k + 1)]
theorem find_idx {ss : List Str} {x : Str} (h : x ∈ ss) : ss.findIdx? (· == x) = some (ss.idxOf x) := by
  induction ss with
  | nil => cases h
  | cons s ss ih =>
    rw [List.findIdx?_cons, List.idxOf_cons]
    by_cases e : s = x
    · simp [e]
    · have hx : x ∈ ss := by
        rcases List.mem_cons.mp h with q | q
        · exact absurd q.symm e
        · exact q
      have e2 : (s == x) = false := by simp [e]
      simp [e, e2, ih hx]
end FM

namespace FM
open PySem
def val (ss : List Str) (t : List Bool) (n : Str) : Bool := t.getD (ss.idxOf n) false
def hasL (ss : List Str) (t : List Bool) (a : Lit) : Bool := val ss t a.n == a.s
def keepsC (ss : List Str) (t : List Bool) (c : Lit × Lit) : Bool := hasL ss t c.1 || hasL ss t c.2
def keepsR (ss : List Str) (t : List Bool) (r : Rule) : Bool := (clauses r).all (keepsC ss t)
def good (ss : List Str) (rs : List Rule) (t : List Bool) : Bool := rs.all (keepsR ss t)
theorem op_op (a : Lit) : a.op.op = a := by cases a; simp [Lit.op]
theorem op_inj {a b : Lit} (h : a.op = b.op) : a = b := by rw [← op_op a, h, op_op]
theorem lit_cases {a b : Lit} (h : a.n = b.n) : a = b ∨ a = b.op := by
  obtain ⟨n, s⟩ := a
  obtain ⟨m, t⟩ := b
  cases h
  cases s <;> cases t <;> simp [Lit.op]
theorem has_op {ss : List Str} {t : List Bool} {a : Lit} : hasL ss t a.op = !hasL ss t a := by
  unfold hasL Lit.op
  cases val ss t a.n <;> cases a.s <;> rfl
def StepP (rs : List Rule) (a b : Lit) : Prop := ∃ r ∈ rs, (a, b) ∈ steps r
inductive Need (rs : List Rule) : Lit → Lit → Prop
  | refl (a : Lit) : Need rs a a
  | tail {a b c : Lit} : Need rs a b → StepP rs b c → Need rs a c
theorem Need.trans {rs : List Rule} {a b c : Lit} (h : Need rs a b) (k : Need rs b c) : Need rs a c := by
  induction k with
  | refl => exact h
  | tail _ s ih => exact ih.tail s
theorem Need.one {rs : List Rule} {a b : Lit} (h : StepP rs a b) : Need rs a b := (Need.refl a).tail h
theorem steps_iff {r : Rule} {a b : Lit} : (a, b) ∈ steps r ↔ ∃ c ∈ clauses r, (a = c.1.op ∧ b = c.2) ∨ (a = c.2.op ∧ b = c.1) := by
  unfold steps steps1
  rw [List.mem_flatMap]
  refine exists_congr fun c => and_congr_right fun _ => ?_
  by_cases h : c.1 = c.2
  · rw [if_pos h, List.mem_singleton, Prod.mk.injEq, h]
    simp
  · rw [if_neg h]
    simp [Prod.mk.injEq]
theorem step_contra {rs : List Rule} {a b : Lit} (h : StepP rs a b) : StepP rs b.op a.op := by
  obtain ⟨r, hr, h⟩ := h
  refine ⟨r, hr, ?_⟩
  rw [steps_iff] at h ⊢
  obtain ⟨c, hc, h⟩ := h
  refine ⟨c, hc, ?_⟩
  rcases h with ⟨rfl, rfl⟩ | ⟨rfl, rfl⟩
  · exact .inr ⟨rfl, op_op _⟩
  · exact .inl ⟨rfl, op_op _⟩
theorem need_contra {rs : List Rule} {a b : Lit} (h : Need rs a b) : Need rs b.op a.op := by
  induction h with
  | refl => exact .refl _
  | tail _ s ih => exact (Need.one (step_contra s)).trans ih
theorem keepsR_iff {ss : List Str} {t : List Bool} {r : Rule} : keepsR ss t r = true ↔ ∀ a b, (a, b) ∈ steps r → hasL ss t a = true → hasL ss t b = true := by
  unfold keepsR
  rw [List.all_eq_true]
  constructor
  · intro h a b hs ha
    obtain ⟨c, hc, q⟩ := steps_iff.mp hs
    have k := h c hc
    unfold keepsC at k
    rcases q with ⟨rfl, rfl⟩ | ⟨rfl, rfl⟩
    · rw [has_op] at ha
      simp at ha
      simpa [ha] using k
    · rw [has_op] at ha
      simp at ha
      simpa [ha] using k
  · intro h c hc
    have k := h c.1.op c.2 (steps_iff.mpr ⟨c, hc, .inl ⟨rfl, rfl⟩⟩)
    unfold keepsC
    rw [has_op] at k
    cases h1 : hasL ss t c.1 with
    | true => rfl
    | false =>
      rw [h1] at k
      rw [Bool.false_or]
      exact k rfl
theorem good_iff {ss : List Str} {rs : List Rule} {t : List Bool} : good ss rs t = true ↔ ∀ a b, StepP rs a b → hasL ss t a = true → hasL ss t b = true := by
  unfold good
  rw [List.all_eq_true]
  constructor
  · rintro h a b ⟨r, hr, hs⟩
    exact keepsR_iff.mp (h r hr) a b hs
  · intro h r hr
    exact keepsR_iff.mpr fun a b hs => h a b ⟨r, hr, hs⟩
theorem sound {ss : List Str} {rs : List Rule} {t : List Bool} (g : good ss rs t = true) {a b : Lit} (n : Need rs a b) (h : hasL ss t a = true) : hasL ss t b = true := by
  induction n with
  | refl => exact h
  | tail _ s ih => exact good_iff.mp g _ _ s ih
noncomputable def over (ss : List Str) (t : List Bool) (C : Lit → Prop) : List Bool := by
  classical
  exact (ss.zip t).map fun p => if C ⟨p.1, true⟩ then true else if C ⟨p.1, false⟩ then false else p.2
theorem over_len {ss : List Str} {t : List Bool} {C : Lit → Prop} (h : t.length = ss.length) : (over ss t C).length = ss.length := by
  unfold over
  simp [h]
theorem val_over {ss : List Str} {t : List Bool} {C : Lit → Prop} (h : t.length = ss.length) {n : Str} (m : n ∈ ss) :
    (C ⟨n, true⟩ → val ss (over ss t C) n = true) ∧ (¬ C ⟨n, true⟩ → C ⟨n, false⟩ → val ss (over ss t C) n = false) ∧ (¬ C ⟨n, true⟩ → ¬ C ⟨n, false⟩ → val ss (over ss t C) n = val ss t n) := by
  have hi : ss.idxOf n < ss.length := List.idxOf_lt_length_of_mem m
  have hz : (ss.zip t)[ss.idxOf n]? = some (n, t[ss.idxOf n]'(by omega)) := by
    rw [List.getElem?_eq_getElem (by simp; omega)]
    simp
  have hv : val ss t n = t[ss.idxOf n]'(by omega) := by
    unfold val
    simp [List.getD, List.getElem?_eq_getElem (show ss.idxOf n < t.length by omega)]
  have ho : ∀ b, (over ss t C)[ss.idxOf n]? = some b → val ss (over ss t C) n = b := by
    intro b e
    unfold val
    simp [List.getD, e]
  refine ⟨fun c => ho _ ?_, fun c d => ho _ ?_, fun c d => ?_⟩
  · unfold over; rw [List.getElem?_map, hz]; simp [c]
  · unfold over; rw [List.getElem?_map, hz]; simp [c, d]
  · rw [hv]
    refine ho _ ?_
    unfold over; rw [List.getElem?_map, hz]; simp [c, d]
theorem has_over {ss : List Str} {t : List Bool} {C : Lit → Prop} (h : t.length = ss.length) (co : ∀ a, C a → ¬ C a.op) {a : Lit} (m : a.n ∈ ss) :
    (C a → hasL ss (over ss t C) a = true) ∧ (¬ C a → ¬ C a.op → hasL ss (over ss t C) a = hasL ss t a) := by
  obtain ⟨h1, h2, h3⟩ := val_over (C := C) h m
  obtain ⟨n, s⟩ := a
  unfold hasL
  cases s with
  | true =>
    refine ⟨fun c => by simp [h1 c], fun c d => ?_⟩
    simp only at h3 ⊢
    rw [h3 c d]
  | false =>
    refine ⟨fun c => ?_, fun c d => ?_⟩
    · have := co _ c
      simp only at h2 ⊢
      rw [h2 this c]; rfl
    · simp only at h3 ⊢
      rw [h3 d c]
def InS (ss : List Str) (rs : List Rule) : Prop := ∀ r ∈ rs, ruleOk ss r = true
theorem cl_in {ss : List Str} {r : Rule} (h : ruleOk ss r = true) {c : Lit × Lit} (m : c ∈ clauses r) : c.1.n ∈ ss ∧ c.2.n ∈ ss := by
  cases r <;> simp [ruleOk, litOk] at h <;> simp [clauses] at m
  all_goals first
    | (subst m; simp [Lit.op, h])
    | (rcases m with rfl | rfl <;> simp [h])
theorem step_in {ss : List Str} {rs : List Rule} (ok : InS ss rs) {a b : Lit} (h : StepP rs a b) : a.n ∈ ss ∧ b.n ∈ ss := by
  obtain ⟨r, hr, h⟩ := h
  obtain ⟨c, hc, q⟩ := steps_iff.mp h
  have := cl_in (ok r hr) hc
  rcases q with ⟨rfl, rfl⟩ | ⟨rfl, rfl⟩
  · exact ⟨this.1, this.2⟩
  · exact ⟨this.2, this.1⟩
theorem need_in {ss : List Str} {rs : List Rule} (ok : InS ss rs) {a b : Lit} (h : Need rs a b) (m : a.n ∈ ss) : b.n ∈ ss := by
  induction h with
  | refl => exact m
  | tail _ s _ => exact (step_in ok s).2
theorem over_good {ss : List Str} {rs : List Rule} {t : List Bool} {C : Lit → Prop} (ok : InS ss rs) (h : t.length = ss.length) (co : ∀ a, C a → ¬ C a.op) (cl : ∀ a b, C a → StepP rs a b → C b)
    (g : (∀ n ∈ ss, C ⟨n, true⟩ ∨ C ⟨n, false⟩) ∨ good ss rs t = true) : good ss rs (over ss t C) = true := by
  rw [good_iff]
  intro a b s ha
  obtain ⟨ma, mb⟩ := step_in ok s
  by_cases hb : C b
  · exact (has_over h co mb).1 hb
  · by_cases hb2 : C b.op
    · have := cl _ _ hb2 (step_contra s)
      have q := (has_over h co (a := a.op) ma).1 this
      rw [has_op] at q
      simp [ha] at q
    · by_cases hc : C a
      · exact absurd (cl _ _ hc s) hb
      · by_cases hc2 : C a.op
        · have q := (has_over h co (a := a.op) ma).1 hc2
          rw [has_op] at q
          simp [ha] at q
        · rcases g with g | g
          · exfalso
            obtain ⟨n, sb⟩ := b
            cases sb <;> rcases g n mb with q | q <;> first | exact hb q | exact hb2 q
          · rw [(has_over h co mb).2 hb hb2]
            rw [(has_over h co ma).2 hc hc2] at ha
            exact good_iff.mp g _ _ s ha
theorem closure_co {rs : List Rule} {a : Lit} (h : ¬ Need rs a a.op) : ∀ b, Need rs a b → ¬ Need rs a b.op := fun b h1 h2 => by
  have := need_contra h2
  rw [op_op] at this
  exact h (h1.trans this)
theorem some_good {ss : List Str} {rs : List Rule} (ok : InS ss rs) (h : ∀ a : Lit, a.n ∈ ss → ¬ (Need rs a a.op ∧ Need rs a.op a)) : ∃ t : List Bool, t.length = ss.length ∧ good ss rs t = true := by
  have key : ∀ l : List Str, (∀ n ∈ l, n ∈ ss) → ∃ C : Lit → Prop, (∀ a, C a → ¬ C a.op) ∧ (∀ a b, C a → StepP rs a b → C b) ∧ ∀ n ∈ l, C ⟨n, true⟩ ∨ C ⟨n, false⟩ := by
    intro l
    induction l with
    | nil => exact fun _ => ⟨fun _ => False, fun _ h => h.elim, fun _ _ h => h.elim, fun n hn => by cases hn⟩
    | cons x l ih =>
      intro hl
      obtain ⟨C, co, cl, tot⟩ := ih fun n hn => hl n (List.mem_cons_of_mem _ hn)
      by_cases hx : C ⟨x, true⟩ ∨ C ⟨x, false⟩
      · exact ⟨C, co, cl, fun n hn => by
          rcases List.mem_cons.mp hn with rfl | hn
          · exact hx
          · exact tot n hn⟩
      · have ex : ∃ a : Lit, a.n = x ∧ ¬ Need rs a a.op := by
          by_cases q : Need rs ⟨x, true⟩ ⟨x, false⟩
          · refine ⟨⟨x, false⟩, rfl, fun z => ?_⟩
            exact h ⟨x, true⟩ (hl x (List.mem_cons_self ..)) ⟨q, z⟩
          · exact ⟨⟨x, true⟩, rfl, q⟩
        obtain ⟨a, rfl, na⟩ := ex
        have nc : ¬ C a ∧ ¬ C a.op := by
          obtain ⟨n, s⟩ := a
          cases s <;> simp only [Lit.op, Bool.not_true, Bool.not_false] <;> exact ⟨fun z => hx (by simp [z]), fun z => hx (by simp [z])⟩
        have back : ∀ b, Need rs a b → ¬ C b.op := by
          intro b n c
          have k : ∀ u v, Need rs u v → C u → C v := fun u v n c => by
            induction n with
            | refl => exact c
            | tail _ s ih => exact cl _ _ ih s
          exact nc.2 (k _ _ (need_contra n) c)
        refine ⟨fun b => C b ∨ Need rs a b, ?_, ?_, ?_⟩
        · rintro b (c | n) (d | m)
          · exact co b c d
          · have := back _ m
            rw [op_op] at this
            exact this c
          · exact back _ n d
          · exact closure_co na b n m
        · rintro b c (q | q) s
          · exact .inl (cl _ _ q s)
          · exact .inr (q.tail s)
        · intro n hn
          rcases List.mem_cons.mp hn with rfl | hn
          · obtain ⟨n, s⟩ := a
            cases s
            · exact .inr (.inr (.refl _))
            · exact .inl (.inr (.refl _))
          · rcases tot n hn with q | q
            · exact .inl (.inl q)
            · exact .inr (.inl q)
  obtain ⟨C, co, cl, tot⟩ := key ss fun _ h => h
  have hl : (ss.map fun _ => false).length = ss.length := by simp
  exact ⟨over ss (ss.map fun _ => false) C, over_len hl, over_good ok hl co cl (.inl tot)⟩
theorem none_good {ss : List Str} {rs : List Rule} {a : Lit} (h : Need rs a a.op ∧ Need rs a.op a) (t : List Bool) : good ss rs t = false := by
  cases g : good ss rs t with
  | false => rfl
  | true =>
    exfalso
    cases q : hasL ss t a with
    | true =>
      have := sound g h.1 q
      rw [has_op, q] at this; cases this
    | false =>
      have := sound g h.2 (by rw [has_op, q]; rfl)
      rw [q] at this; cases this
def Lock (rs : List Rule) (n : Str) : Prop := Need rs ⟨n, true⟩ ⟨n, false⟩ ∨ Need rs ⟨n, false⟩ ⟨n, true⟩ ∨ ∃ b : Lit, b ≠ ⟨n, true⟩ ∧ Need rs ⟨n, true⟩ b ∧ Need rs b ⟨n, true⟩
theorem lock_stuck {ss : List Str} {rs : List Rule} {t u : List Bool} (gt : good ss rs t = true) (gu : good ss rs u = true) {n : Str} (d : val ss t n ≠ val ss u n) (s : ∀ m, m ≠ n → val ss t m = val ss u m) : ¬ Lock rs n := by
  have key : ∀ t u : List Bool, good ss rs t = true → good ss rs u = true → val ss t n = true → val ss u n = false → (∀ m, m ≠ n → val ss t m = val ss u m) → ¬ Lock rs n := by
    intro t u gt gu ht hu s
    rintro (h | h | ⟨b, hb, h1, h2⟩)
    · have := sound gt h (by simp [hasL, ht])
      simp [hasL, ht] at this
    · have := sound gu h (by simp [hasL, hu])
      simp [hasL, hu] at this
    · by_cases hn : b.n = n
      · rcases lit_cases (b := ⟨n, true⟩) hn with q | q
        · exact hb q
        · subst q
          have := sound gt h1 (by simp [hasL, ht])
          simp [hasL, ht, Lit.op] at this
      · have q1 := sound gt h1 (by simp [hasL, ht])
        have q2 : hasL ss u b = true := by
          unfold hasL at q1 ⊢
          rw [← s _ hn]; exact q1
        have := sound gu h2 q2
        simp [hasL, hu] at this
  cases ht : val ss t n with
  | true =>
    have hu : val ss u n = false := by cases q : val ss u n with
      | false => rfl
      | true => rw [ht, q] at d; exact absurd rfl d
    exact key t u gt gu ht hu s
  | false =>
    have hu : val ss u n = true := by cases q : val ss u n with
      | true => rfl
      | false => rw [ht, q] at d; exact absurd rfl d
    exact key u t gu gt hu ht fun m hm => (s m hm).symm
end FM

namespace FM
open PySem FD
abbrev Way := List (Nat × Lit)
abbrev Kn := List (Lit × Way)
def stepsAt (rs : List Rule) (a : Lit) : Way := rs.zipIdx.flatMap fun p => ((steps p.1).filter fun q => decide (q.1 = a)).map fun q => (p.2, q.2)
theorem stepsAt_iff {rs : List Rule} {a b : Lit} : (∃ i, (i, b) ∈ stepsAt rs a) ↔ StepP rs a b := by
  unfold stepsAt StepP
  simp only [List.mem_flatMap, List.mem_map, List.mem_filter, decide_eq_true_eq, Prod.mk.injEq]
  constructor
  · rintro ⟨i, ⟨r, k⟩, hp, ⟨x, y⟩, ⟨hq, rfl⟩, rfl, rfl⟩
    exact ⟨r, (List.mem_zipIdx hp).2.2 ▸ List.getElem_mem _, hq⟩
  · rintro ⟨r, hr, hs⟩
    obtain ⟨i, hi, rfl⟩ := List.mem_iff_getElem.mp hr
    refine ⟨i, (rs[i], i), ?_, (a, b), ⟨hs, rfl⟩, rfl, rfl⟩
    rw [List.mem_zipIdx_iff_getElem?]
    simp [hi]
def bfs1 (one : Lit) (st : Kn × List Lit) (s : Nat × Lit) : Kn × List Lit :=
  if (st.1.lookup s.2).isSome = true then st else (st.1 ++ [(s.2, ((st.1.lookup one).getD []) ++ [s])], st.2 ++ [s.2])
def bfsO (rs : List Rule) (st : Kn × List Lit) (one : Lit) : Kn × List Lit := (stepsAt rs one).foldl (bfs1 one) st
def bfsL (rs : List Rule) (k : Kn) (layer : List Lit) : Kn × List Lit := layer.foldl (bfsO rs) (k, [])
def bfs (rs : List Rule) : Nat → Kn → List Lit → Kn
  | 0, k, _ => k
  | n + 1, k, layer => if layer = [] then k else bfs rs n (bfsL rs k layer).1 (bfsL rs k layer).2
def wf (ss : List Str) (rs : List Rule) (a : Lit) : Kn := bfs rs (2 * ss.length + 1) [(a, [])] [a]
structure BI (ss : List Str) (rs : List Rule) (a : Lit) (k : Kn) : Prop where
  need : ∀ b ∈ k.map (·.1), Need rs a b
  nd : (k.map (·.1)).Nodup
  ins : ∀ b ∈ k.map (·.1), b.n ∈ ss
  wl : ∀ q ∈ k, q.2.length ≤ k.length
theorem lookup_mem {k : Kn} {b : Lit} {w : Way} (h : k.lookup b = some w) : (b, w) ∈ k := by
  induction k with
  | nil => cases h
  | cons p k ih =>
    obtain ⟨x, u⟩ := p
    rw [List.lookup_cons] at h
    cases e : (b == x) with
    | true => rw [e] at h; cases h; rw [eq_of_beq e]; exact List.mem_cons_self ..
    | false => rw [e] at h; exact List.mem_cons_of_mem _ (ih h)
theorem lk_iff {k : Kn} {b : Lit} : (k.lookup b).isSome = true ↔ b ∈ k.map (·.1) := by
  induction k with
  | nil => simp
  | cons p k ih =>
    obtain ⟨x, w⟩ := p
    rw [List.lookup_cons]
    by_cases h : b = x
    · subst h; simp
    · have e : (b == x) = false := by simp [h]
      rw [e]
      show (k.lookup b).isSome = true ↔ _
      rw [ih, List.map_cons, List.mem_cons]
      exact ⟨.inr, fun q => q.resolve_left h⟩
theorem lits_len (l : List Str) : (lits l).length = 2 * l.length := by
  induction l with
  | nil => rfl
  | cons x l ih => rw [List.length_cons, lits, List.flatMap_cons, List.length_append]; unfold lits at ih; rw [ih]; simp; omega
theorem mem_lits {ss : List Str} {a : Lit} : a ∈ lits ss ↔ a.n ∈ ss := by
  unfold lits
  rw [List.mem_flatMap]
  constructor
  · rintro ⟨x, hx, h⟩
    simp only [List.mem_cons, List.not_mem_nil, or_false] at h
    rcases h with rfl | rfl <;> exact hx
  · intro h
    obtain ⟨n, s⟩ := a
    exact ⟨n, h, by cases s <;> simp⟩
theorem BI.len {ss : List Str} {rs : List Rule} {a : Lit} {k : Kn} (h : BI ss rs a k) : k.length ≤ 2 * ss.length := by
  have := List.Nodup.length_le_of_subset h.nd (l₂ := lits ss) fun b hb => mem_lits.mpr (h.ins b hb)
  rw [List.length_map, lits_len] at this
  exact this
theorem bfs1_keep {ss : List Str} {rs : List Rule} (ok : InS ss rs) {a one : Lit} {st : Kn × List Lit} {s : Nat × Lit} (h : BI ss rs a st.1) (ho : one ∈ st.1.map (·.1)) (hs : s ∈ stepsAt rs one) :
    BI ss rs a (bfs1 one st s).1 ∧ (∀ b ∈ st.1.map (·.1), b ∈ (bfs1 one st s).1.map (·.1)) ∧ s.2 ∈ (bfs1 one st s).1.map (·.1) ∧ (bfs1 one st s).1.length = st.1.length + ((bfs1 one st s).2.length - st.2.length) ∧ st.2.length ≤ (bfs1 one st s).2.length ∧
      ((∀ b ∈ (bfs1 one st s).1.map (·.1), b ∈ st.1.map (·.1) ∨ b ∈ (bfs1 one st s).2) ∧ ∀ b ∈ st.2, b ∈ (bfs1 one st s).2) ∧ ∀ b ∈ (bfs1 one st s).2, b ∈ st.2 ∨ b ∈ (bfs1 one st s).1.map (·.1) := by
  unfold bfs1
  by_cases q : (st.1.lookup s.2).isSome = true
  · rw [if_pos q]
    exact ⟨h, fun _ h => h, lk_iff.mp q, by omega, Nat.le_refl _, ⟨fun b hb => .inl hb, fun _ h => h⟩, fun b hb => .inl hb⟩
  · rw [if_neg q]
    have nq : s.2 ∉ st.1.map (·.1) := fun z => q (lk_iff.mpr z)
    have sp : StepP rs one s.2 := stepsAt_iff.mp ⟨s.1, hs⟩
    refine ⟨⟨?_, ?_, ?_, ?_⟩, ?_, ?_, ?_, ?_, ?_, ?_⟩
    · intro b hb
      simp only [List.map_append, List.map_cons, List.map_nil, List.mem_append, List.mem_singleton] at hb
      rcases hb with hb | rfl
      · exact h.need b hb
      · exact (h.need one ho).tail sp
    · rw [List.map_append, List.nodup_append]
      refine ⟨h.nd, by simp, ?_⟩
      intro x hx y hy e
      simp at hy
      subst hy; subst e
      exact nq hx
    · intro b hb
      simp only [List.map_append, List.map_cons, List.map_nil, List.mem_append, List.mem_singleton] at hb
      rcases hb with hb | rfl
      · exact h.ins b hb
      · exact (step_in ok sp).2
    · intro q hq
      rw [List.length_append]
      rcases List.mem_append.mp hq with m | m
      · have := h.wl q m
        omega
      · rw [List.mem_singleton.mp m]
        have l1 : ((st.1.lookup one).getD []).length ≤ st.1.length := by
          cases e : st.1.lookup one with
          | none => simp
          | some w => exact h.wl _ (lookup_mem e)
        simp
        omega
    · intro b hb; simp only [List.map_append, List.mem_append]; exact .inl hb
    · simp
    · simp
    · simp
    · refine ⟨fun b hb => ?_, fun b hb => by simp [hb]⟩
      simp only [List.map_append, List.map_cons, List.map_nil, List.mem_append, List.mem_singleton] at hb ⊢
      exact hb.imp id .inr
    · intro b hb
      simp only [List.map_append, List.map_cons, List.map_nil, List.mem_append, List.mem_singleton] at hb ⊢
      rcases hb with hb | hb
      · exact .inl hb
      · exact .inr (.inr hb)
structure Run (ss : List Str) (rs : List Rule) (a : Lit) (st st' : Kn × List Lit) : Prop where
  bi : BI ss rs a st'.1
  sub : ∀ b ∈ st.1.map (·.1), b ∈ st'.1.map (·.1)
  len : st'.1.length + st.2.length = st.1.length + st'.2.length
  new : ∀ b ∈ st'.1.map (·.1), b ∈ st.1.map (·.1) ∨ b ∈ st'.2
  mono : ∀ b ∈ st.2, b ∈ st'.2
  lay : (∀ b ∈ st.2, b ∈ st.1.map (·.1)) → ∀ b ∈ st'.2, b ∈ st'.1.map (·.1)
theorem Run.refl {ss : List Str} {rs : List Rule} {a : Lit} {st : Kn × List Lit} (h : BI ss rs a st.1) : Run ss rs a st st := ⟨h, fun _ h => h, by omega, fun b hb => .inl hb, fun _ h => h, fun h => h⟩
theorem Run.trans {ss : List Str} {rs : List Rule} {a : Lit} {s1 s2 s3 : Kn × List Lit} (h : Run ss rs a s1 s2) (k : Run ss rs a s2 s3) : Run ss rs a s1 s3 :=
  ⟨k.bi, fun b hb => k.sub b (h.sub b hb), by have := h.len; have := k.len; omega, fun b hb => by
    rcases k.new b hb with q | q
    · rcases h.new b q with q | q
      · exact .inl q
      · exact .inr (k.mono b q)
    · exact .inr q, fun b hb => k.mono b (h.mono b hb), fun q => k.lay (h.lay q)⟩
theorem run1 {ss : List Str} {rs : List Rule} (ok : InS ss rs) {a one : Lit} {st : Kn × List Lit} {s : Nat × Lit} (h : BI ss rs a st.1) (ho : one ∈ st.1.map (·.1)) (hs : s ∈ stepsAt rs one) :
    Run ss rs a st (bfs1 one st s) ∧ s.2 ∈ (bfs1 one st s).1.map (·.1) := by
  obtain ⟨h1, h2, h3, h4, h5, ⟨h6, h7⟩, h8⟩ := bfs1_keep ok h ho hs
  exact ⟨⟨h1, h2, by omega, h6, h7, fun q b hb => (h8 b hb).elim (fun z => h2 b (q b z)) id⟩, h3⟩
theorem runO {ss : List Str} {rs : List Rule} (ok : InS ss rs) {a one : Lit} : ∀ (l : Way) (_ : ∀ s ∈ l, s ∈ stepsAt rs one) (st : Kn × List Lit) (_ : BI ss rs a st.1) (_ : one ∈ st.1.map (·.1)),
    Run ss rs a st (l.foldl (bfs1 one) st) ∧ ∀ s ∈ l, s.2 ∈ (l.foldl (bfs1 one) st).1.map (·.1)
  | [], _, st, h, _ => ⟨.refl h, fun s hs => by cases hs⟩
  | s :: l, hl, st, h, ho => by
    obtain ⟨r1, m1⟩ := run1 ok h ho (hl s (List.mem_cons_self ..))
    obtain ⟨r2, m2⟩ := runO ok l (fun x hx => hl x (List.mem_cons_of_mem _ hx)) _ r1.bi (r1.sub _ ho)
    rw [List.foldl_cons]
    refine ⟨r1.trans r2, fun x hx => ?_⟩
    rcases List.mem_cons.mp hx with rfl | hx
    · exact r2.sub _ m1
    · exact m2 x hx
theorem runL {ss : List Str} {rs : List Rule} (ok : InS ss rs) {a : Lit} : ∀ (l : List Lit) (st : Kn × List Lit) (_ : BI ss rs a st.1) (_ : ∀ b ∈ l, b ∈ st.1.map (·.1)),
    Run ss rs a st (l.foldl (bfsO rs) st) ∧ ∀ one ∈ l, ∀ s ∈ stepsAt rs one, s.2 ∈ (l.foldl (bfsO rs) st).1.map (·.1)
  | [], st, h, _ => ⟨.refl h, fun s hs => by cases hs⟩
  | o :: l, st, h, hl => by
    obtain ⟨r1, m1⟩ := runO ok (stepsAt rs o) (fun _ h => h) st h (hl o (List.mem_cons_self ..))
    obtain ⟨r2, m2⟩ := runL ok l (bfsO rs st o) r1.bi fun b hb => r1.sub _ (hl b (List.mem_cons_of_mem _ hb))
    rw [List.foldl_cons]
    refine ⟨r1.trans r2, fun x hx s hs => ?_⟩
    rcases List.mem_cons.mp hx with rfl | hx
    · exact r2.sub _ (m1 s hs)
    · exact m2 x hx s hs
structure BW (ss : List Str) (rs : List Rule) (a : Lit) (n : Nat) (k : Kn) (layer : List Lit) : Prop where
  bi : BI ss rs a k
  here : a ∈ k.map (·.1)
  lay : ∀ b ∈ layer, b ∈ k.map (·.1)
  done : ∀ b ∈ k.map (·.1), b ∉ layer → ∀ s ∈ stepsAt rs b, s.2 ∈ k.map (·.1)
  fuel : layer ≠ [] → 2 * ss.length + 1 ≤ n + k.length
theorem BW.step {ss : List Str} {rs : List Rule} (ok : InS ss rs) {a : Lit} {n : Nat} {k : Kn} {layer : List Lit} (h : BW ss rs a (n + 1) k layer) (ne : layer ≠ []) : BW ss rs a n (bfsL rs k layer).1 (bfsL rs k layer).2 := by
  obtain ⟨r, m⟩ := runL ok layer (k, []) h.bi h.lay
  refine ⟨r.bi, r.sub _ h.here, r.lay (fun b hb => by cases hb), fun b hb nb s hs => ?_, fun nl => ?_⟩
  · rcases r.new b hb with q | q
    · by_cases hl : b ∈ layer
      · exact m b hl s hs
      · exact r.sub _ (h.done b q hl s hs)
    · exact absurd q nb
  · have := h.fuel ne
    have := r.len
    have l1 : 0 < (bfsL rs k layer).2.length := List.length_pos_iff.mpr nl
    unfold bfsL at l1 ⊢
    simp only [List.length_nil] at this
    omega
theorem BW.pos {ss : List Str} {rs : List Rule} {a : Lit} {n : Nat} {k : Kn} {layer : List Lit} (h : BW ss rs a n k layer) (ne : layer ≠ []) : ∃ m, n = m + 1 := by
  have := h.fuel ne
  have := h.bi.len
  exact ⟨n - 1, by omega⟩
theorem bw_end {ss : List Str} {rs : List Rule} (ok : InS ss rs) {a : Lit} : ∀ (n : Nat) (k : Kn) (layer : List Lit), BW ss rs a n k layer → BW ss rs a 0 (bfs rs n k layer) []
  | 0, k, layer, h => by
    by_cases ne : layer = []
    · subst ne; exact h
    · obtain ⟨m, e⟩ := h.pos ne
      omega
  | n + 1, k, layer, h => by
    unfold bfs
    by_cases ne : layer = []
    · rw [if_pos ne]; subst ne
      exact ⟨h.bi, h.here, h.lay, h.done, fun z => absurd rfl z⟩
    · rw [if_neg ne]
      exact bw_end ok n _ _ (h.step ok ne)
theorem bw_start {ss : List Str} {rs : List Rule} {a : Lit} (m : a.n ∈ ss) : BW ss rs a (2 * ss.length + 1) [(a, [])] [a] :=
  ⟨⟨fun b hb => by simp at hb; subst hb; exact .refl _, by simp, fun b hb => by simp at hb; subst hb; exact m, fun q hq => by simp at hq; subst hq; simp⟩, by simp, by simp, fun b hb nb => by simp at hb nb; exact absurd hb nb, fun _ => by simp⟩
def inW (ss : List Str) (rs : List Rule) (a b : Lit) : Bool := ((wf ss rs a).lookup b).isSome
theorem inW_iff {ss : List Str} {rs : List Rule} (ok : InS ss rs) {a b : Lit} (m : a.n ∈ ss) : inW ss rs a b = true ↔ Need rs a b := by
  have e := bw_end ok _ _ _ (bw_start (rs := rs) m)
  unfold inW wf
  rw [lk_iff]
  refine ⟨fun h => e.bi.need b h, fun h => ?_⟩
  induction h with
  | refl => exact e.here
  | tail _ s ih =>
    obtain ⟨i, hi⟩ := stepsAt_iff.mpr s
    exact e.done _ ih (by simp) _ hi
def hasGood (ss : List Str) (rs : List Rule) : Bool := !(lits ss).any fun a => inW ss rs a a.op && inW ss rs a.op a
theorem hasGood_iff {ss : List Str} {rs : List Rule} (ok : InS ss rs) : hasGood ss rs = true ↔ ∃ t : List Bool, t.length = ss.length ∧ good ss rs t = true := by
  unfold hasGood
  rw [Bool.not_eq_true', List.any_eq_false]
  constructor
  · intro h
    refine some_good ok fun a m n => ?_
    have := h a (mem_lits.mpr m)
    rw [Bool.and_eq_true, inW_iff ok m, inW_iff ok (a := a.op) m] at this
    exact this n
  · rintro ⟨t, _, g⟩ a m n
    rw [mem_lits] at m
    rw [Bool.and_eq_true, inW_iff ok m, inW_iff ok (a := a.op) m] at n
    rw [none_good n t] at g
    cases g
def fixedL (ss : List Str) (rs : List Rule) : List Lit := (lits ss).filter fun a => inW ss rs a.op a
def groupL (ss : List Str) (rs : List Rule) (a : Lit) : List Lit := (lits ss).filter fun b => inW ss rs a b && inW ss rs b a
abbrev TS := List (List Lit) × List Str
def tied1 (ss : List Str) (rs : List Rule) (st : TS) (x : Str) : TS :=
  if x ∉ (fixedL ss rs).map (·.n) ∧ x ∉ st.2 ∧ 1 < (groupL ss rs ⟨x, true⟩).length then (st.1 ++ [groupL ss rs ⟨x, true⟩], st.2 ++ (groupL ss rs ⟨x, true⟩).map (·.n)) else st
def tiedT (ss : List Str) (rs : List Rule) (l : List Str) : TS := l.foldl (tied1 ss rs) ([], [])
def tiedL (ss : List Str) (rs : List Rule) : List (List Lit) := (tiedT ss rs ss).1
def lockNames (ss : List Str) (rs : List Rule) : List Str := (fixedL ss rs ++ (tiedL ss rs).flatten).map (·.n)
def lockedL (ss : List Str) (rs : List Rule) : List Str := ss.filter fun x => decide (x ∈ lockNames ss rs)
theorem tied_seen {ss : List Str} {rs : List Rule} (l : List Str) : (tiedT ss rs l).2 = ((tiedT ss rs l).1.flatten).map (·.n) := by
  have key : ∀ (l : List Str) (st : TS), st.2 = (st.1.flatten).map (·.n) → (l.foldl (tied1 ss rs) st).2 = ((l.foldl (tied1 ss rs) st).1.flatten).map (·.n) := by
    intro l
    induction l with
    | nil => exact fun st h => h
    | cons x l ih =>
      intro st h
      rw [List.foldl_cons]
      refine ih _ ?_
      unfold tied1
      split
      · simp [h]
      · exact h
  exact key l _ rfl
theorem tied_sub {ss : List Str} {rs : List Rule} : ∀ (l : List Str) (st : TS) (y : Str), y ∈ st.2 → y ∈ (l.foldl (tied1 ss rs) st).2
  | [], st, y, h => h
  | x :: l, st, y, h => by
    rw [List.foldl_cons]
    refine tied_sub l _ y ?_
    unfold tied1
    split
    · simp [h]
    · exact h
theorem tied_mem {ss : List Str} {rs : List Rule} (ok : InS ss rs) : ∀ (l : List Str) (st : TS) (x : Str), x ∈ l → x ∈ ss → x ∉ (fixedL ss rs).map (·.n) → 1 < (groupL ss rs ⟨x, true⟩).length → x ∈ (l.foldl (tied1 ss rs) st).2
  | y :: l, st, x, hx, hs, hf, hg => by
    rw [List.foldl_cons]
    rcases List.mem_cons.mp hx with rfl | hx
    · refine tied_sub l _ x ?_
      unfold tied1
      by_cases h : x ∈ st.2
      · rw [if_neg (by simp [h])]; exact h
      · rw [if_pos ⟨hf, h, hg⟩]
        refine List.mem_append_right _ (List.mem_map.mpr ⟨⟨x, true⟩, ?_, rfl⟩)
        refine List.mem_filter.mpr ⟨mem_lits.mpr hs, ?_⟩
        have q := (inW_iff (b := ⟨x, true⟩) ok (a := ⟨x, true⟩) hs).mpr (.refl _)
        simp [q]
    · exact tied_mem ok l _ x hx hs hf hg
theorem tied_from {ss : List Str} {rs : List Rule} : ∀ (l : List Str) (st : TS) (y : Str), y ∈ (l.foldl (tied1 ss rs) st).2 → y ∈ st.2 ∨ ∃ x ∈ l, 1 < (groupL ss rs ⟨x, true⟩).length ∧ y ∈ (groupL ss rs ⟨x, true⟩).map (·.n)
  | [], st, y, h => .inl h
  | x :: l, st, y, h => by
    rw [List.foldl_cons] at h
    rcases tied_from l _ y h with q | ⟨z, hz, h1, h2⟩
    · unfold tied1 at q
      split at q
      · rename_i c
        rcases List.mem_append.mp q with q | q
        · exact .inl q
        · exact .inr ⟨x, List.mem_cons_self .., c.2.2, q⟩
      · exact .inl q
    · exact .inr ⟨z, List.mem_cons_of_mem _ hz, h1, h2⟩
theorem lits_nodup {ss : List Str} (h : ss.Nodup) : (lits ss).Nodup := by
  induction ss with
  | nil => simp [lits]
  | cons x ss ih =>
    rw [List.nodup_cons] at h
    unfold lits at ih ⊢
    rw [List.flatMap_cons, List.nodup_append]
    refine ⟨by simp, ih h.2, ?_⟩
    intro a ha b hb e
    subst e
    have : a ∈ lits ss := hb
    rw [mem_lits] at this
    simp at ha
    rcases ha with rfl | rfl <;> exact h.1 this
theorem long_iff {α : Type} {l : List α} (nd : l.Nodup) {a : α} (m : a ∈ l) : 1 < l.length ↔ ∃ b ∈ l, b ≠ a := by
  constructor
  · intro h
    match l, nd, m, h with
    | x :: y :: r, nd, m, _ =>
      by_cases e : x = a
      · refine ⟨y, by simp, fun z => ?_⟩
        rw [List.nodup_cons] at nd
        exact nd.1 (by rw [e, ← z]; simp)
      · exact ⟨x, by simp, e⟩
  · rintro ⟨b, hb, ne⟩
    match l, m, hb with
    | [x], m, hb => simp at m hb; exact absurd (hb.trans m.symm) ne
    | x :: y :: r, _, _ => simp
theorem locked_iff {ss : List Str} {rs : List Rule} (ok : InS ss rs) (nd : ss.Nodup) (hg : hasGood ss rs = true) {x : Str} (hx : x ∈ ss) : x ∈ lockNames ss rs ↔ Lock rs x := by
  have eg : ∀ y : Str, y ∈ ss → ∀ b : Lit, (b ∈ groupL ss rs ⟨y, true⟩ ↔ b.n ∈ ss ∧ Need rs ⟨y, true⟩ b ∧ Need rs b ⟨y, true⟩) := fun y hy b => by
    unfold groupL
    rw [List.mem_filter, mem_lits, Bool.and_eq_true, inW_iff ok (a := ⟨y, true⟩) hy]
    refine and_congr_right fun hb => ?_
    rw [inW_iff ok hb]
  have ef : ∀ a : Lit, a ∈ fixedL ss rs ↔ a.n ∈ ss ∧ Need rs a.op a := fun a => by
    unfold fixedL
    rw [List.mem_filter, mem_lits]
    refine and_congr_right fun ha => ?_
    rw [inW_iff ok (a := a.op) ha]
  unfold lockNames
  rw [List.map_append, List.mem_append]
  have et : (tiedL ss rs).flatten.map (·.n) = (tiedT ss rs ss).2 := (tied_seen ss).symm
  rw [et]
  constructor
  · rintro (h | h)
    · obtain ⟨a, ha, rfl⟩ := List.mem_map.mp h
      rw [ef] at ha
      obtain ⟨n, s⟩ := a
      cases s
      · exact .inl ha.2
      · exact .inr (.inl ha.2)
    · rcases tied_from ss _ x h with q | ⟨y, hy, h1, h2⟩
      · cases q
      · obtain ⟨b, hb, rfl⟩ := List.mem_map.mp h2
        have gb := (eg y hy b).mp hb
        have gnd : (groupL ss rs ⟨y, true⟩).Nodup := (lits_nodup nd).filter _
        obtain ⟨c, hc, ne⟩ := (long_iff gnd hb).mp h1
        have gc := (eg y hy c).mp hc
        have bc : Need rs b c := gb.2.2.trans gc.2.1
        have cb : Need rs c b := gc.2.2.trans gb.2.1
        obtain ⟨n, s⟩ := b
        cases s
        · exact .inr (.inr ⟨c.op, fun z => ne (op_inj (by rw [z]; rfl)), need_contra cb, need_contra bc⟩)
        · exact .inr (.inr ⟨c, ne, bc, cb⟩)
  · intro h
    by_cases hf : x ∈ (fixedL ss rs).map (·.n)
    · exact .inl hf
    · refine .inr (tied_mem ok ss _ x hx hx hf ?_)
      have nf : ∀ a : Lit, a.n = x → ¬ Need rs a.op a := fun a e n => hf (List.mem_map.mpr ⟨a, (ef a).mpr ⟨by rw [e]; exact hx, n⟩, e⟩)
      have gnd : (groupL ss rs ⟨x, true⟩).Nodup := (lits_nodup nd).filter _
      refine (long_iff gnd ((eg x hx ⟨x, true⟩).mpr ⟨hx, .refl _, .refl _⟩)).mpr ?_
      rcases h with h | h | ⟨b, ne, h1, h2⟩
      · exact absurd h (nf ⟨x, false⟩ rfl)
      · exact absurd h (nf ⟨x, true⟩ rfl)
      · exact ⟨b, (eg x hx b).mpr ⟨need_in ok h1 hx, h1, h2⟩, ne⟩
end FM

namespace FM
open PySem PySem.Spec PyProof.Rows L2 FD
def stD (p : Nat × Lit) : D := .tup [.int (p.1 : Int), litD p.2]
def wayD (w : Way) : D := .tup (w.map stD)
def litK (a : Lit) : List Key := [.inr a.n, .inr (sg a.s)]
def knK (k : Kn) : List (List Key × D) := k.map fun p => (litK p.1, wayD p.2)
theorem keyT_lit {a : Lit} : keyT (litD a) = some (litK a) := rfl
theorem litK_inj {a b : Lit} : litK a = litK b ↔ a = b := by
  obtain ⟨n, s⟩ := a
  obtain ⟨m, t⟩ := b
  simp [litK, sg_inj]
theorem val_kn {k : Kn} {b : Lit} : valD (knK k) (litK b) = (k.lookup b).map wayD := by
  induction k with
  | nil => rfl
  | cons p k ih =>
    obtain ⟨x, w⟩ := p
    show (if litK x = litK b then some (wayD w) else valD (knK k) (litK b)) = _
    rw [List.lookup_cons, ih]
    by_cases h : x = b
    · subst h; simp
    · have h2 : (b == x) = false := by rw [beq_eq_false_iff_ne]; exact fun z => h z.symm
      rw [if_neg (fun z => h (litK_inj.mp z)), h2]
def swOk (ss : List Str) : Prop := ss ≠ [] ∧ ss.length ≤ 10 ∧ ss.Nodup ∧ ∀ s ∈ ss, nameOk s = true
structure Pan where
  ss : List Str
  rs : List Rule
  sw : swOk ss
  ru : InS ss rs
  len : rs.length ≤ 240
def stepsKV (ss : List Str) (rs : List Rule) : List (List Key × D) := (lits ss).map fun a => (litK a, .lst ((stepsAt rs a).map stD))
def pfsF (fg : Fg) (p : Pan) : List (Str × D) := [("switches", strsF p.ss), ("rules", tq fg (p.rs.map ruleD)), ("steps", .dcT (stepsKV p.ss p.rs))]
def panF (K : PySem.W.Frag) (fg : Fg) (p : Pan) : D := .obj (He.ga K "Panel") (pfsF fg p)
abbrev panD (K : PySem.W.Frag) (p : Pan) : D := panF K .t p
theorem Pan.ext' {p q : Pan} (h : p.ss = q.ss) (k : p.rs = q.rs) : p = q := by
  obtain ⟨a, b, _, _, _⟩ := p
  obtain ⟨c, d, _, _, _⟩ := q
  cases h; cases k; rfl
theorem panF_inj {K : PySem.W.Frag} {f g : Fg} {p q : Pan} : panF K f p = panF K g q ↔ f = g ∧ p = q := by
  refine ⟨fun h => ?_, fun h => by rw [h.1, h.2]⟩
  simp only [panF, pfsF, D.obj.injEq, List.cons.injEq, Prod.mk.injEq, D.ftp.injEq, true_and, strs_inj, tq_inj, rules_inj] at h
  exact ⟨h.2.1.1, Pan.ext' h.1 h.2.1.2⟩
theorem ins_pan {K : PySem.W.Frag} {M : Mem} {fg : Fg} {p : Pan} {k : List (Str × D) → Prop} : insR M (He.ga K "Panel") (panF K fg p) k = k (pfsF fg p) := insR_obj
theorem lk_sw {fg : Fg} {p : Pan} : (pfsF fg p).lookup ("switches" : Str) = some (strsF p.ss) := rfl
theorem lk_ru {fg : Fg} {p : Pan} : (pfsF fg p).lookup ("rules" : Str) = some (tq fg (p.rs.map ruleD)) := rfl
theorem lk_st {fg : Fg} {p : Pan} : (pfsF fg p).lookup ("steps" : Str) = some (.dcT (stepsKV p.ss p.rs)) := rfl
theorem lk_place {fg : Fg} {p : Pan} : (pfsF fg p).lookup ("place" : Str) = none := rfl
theorem lk_has {fg : Fg} {p : Pan} : (pfsF fg p).lookup ("has" : Str) = none := rfl
theorem lk_keeps {fg : Fg} {p : Pan} : (pfsF fg p).lookup ("keeps" : Str) = none := rfl
theorem lk_wrongs {fg : Fg} {p : Pan} : (pfsF fg p).lookup ("wrongs" : Str) = none := rfl
theorem lk_goods {fg : Fg} {p : Pan} : (pfsF fg p).lookup ("goods" : Str) = none := rfl
theorem lk_ways_from {fg : Fg} {p : Pan} : (pfsF fg p).lookup ("ways_from" : Str) = none := rfl
theorem lk_text {fg : Fg} {p : Pan} : (pfsF fg p).lookup ("text" : Str) = none := rfl
def wfD (p : Pan) (a : Lit) : D := .dcT (knK (wf p.ss p.rs a))
theorem wf_at {M : Mem} {p : Pan} {a b : Lit} {c : Option D → Prop} : dAt M (wfD p a) (litD b) c = c (((wf p.ss p.rs a).lookup b).map wayD) := by
  unfold wfD
  rw [dAt_dcT, keyT_lit]
  show c (valD _ _) = _
  rw [val_kn]
theorem wf_some {p : Pan} {a b : Lit} : (((wf p.ss p.rs a).lookup b).map wayD).isSome = inW p.ss p.rs a b := by unfold inW; simp
def jg (a b c : Int) : MO := .lst [.int a, .int b, .int c]
def Jg (M : Mem) (j : Addr) : Prop := ∃ a b c : Int, M j = some (jg a b c)
def Jm (j : Addr) (M M' : Mem) : Prop := ∃ a b c : Int, M' = M.upd j (jg a b c)
theorem Jm.trans {j : Addr} {M M1 M2 : Mem} (h : Jm j M M1) (k : Jm j M1 M2) : Jm j M M2 := by
  obtain ⟨a, b, c, rfl⟩ := h
  obtain ⟨a', b', c', rfl⟩ := k
  exact ⟨a', b', c', Mem.upd_upd⟩
theorem Jm.refl {j : Addr} {M : Mem} (h : Jg M j) : Jm j M M := by
  obtain ⟨a, b, c, e⟩ := h
  refine ⟨a, b, c, ?_⟩
  funext x
  unfold Mem.upd
  by_cases q : x = j
  · rw [if_pos q, q, e]
  · rw [if_neg q]
theorem Jm.jg {j : Addr} {M M' : Mem} (h : Jm j M M') : Jg M' j := by
  obtain ⟨a, b, c, rfl⟩ := h
  exact ⟨a, b, c, Mem.upd_same⟩
theorem Jm.other {j i : Addr} {M M' : Mem} (h : Jm j M M') (k : Jg M i) : Jg M' i := by
  obtain ⟨a, b, c, rfl⟩ := h
  obtain ⟨x, y, z, e⟩ := k
  by_cases q : i = j
  · rw [q]; exact ⟨a, b, c, Mem.upd_same⟩
  · exact ⟨x, y, z, by rw [Mem.upd_ne q]; exact e⟩
theorem Jm.upd {j : Addr} {M : Mem} {a b c : Int} : Jm j M (M.upd j (FM.jg a b c)) := ⟨a, b, c, rfl⟩
def every : Nat → List (List Bool)
  | 0 => [[]]
  | n + 1 => (every n).flatMap fun t => [t ++ [true], t ++ [false]]
theorem every_len : ∀ n, (every n).length = 2 ^ n
  | 0 => rfl
  | n + 1 => by
    have h : ∀ l : List (List Bool), (l.flatMap fun t => [t ++ [true], t ++ [false]]).length = 2 * l.length := fun l => by
      induction l with
      | nil => rfl
      | cons x l ih => rw [List.flatMap_cons, List.length_append, ih, List.length_cons]; simp; omega
    rw [every, h, every_len n]; omega
theorem mem_every : ∀ {n : Nat} {t : List Bool}, t ∈ every n ↔ t.length = n
  | 0, t => by simp [every]
  | n + 1, t => by
    rw [every, List.mem_flatMap]
    constructor
    · rintro ⟨u, hu, h⟩
      rw [mem_every] at hu
      simp only [List.mem_cons, List.not_mem_nil, or_false] at h
      rcases h with rfl | rfl <;> simp [hu]
    · intro h
      have ne : t ≠ [] := fun z => by rw [z] at h; cases h
      refine ⟨t.dropLast, mem_every.mpr (by rw [List.length_dropLast, h]; omega), ?_⟩
      have e := List.dropLast_concat_getLast ne
      cases q : t.getLast ne with
      | true => rw [q] at e; exact List.mem_cons.mpr (.inl e.symm)
      | false => rw [q] at e; exact List.mem_cons.mpr (.inr (List.mem_singleton.mpr e.symm))
def wrongSw (ss : List Str) : Option Nat := (ss.zipIdx.find? fun p => decide (p.2 = 10) || !nameOk p.1 || decide (p.1 ∈ ss.take p.2)).map (·.2)
def wrongRu (ss : List Str) (rs : List Rule) : Option Nat := (rs.zipIdx.find? fun p => decide (p.2 = 240) || !ruleOk ss p.1).map (·.2)
theorem wrongSw_none {ss : List Str} (h : swOk ss) : wrongSw ss = none := by
  unfold wrongSw
  rw [Option.map_eq_none_iff, List.find?_eq_none]
  intro p hp
  obtain ⟨h1, h2, h3⟩ := List.mem_zipIdx hp
  obtain ⟨_, hl, nd, ok⟩ := h
  have e : ss[p.2]'(by omega) = p.1 := by rw [h3]; simp
  have hp1 : p.1 ∈ ss := by rw [← e]; exact List.getElem_mem _
  have n10 : p.2 ≠ 10 := by omega
  have nt : p.1 ∉ ss.take p.2 := by
    intro m
    obtain ⟨i, hi, e2⟩ := List.mem_iff_getElem.mp m
    rw [List.length_take] at hi
    rw [List.getElem_take] at e2
    have := (List.getElem_inj (h₀ := by omega) (h₁ := by omega) nd).mp (e2.trans e.symm)
    omega
  simp [n10, ok _ hp1, nt]
theorem wrongRu_none {ss : List Str} {rs : List Rule} (h : InS ss rs) (hl : rs.length ≤ 240) : wrongRu ss rs = none := by
  unfold wrongRu
  rw [Option.map_eq_none_iff, List.find?_eq_none]
  intro p hp
  obtain ⟨h1, h2, h3⟩ := List.mem_zipIdx hp
  have : p.1 ∈ rs := by rw [h3]; exact List.getElem_mem _
  have n : p.2 ≠ 240 := by omega
  simp [n, h _ this]
end FM

namespace FM
open PySem PySem.Spec PyProof.Rows L2 FD
theorem cx_K {CX P w K mg base N q sc f cdv A outer s H E} : (cxOf CX P w K mg base N q sc f cdv A outer s H E).K = K := rfl
theorem nox_K {X : Cx} : X.nox.K = X.K := rfl
theorem blk_K {X : Cx} {s H scope env fp} : (X.blk s H scope env fp).K = X.K := rfl
theorem bx_K {P w K mg base N q sc f cdv A outer s H} : (bx P w K mg base N q sc f cdv A outer s H).K = K := rfl
theorem c1 : ((0 + 1 : Nat) : Int) = 1 := rfl
theorem c2 : ((0 + 1 + 1 : Nat) : Int) = 2 := rfl
theorem c3 : ((0 + 1 + 1 + 1 : Nat) : Int) = 3 := rfl
theorem c4 : ((0 + 1 + 1 + 1 + 1 : Nat) : Int) = 4 := rfl
theorem inL_cons {d x : D} {l : List D} : inL (d :: l) x = (eqd d x || inL l x) := by simp [inL]
theorem inL_nil {x : D} : inL [] x = false := rfl
theorem all_bools {α : Type} {M : Mem} {l : List α} {g : α → Bool} {post : WK} : gAll M [.lst (l.map fun x => D.bl (g x))] post = post (.bl (l.all g)) M := by rw [all_lst, bools_mapf, got_so, all_map]
theorem any_bools {α : Type} {M : Mem} {l : List α} {g : α → Bool} {post : WK} : gAny M [.lst (l.map fun x => D.bl (g x))] post = post (.bl (l.any g)) M := by rw [any_lst, bools_mapf, got_so, any_map]
theorem in_tp {M : Mem} {x : D} {f : Bool} {l : List D} {post : WK} : gIn M x (tp f l) post = (flatD x = true ∧ l.all flatD = true ∧ post (.bl (inL l x)) M) := by cases f <;> rfl
theorem in_tq {M : Mem} {x : D} {f : Fg} {l : List D} {post : WK} : gIn M x (tq f l) post = (flatD x = true ∧ l.all flatD = true ∧ post (.bl (inL l x)) M) := by cases f <;> rfl
theorem nin_tq {M : Mem} {x : D} {f : Fg} {l : List D} {post : WK} : gNin M x (tq f l) post = (flatD x = true ∧ l.all flatD = true ∧ post (.bl (!inL l x)) M) := by cases f <;> rfl
theorem nin_tp {M : Mem} {x : D} {f : Bool} {l : List D} {post : WK} : gNin M x (tp f l) post = (flatD x = true ∧ l.all flatD = true ∧ post (.bl (!inL l x)) M) := by cases f <;> rfl
theorem cutL_take {α : Type} {l : List α} {k : Nat} : cutL l none (some (k : Int)) = l.take k := by
  unfold cutL
  rw [HT.sIx_nat, HT.sIx_none, List.drop_zero, Nat.sub_zero]
  by_cases h : k ≤ l.length
  · rw [Nat.min_eq_left h]
  · rw [Nat.min_eq_right (by omega), List.take_length, List.take_of_length_le (by omega)]
theorem cutL_drop {α : Type} {l : List α} {k : Nat} : cutL l (some (k : Int)) none = l.drop k := by
  unfold cutL
  rw [HT.sIx_nat, HT.sIx_none]
  by_cases h : k ≤ l.length
  · rw [Nat.min_eq_left h, List.take_of_length_le (by simp)]
  · rw [Nat.min_eq_right (by omega), List.drop_of_length_le (Nat.le_refl _), List.drop_of_length_le (by omega)]
    simp
theorem whole_eq {α : Type} {l : List α} {lo hi : Option Int} (h : wholeB l lo hi = true) : cutL l lo hi = l := by
  obtain ⟨h1, h2⟩ := of_decide_eq_true h
  unfold cutL
  rw [h1, h2, List.drop_zero, Nat.sub_zero, List.take_length]
theorem sl_ftp {M : Mem} {l : List D} {lo hi : Option Int} {post : WK} : gSlice M (.ftp l) lo hi post = post (tp (wholeB l lo hi) (cutL l lo hi)) M := by
  show post (if wholeB l lo hi = true then .ftp l else .tup (cutL l lo hi)) M = _
  cases h : wholeB l lo hi with
  | true => rw [if_pos rfl, whole_eq h]; rfl
  | false => rfl
theorem sl_tup {M : Mem} {l : List D} {lo hi : Option Int} {post : WK} : gSlice M (.tup l) lo hi post = post (.tup (cutL l lo hi)) M := by
  show post (if wholeB l lo hi = true then .tup l else .tup (cutL l lo hi)) M = _
  cases h : wholeB l lo hi with
  | true => rw [if_pos rfl, whole_eq h]
  | false => rfl
theorem sl_lst {M : Mem} {l : List D} {lo hi : Option Int} {post : WK} : gSlice M (.lst l) lo hi post = post (.lst (cutL l lo hi)) M := rfl
theorem sl_scr {M : Mem} {l : List D} {lo hi : Option Int} {post : WK} : gSlice M (.scr l) lo hi post = post (.lst (cutL l lo hi)) M := rfl
theorem cutL_map {α β : Type} {f : α → β} {l : List α} {lo hi : Option Int} : cutL (l.map f) lo hi = (cutL l lo hi).map f := by
  unfold cutL; rw [List.length_map, ← List.map_drop, ← List.map_take]
theorem index_eq {ss : List Str} {k : List Str → Prop} : got (txs (ss.map D.str)) k = k ss := by rw [txs_map]; rfl
theorem find_eq {ss : List Str} {x : Str} {k : Nat → Prop} (h : x ∈ ss) : got (ss.findIdx? (· == x)) k = k (ss.idxOf x) := by rw [find_idx h]; rfl
theorem ex_ftp {l : List D} : (∃ l', D.ftp l = .ftp l') = True := eq_true ⟨l, rfl⟩
theorem isT_cl {c : Lit × Lit} {k : List D → Prop} : isT (clD c) k = k [litD c.1, litD c.2] := rfl
theorem isT_st {c : Nat × Lit} {k : List D → Prop} : isT (stD c) k = k [.int (c.1 : Int), litD c.2] := rfl
theorem isT_lit {a : Lit} {k : List D → Prop} : isT (litD a) k = k [.str a.n, .str (sg a.s)] := rfl
theorem ix_lit0 {M : Mem} {a : Lit} {post : WK} : gIx M (litD a) (.int 0) post = post (.str a.n) M := rfl
theorem ix_lit1 {M : Mem} {a : Lit} {post : WK} : gIx M (litD a) (.int 1) post = post (.str (sg a.s)) M := rfl
theorem len_lit {M : Mem} {a : Lit} : lenD M (litD a) = some 2 := rfl
theorem ty_lit {M : Mem} {a : Lit} : tyN M (litD a) = some "tuple" := rfl
theorem dp_lit {a : Lit} : (litD a).dp = 1 := by simp [litD, D.dp, dpAll]
theorem eq_of_dp {M : Mem} {d e : D} {post : WK} (h : rsv M d = d) (k : rsv M e = e) (hd : d.dp ≤ 64) (he : e.dp ≤ 64) : gEq M d e post = post (.bl (eqd d e)) M := by
  unfold gEq; rw [h, k]; exact propext ⟨fun q => q.2.2, fun q => ⟨hd, he, q⟩⟩
theorem ne_of_dp {M : Mem} {d e : D} {post : WK} (h : rsv M d = d) (k : rsv M e = e) (hd : d.dp ≤ 64) (he : e.dp ≤ 64) : gNe M d e post = post (.bl (!eqd d e)) M := by
  unfold gNe; rw [h, k]; exact propext ⟨fun q => q.2.2, fun q => ⟨hd, he, q⟩⟩
theorem eq_lit {M : Mem} {a b : Lit} {post : WK} : gEq M (litD a) (litD b) post = post (.bl (decide (a = b))) M := by
  rw [eq_of_dp rfl rfl (by rw [dp_lit]; omega) (by rw [dp_lit]; omega), eqd_lit]
theorem ne_lit {M : Mem} {a b : Lit} {post : WK} : gNe M (litD a) (litD b) post = post (.bl (!decide (a = b))) M := by
  rw [ne_of_dp rfl rfl (by rw [dp_lit]; omega) (by rw [dp_lit]; omega), eqd_lit]
theorem eq_set {M : Mem} {a b : List Bool} {post : WK} : gEq M (setD a) (setD b) post = post (.bl (decide (a = b))) M := by
  show gEq M (.str (setS a)) (.str (setS b)) post = _
  rw [FD.eq_str]
  simp only [setS_inj]
theorem ne_set {M : Mem} {a b : List Bool} {post : WK} : gNe M (setD a) (setD b) post = post (.bl (!decide (a = b))) M := by
  show gNe M (.str (setS a)) (.str (setS b)) post = _
  rw [FD.ne_str]
  simp only [setS_inj]
theorem sg_iff {a b : Bool} : (sg a = sg b) = (a = b) := propext sg_inj
theorem len_set {M : Mem} {t : List Bool} : lenD M (setD t) = some (t.length : Int) := by
  show some ((setS t).length : Int) = _
  rw [setS_len]
theorem ty_set {M : Mem} {t : List Bool} : tyN M (setD t) = some "str" := rfl
theorem isS_set {t : List Bool} {k : Str → Prop} : isS (setD t) k = k (setS t) := rfl
theorem isC_sg {b : Bool} {k : Nat → Prop} : isC (.str (sg b)) k = k (sgc b) := by rw [sg_eq]; rfl
theorem sg_in_pm {b : Bool} : (sgc b ∈ (Str.ofString "+-").cps.toList) = True := by
  rw [pm_cps]; cases b <;> simp [sgc]
theorem sNever_e : sNever = (fun _ _ _ => False : WS) := rfl
theorem isNon_opt {o : Option Nat} : FD.isNon (optD o) = o.isNone := by cases o <;> rfl
theorem isEmpty_map {α β : Type} {f : α → β} {l : List α} : (l.map f).isEmpty = l.isEmpty := by cases l <;> rfl
theorem ty_pan {K : PySem.W.Frag} {M : Mem} {fg : Fg} {p : Pan} : tyN M (panF K fg p) = none := rfl
end FM

namespace FM
open PySem PySem.Spec PyProof.Rows L2 FD
theorem fzAll_map {M M' : Mem} {α : Type} {f g : α → D} : ∀ {l : List α}, (∀ b ∈ l, Fz M M' (f b) (g b)) → FzAll M M' (l.map f) (l.map g)
  | [], _ => .nil
  | a :: l, h => .cons (h a (List.mem_cons_self ..)) (fzAll_map fun b hb => h b (List.mem_cons_of_mem _ hb))
theorem fzAll_same {M M' : Mem} : ∀ {l : List D}, FzAll M M' l l
  | [] => .nil
  | a :: l => .cons (.same a) fzAll_same
structure DictI (B : Mem) (a C : Addr) (fs : List (Str × D)) (d : Addr) (q : Lit → Addr) (ls : List Lit) (s : Lit → Way) (M : Mem) : Prop where
  inst : M a = some (.ins C fs)
  dict : M d = some (.dT (ls.map fun b => (litK b, D.ptr (q b))))
  da : d ≠ a
  ba : B a = none
  bd : B d = none
  cells : ∀ b ∈ ls, M (q b) = some (.lst ((s b).map stD)) ∧ B (q b) = none ∧ q b ≠ d ∧ q b ≠ a
  inj : ∀ b ∈ ls, ∀ c ∈ ls, q b = q c → b = c
  frame : ∀ x o, B x = some o → M x = some o
theorem val_map {q : Lit → Addr} {b : Lit} : ∀ {ls : List Lit}, (b ∈ ls → valD (ls.map fun b => (litK b, D.ptr (q b))) (litK b) = some (.ptr (q b))) ∧ (b ∉ ls → valD (ls.map fun b => (litK b, D.ptr (q b))) (litK b) = none)
  | [] => ⟨fun h => (by cases h), fun _ => rfl⟩
  | c :: ls => by
    have ih := val_map (q := q) (b := b) (ls := ls)
    have e : valD ((c :: ls).map fun b => (litK b, D.ptr (q b))) (litK b) = if litK c = litK b then some (D.ptr (q c)) else valD (ls.map fun b => (litK b, D.ptr (q b))) (litK b) := rfl
    rw [e]
    by_cases h : c = b
    · subst h; rw [if_pos rfl]; exact ⟨fun _ => rfl, fun n => absurd (List.mem_cons_self ..) n⟩
    · rw [if_neg (fun z => h (litK_inj.mp z))]
      exact ⟨fun m => ih.1 ((List.mem_cons.mp m).resolve_left (fun z => h z.symm)), fun n => ih.2 fun m => n (List.mem_cons_of_mem _ m)⟩
theorem DictI.new {B : Mem} {a C : Addr} {fs : List (Str × D)} {d : Addr} {q : Lit → Addr} {ls : List Lit} {M : Mem} (h : DictI B a C fs d q ls (fun _ => []) M) {b : Lit} (nb : b ∉ ls) {r : Addr} (hr : M r = none) :
    (M.upd r (.lst [])) d = some (.dT (ls.map fun b => (litK b, D.ptr (q b)))) ∧ ∃ q', DictI B a C fs d q' (ls ++ [b]) (fun _ => []) ((M.upd r (.lst [])).upd d (.dT (putD (ls.map fun b => (litK b, D.ptr (q b))) (litK b) (.ptr r)))) := by
  have rd : r ≠ d := fun e => by rw [e, h.dict] at hr; cases hr
  have ra : r ≠ a := fun e => by rw [e, h.inst] at hr; cases hr
  have rB : B r = none := by
    cases e : B r with
    | none => rfl
    | some o => rw [h.frame r o e] at hr; cases hr
  have hd : (M.upd r (.lst [])) d = some (.dT (ls.map fun b => (litK b, D.ptr (q b)))) := by rw [Mem.upd_ne (Ne.symm rd)]; exact h.dict
  refine ⟨hd, fun c => if c = b then r else q c, ?_, ?_, h.da, h.ba, h.bd, ?_, ?_, ?_⟩
  · rw [Mem.upd_ne (Ne.symm h.da), Mem.upd_ne (Ne.symm ra)]; exact h.inst
  · rw [Mem.upd_same]
    have ev := (val_map (q := q) (b := b) (ls := ls)).2 nb
    unfold putD
    rw [ev]
    simp only [Option.isSome_none, Bool.false_eq_true, if_false, List.map_append, List.map_cons, List.map_nil, if_true]
    congr 3
    refine List.map_congr_left fun c hc => ?_
    have : c ≠ b := fun e => nb (e ▸ hc)
    rw [if_neg this]
  · intro c hc
    by_cases e : c = b
    · simp only [e, if_true]
      exact ⟨by rw [Mem.upd_ne rd, Mem.upd_same]; rfl, rB, rd, ra⟩
    · simp only [e, if_false]
      have hc : c ∈ ls := by
        rcases List.mem_append.mp hc with m | m
        · exact m
        · exact absurd (List.mem_singleton.mp m) e
      obtain ⟨h1, h2, h3, h4⟩ := h.cells c hc
      have qr : q c ≠ r := fun z => by rw [z, hr] at h1; cases h1
      exact ⟨by rw [Mem.upd_ne h3, Mem.upd_ne qr]; exact h1, h2, h3, h4⟩
  · have qr : ∀ c ∈ ls, q c ≠ r := fun c hc z => by
      have := (h.cells c hc).1
      rw [z, hr] at this; cases this
    have un : ∀ c, c ∈ ls ++ [b] → c ≠ b → c ∈ ls := fun c hc e => by
      rcases List.mem_append.mp hc with m | m
      · exact m
      · exact absurd (List.mem_singleton.mp m) e
    intro c hc c' hc' e
    by_cases e1 : c = b <;> by_cases e2 : c' = b
    · rw [e1, e2]
    · simp only [e1, e2, if_true, if_false] at e
      exact absurd e.symm (qr c' (un c' hc' e2))
    · simp only [e1, e2, if_true, if_false] at e
      exact absurd e (qr c (un c hc e1))
    · simp only [e1, e2, if_false] at e
      exact h.inj c (un c hc e1) c' (un c' hc' e2) e
  · intro x o e
    have xd : x ≠ d := fun z => by rw [z, h.bd] at e; cases e
    have xr : x ≠ r := fun z => by rw [z, rB] at e; cases e
    rw [Mem.upd_ne xd, Mem.upd_ne xr]
    exact h.frame x o e
theorem DictI.app {B : Mem} {a C : Addr} {fs : List (Str × D)} {d : Addr} {q : Lit → Addr} {ls : List Lit} {s : Lit → Way} {M : Mem} (h : DictI B a C fs d q ls s M) {b : Lit} (hb : b ∈ ls) (x : Nat × Lit) :
    DictI B a C fs d q ls (fun c => if c = b then s b ++ [x] else s c) (M.upd (q b) (.lst ((s b).map stD ++ [stD x]))) := by
  obtain ⟨h1, h2, h3, h4⟩ := h.cells b hb
  refine ⟨?_, ?_, h.da, h.ba, h.bd, ?_, h.inj, ?_⟩
  · rw [Mem.upd_ne (Ne.symm h4)]; exact h.inst
  · rw [Mem.upd_ne (Ne.symm h3)]; exact h.dict
  · intro c hc
    obtain ⟨k1, k2, k3, k4⟩ := h.cells c hc
    by_cases e : c = b
    · subst e
      simp only [if_true]
      exact ⟨by rw [Mem.upd_same, List.map_append]; rfl, k2, k3, k4⟩
    · simp only [e, if_false]
      have : q c ≠ q b := fun z => e (h.inj c hc b hb z)
      exact ⟨by rw [Mem.upd_ne this]; exact k1, k2, k3, k4⟩
  · intro y o e
    have : y ≠ q b := fun z => by rw [z, h2] at e; cases e
    rw [Mem.upd_ne this]
    exact h.frame y o e
theorem DictI.congr {B : Mem} {a C : Addr} {fs : List (Str × D)} {d : Addr} {q : Lit → Addr} {ls : List Lit} {s s' : Lit → Way} {M : Mem} (h : DictI B a C fs d q ls s M) (e : ∀ b ∈ ls, s b = s' b) : DictI B a C fs d q ls s' M :=
  ⟨h.inst, h.dict, h.da, h.ba, h.bd, fun b hb => by rw [← e b hb]; exact h.cells b hb, h.inj, h.frame⟩
theorem DictI.setf {B : Mem} {a C : Addr} {fs : List (Str × D)} {d : Addr} {q : Lit → Addr} {ls : List Lit} {s : Lit → Way} {M : Mem} (h : DictI B a C fs d q ls s M) (fs' : List (Str × D)) : DictI B a C fs' d q ls s (M.upd a (.ins C fs')) := by
  refine ⟨Mem.upd_same, by rw [Mem.upd_ne h.da]; exact h.dict, h.da, h.ba, h.bd, fun b hb => ?_, h.inj, fun x o e => ?_⟩
  · obtain ⟨h1, h2, h3, h4⟩ := h.cells b hb
    exact ⟨by rw [Mem.upd_ne h4]; exact h1, h2, h3, h4⟩
  · have : x ≠ a := fun z => by rw [z, h.ba] at e; cases e
    rw [Mem.upd_ne this]; exact h.frame x o e
def stP (l : List (Rule × Nat)) (a : Lit) : Way := l.flatMap fun p => ((steps p.1).filter fun q => decide (q.1 = a)).map fun q => (p.2, q.2)
theorem steps_len (r : Rule) : (steps r).length ≤ 4 := by
  have h : ∀ c : Lit × Lit, (steps1 c).length ≤ 2 := fun c => by unfold steps1; split <;> simp
  cases r <;> simp only [steps, clauses, List.flatMap_cons, List.flatMap_nil, List.length_append, List.length_nil]
  case same f x y => have := h (⟨x, false⟩, ⟨y, true⟩); have := h (⟨x, true⟩, ⟨y, false⟩); omega
  case unlike f x y => have := h (⟨x, true⟩, ⟨y, true⟩); have := h (⟨x, false⟩, ⟨y, false⟩); omega
  case be a => have := h (a, a); omega
  case either a b => have := h (a, b); omega
  case needs a b => have := h (a.op, b); omega
  case bars a b => have := h (a.op, b.op); omega
theorem stP_len (a : Lit) : ∀ l : List (Rule × Nat), (stP l a).length ≤ 4 * l.length
  | [] => by simp [stP]
  | p :: l => by
    have ih := stP_len a l
    have h1 := steps_len p.1
    have h2 : ((steps p.1).filter fun q => decide (q.1 = a)).length ≤ (steps p.1).length := List.length_filter_le ..
    unfold stP at ih ⊢
    rw [List.flatMap_cons, List.length_append, List.length_map, List.length_cons]
    omega
theorem DictI.fz {K : PySem.W.Frag} {B : Mem} {a d : Addr} {fg : Fg} {p : Pan} {q : Lit → Addr} {M : Mem} (h : DictI B a (He.ga K "Panel") [("switches", strsF p.ss), ("rules", tq fg (p.rs.map ruleD)), ("steps", .ptr d)] d q (lits p.ss) (stepsAt p.rs) M) : Fz M B (.ptr a) (panF K fg p) := by
  refine .obj h.inst h.ba rfl (.cons (.same _) (.cons (.same _) (.cons (.dT h.dict h.bd ?_ ?_) .nil)))
  · rw [stepsKV, List.map_map, List.map_map]; rfl
  · rw [stepsKV, List.map_map, List.map_map]
    refine fzAll_map fun b hb => ?_
    obtain ⟨h1, h2, h3, h4⟩ := h.cells b hb
    exact .lst h1 h2 fzAll_same
theorem pf2 {x y : D} : putFD "rules" y [("switches", x)] = ([("switches", x), ("rules", y)] : List (Str × D)) := by
  unfold putFD; rw [if_neg (by decide +kernel)]; rfl
theorem pf3 {x y z : D} : putFD "steps" z [("switches", x), ("rules", y)] = ([("switches", x), ("rules", y), ("steps", z)] : List (Str × D)) := by
  unfold putFD; rw [if_neg (by decide +kernel)]
  unfold putFD; rw [if_neg (by decide +kernel)]; rfl
theorem ne_lst_nil {M : Mem} {l : List D} {post : WK} : gNe M (.lst l) (.lst []) post = (dpAll l + 1 ≤ 64 ∧ post (.bl (!l.isEmpty)) M) := by
  unfold gNe rsv
  have e : eqd (.lst l) (.lst []) = l.isEmpty := by cases l <;> simp [eqd, D.py, pyAll, PyData.eqv, PyData.eqvAll]
  simp only [e]
  have z : (D.lst []).dp ≤ 64 := by simp [D.dp, dpAll]
  have z2 : (D.lst l).dp = dpAll l + 1 := by simp [D.dp]
  rw [z2]
  exact propext ⟨fun q => ⟨q.1, q.2.2⟩, fun q => ⟨q.1, z, q.2⟩⟩
theorem eq_lst_nil {M : Mem} {l : List D} {post : WK} : gEq M (.lst l) (.lst []) post = (dpAll l + 1 ≤ 64 ∧ post (.bl l.isEmpty) M) := by
  unfold gEq rsv
  have e : eqd (.lst l) (.lst []) = l.isEmpty := by cases l <;> simp [eqd, D.py, pyAll, PyData.eqv, PyData.eqvAll]
  simp only [e]
  have z : (D.lst []).dp ≤ 64 := by simp [D.dp, dpAll]
  have z2 : (D.lst l).dp = dpAll l + 1 := by simp [D.dp]
  rw [z2]
  exact propext ⟨fun q => ⟨q.1, q.2.2⟩, fun q => ⟨q.1, z, q.2⟩⟩
theorem dpAll_lits : ∀ l : List Lit, dpAll (l.map litD) ≤ 1
  | [] => by simp [dpAll]
  | s :: ss => by rw [List.map_cons, dpAll, dp_lit]; have := dpAll_lits ss; omega
theorem upd_comm {M : Mem} {a b : Addr} {x y : MO} (h : a ≠ b) : (M.upd a x).upd b y = (M.upd b y).upd a x := by
  funext c
  unfold Mem.upd
  by_cases e1 : c = a <;> by_cases e2 : c = b
  · exact absurd (e1.symm.trans e2) h
  · rw [if_neg e2, if_pos e1, if_pos e1]
  · rw [if_pos e2, if_neg e1, if_pos e2]
  · rw [if_neg e2, if_neg e1, if_neg e1, if_neg e2]
section
variable {κ : Type} [DecidableEq κ]
end
def grpD (g : List Lit) : D := .ftp (g.map litD)
theorem isT_grp {g : List Lit} {k : List D → Prop} : isT (grpD g) k = k (g.map litD) := rfl
def lockS (p : Pan) : List Str := if hasGood p.ss p.rs = true then lockedL p.ss p.rs else []
def lockD (p : Pan) : D := tp (hasGood p.ss p.rs) ((lockS p).map D.str)
theorem fold_lit {x : Str} {b : Bool} : D.tup [.str x, .str (sg b)] = litD ⟨x, b⟩ := rfl
theorem fold_litp {x : Str} : D.tup [.str x, .str (Str.ofString "+")] = litD ⟨x, true⟩ := rfl
theorem fold_litm {x : Str} : D.tup [.str x, .str (Str.ofString "-")] = litD ⟨x, false⟩ := rfl
theorem len_grp {M : Mem} {g : List Lit} : lenD M (grpD g) = some (g.length : Int) := by
  show some (((g.map litD).length : Nat) : Int) = _
  rw [List.length_map]
structure TiI (K : PySem.W.Frag) (fg : Fg) (p : Pan) (M : Mem) (fp sp : Addr) (st : TS) (n : Nat) (G : FD.Env) (N : Mem) : Prop where
  env : ∃ u v z, G = [some (panF K fg p), some (strsL ((fixedL p.ss p.rs).map (·.n))), some (.ptr fp), some (.ptr sp), u, v, z]
  le : M.le N
  hf : N fp = some (.lst (st.1.map grpD))
  hn : st.1.length ≤ n
  hs : ∃ kvs, N sp = some (.dK kvs) ∧ (∀ y : Str, (valD kvs (.inr y)).isSome = decide (y ∈ st.2)) ∧ kvs.length ≤ 20 * n
end FM

namespace FM
open PySem PySem.Spec PyProof.Rows L2 FD
theorem ixN30 : ixN 3 0 = some 0 := rfl
theorem ixN31 : ixN 3 1 = some 1 := rfl
theorem ixN32 : ixN 3 2 = some 2 := rfl
theorem ix_upd {M : Mem} {j : Addr} {l : List D} {i : Int} {post : WK} : gIx (M.upd j (.lst l)) (.ptr j) (.int i) post = got (atI l i) fun d => post d (M.upd j (.lst l)) := by
  show (got (seqOf (M.upd j (.lst l)) (.ptr j)) fun l' => got (atI l' i) fun d => post d (M.upd j (.lst l))) = _
  unfold seqOf
  simp only [Mem.upd_same]
  rfl
theorem jg_upd {M : Mem} {j : Addr} {a b c : Int} (h : M j = some (jg a b c)) : M = M.upd j (.lst [.int a, .int b, .int c]) := by
  funext x
  unfold Mem.upd
  by_cases q : x = j
  · rw [if_pos q, q, h]; rfl
  · rw [if_neg q]
theorem eq_bl {M : Mem} {a b : Bool} {post : WK} : gEq M (.bl a) (.bl b) post = post (.bl (decide (a = b))) M := by
  rw [eq_of_dp rfl rfl (by simp [D.dp]) (by simp [D.dp]), eqd_bl]
theorem ne_bl {M : Mem} {a b : Bool} {post : WK} : gNe M (.bl a) (.bl b) post = post (.bl (!decide (a = b))) M := by
  rw [ne_of_dp rfl rfl (by simp [D.dp]) (by simp [D.dp]), eqd_bl]
theorem sl_tp {M : Mem} {f : Bool} {l : List D} {lo hi : Option Int} {post : WK} : gSlice M (tp f l) lo hi post = post (tp (f && wholeB l lo hi) (cutL l lo hi)) M := by
  cases f
  · exact sl_tup
  · exact sl_ftp
def rngE (i : Nat) : D := .int (i : Int)
theorem rng_eq (n : Nat) : rng 0 n = (List.range n).map rngE := by
  unfold rng
  refine List.map_congr_left fun i _ => ?_
  show D.int (0 + (i : Int)) = .int (i : Int)
  rw [Int.zero_add]
theorem rng_int (n : Nat) : rng 0 ((n : Int).toNat) = (List.range n).map rngE := by rw [Int.toNat_natCast, rng_eq]
theorem atI_lt {α : Type} {l : List α} {i : Nat} (h : i < l.length) {k : α → Prop} : got (atI l (i : Int)) k = k l[i] := by
  rw [atI_nat (List.getElem?_eq_getElem h)]; rfl
theorem map_nodup {α β : Type} {f : α → β} : ∀ {l : List α}, l.Nodup → (∀ a ∈ l, ∀ b ∈ l, f a = f b → a = b) → (l.map f).Nodup
  | [], _, _ => by simp
  | a :: l, nd, h => by
    rw [List.nodup_cons] at nd
    rw [List.map_cons, List.nodup_cons]
    refine ⟨fun m => ?_, map_nodup nd.2 fun x hx y hy => h x (List.mem_cons_of_mem _ hx) y (List.mem_cons_of_mem _ hy)⟩
    obtain ⟨b, hb, e⟩ := List.mem_map.mp m
    exact nd.1 (h b (List.mem_cons_of_mem _ hb) a (List.mem_cons_self ..) e ▸ hb)
theorem every_small {n : Nat} (h : n ≤ 12) : (every n).length ≤ 4096 := by
  rw [every_len]
  calc 2 ^ n ≤ 2 ^ 12 := Nat.pow_le_pow_right (by omega) h
    _ = 4096 := by decide
theorem every_mem_len {n : Nat} {t : List Bool} (h : t ∈ every n) : t.length = n := mem_every.mp h
theorem steps1_len (l : List (Lit × Lit)) : (l.flatMap steps1).length ≤ 2 * l.length := by
  induction l with
  | nil => simp
  | cons c l ih =>
    have : (steps1 c).length ≤ 2 := by unfold steps1; split <;> simp
    rw [List.flatMap_cons, List.length_append, List.length_cons]; omega
theorem clauses_len (r : Rule) : (clauses r).length ≤ 2 := by cases r <;> simp [clauses]
theorem val_at {ss : List Str} {t : List Bool} {n : Str} (h : n ∈ ss) (l : t.length = ss.length) : t[ss.idxOf n]? = some (val ss t n) := by
  have hi : ss.idxOf n < t.length := by rw [l]; exact List.idxOf_lt_length_of_mem h
  unfold val
  rw [List.getElem?_eq_getElem hi, List.getD_eq_getElem?_getD, List.getElem?_eq_getElem hi]
  rfl
theorem ints_inj {l m : List Int} : l.map D.int = m.map D.int ↔ l = m := map_inj fun {a b} => by rw [D.int.injEq]
theorem lstOf_lst {M : Mem} {l : List D} : lstOf M (.lst l) = some l := rfl
theorem okL_lst {M : Mem} {l : List D} : okL M (.lst l) = True := eq_true ⟨l, rfl⟩
theorem atI_map {α β : Type} {l : List α} {f : α → β} {i : Nat} (d : α) (h : i < l.length) {k : β → Prop} : got (atI (l.map f) (i : Int)) k = k (f (l.getD i d)) := by
  rw [atI_lt (by rw [List.length_map]; exact h), List.getElem_map, List.getD_eq_getElem?_getD, List.getElem?_eq_getElem h]; rfl
theorem gMulS_eq {M : Mem} {s : Str} {n : Int} {post : WK} : gMulS M (.str s) (.int n) post = (MulOk s n ∧ sOk (Txt.mul s n) = true ∧ post (.str (Txt.mul s n)) M) := rfl
theorem add_sets {t u : List Bool} {k : D → Prop} : got (addD (setD t) (setD u)) k = (t.length + u.length ≤ 16777216 ∧ k (setD (t ++ u))) := by
  show got (addD (.str (setS t)) (.str (setS u))) k = _
  rw [FD.add_str, setS_len, setS_len, setS_app]; rfl
theorem add_setb {t : List Bool} {b : Bool} {k : D → Prop} : got (addD (setD t) (.str (sg b))) k = (t.length + 1 ≤ 16777216 ∧ k (setD (t ++ [b]))) := by
  rw [setS_one]; exact add_sets
theorem add_setp {t : List Bool} {k : D → Prop} : got (addD (setD t) (.str (Str.ofString "+"))) k = (t.length + 1 ≤ 16777216 ∧ k (setD (t ++ [true]))) := add_setb (b := true)
theorem add_setm {t : List Bool} {k : D → Prop} : got (addD (setD t) (.str (Str.ofString "-"))) k = (t.length + 1 ≤ 16777216 ∧ k (setD (t ++ [false]))) := add_setb (b := false)
theorem emod_nat {a n : Int} (h : 0 < n) : ((a % n).toNat : Int) = a % n ∧ a % n < n := ⟨Int.toNat_of_nonneg (Int.emod_nonneg _ (by omega)), Int.emod_lt_of_pos _ h⟩
theorem rngE_e {i : Nat} : rngE i = D.int (i : Int) := rfl
theorem pick_nil {l : List D} : pick [] l = [] := rfl
theorem pick_cons {i : Nat} {ix : List Nat} {l : List D} : pick (i :: ix) l = (match l[i]? with
  | some a => a :: pick ix l
  | none => pick ix l) := by
  unfold pick
  rw [List.filterMap_cons]
  cases l[i]? <;> rfl
def rtag : Rule → Str
  | .be _ => "be"
  | .either _ _ => "either"
  | .needs _ _ => "needs"
  | .bars _ _ => "bars"
  | .same _ _ _ => "same"
  | .unlike _ _ _ => "unlike"
theorem ix_rule0 {M : Mem} {r : Rule} {post : WK} : gIx M (ruleD r) (.int 0) post = post (.str (rtag r)) M := by
  cases r <;> first | rfl | (unfold ruleD; rw [ix_tp]; rfl)
theorem getD_mem {α : Type} {l : List α} {i : Nat} (d : α) (h : i < l.length) : l.getD i d ∈ l := by
  rw [List.getD_eq_getElem?_getD, List.getElem?_eq_getElem h]
  exact List.getElem_mem h
theorem getD_inj {α : Type} {l : List α} (nd : l.Nodup) {i j : Nat} (d : α) (h : i < l.length) (k : j < l.length) (e : l.getD i d = l.getD j d) : i = j := by
  rw [List.getD_eq_getElem?_getD, List.getElem?_eq_getElem h, List.getD_eq_getElem?_getD, List.getElem?_eq_getElem k] at e
  exact (List.getElem_inj (h₀ := h) (h₁ := k) nd).mp e
theorem idx_getD {l : List Str} (nd : l.Nodup) {i : Nat} (d : Str) (h : i < l.length) : l.idxOf (l.getD i d) = i := by
  have m := getD_mem d h
  have hi := List.idxOf_lt_length_of_mem m
  refine getD_inj nd d hi h ?_
  rw [List.getD_eq_getElem?_getD, List.getElem?_eq_getElem hi]
  exact List.getElem_idxOf hi
theorem InS.app {ss : List Str} {rs rs' : List Rule} (h : InS ss rs) (k : InS ss rs') : InS ss (rs ++ rs') := fun r hr => (List.mem_append.mp hr).elim (h r) (k r)
theorem flip_get {t : List Bool} {k i : Nat} (h : k < t.length) : (flip t k).getD i false = if i = k then !(t.getD k false) else t.getD i false := by
  unfold flip
  simp only [List.getD_eq_getElem?_getD]
  by_cases e : i = k
  · subst e
    rw [if_pos rfl, List.getElem?_append_left (by simp; omega), List.getElem?_append_right (by simp; omega)]
    simp [Nat.min_eq_left (Nat.le_of_lt h)]
  · rw [if_neg e]
    congr 1
    by_cases l : i < k
    · rw [List.getElem?_append_left (by simp; omega), List.getElem?_append_left (by simp; omega), List.getElem?_take_of_lt l]
    · rw [List.getElem?_append_right (by simp; omega), List.getElem?_drop]
      congr 1
      simp [Nat.min_eq_left (Nat.le_of_lt h)]; omega
theorem val_flip {ss : List Str} (nd : ss.Nodup) {t : List Bool} (l : t.length = ss.length) {k : Nat} (h : k < ss.length) (n : Str) (hn : n ∈ ss) : val ss (flip t k) n = if n = ss.getD k "" then !(val ss t n) else val ss t n := by
  unfold val
  rw [flip_get (by omega)]
  by_cases e : n = ss.getD k ""
  · rw [if_pos e, e, idx_getD nd _ h, if_pos rfl]
  · rw [if_neg e, if_neg]
    intro q
    apply e
    have hi := List.idxOf_lt_length_of_mem hn
    rw [← q, List.getD_eq_getElem?_getD, List.getElem?_eq_getElem hi]
    exact (List.getElem_idxOf hi).symm
theorem flip_free {p : Pan} {t : List Bool} (l : t.length = p.ss.length) {k : Nat} (h : k < p.ss.length) (g : good p.ss p.rs t = true) (g2 : good p.ss p.rs (flip t k) = true) : p.ss.getD k "" ∉ lockedL p.ss p.rs := by
  intro m
  have nd := p.sw.2.2.1
  obtain ⟨m1, m2⟩ := List.mem_filter.mp m
  have hg : hasGood p.ss p.rs = true := (hasGood_iff p.ru).mpr ⟨t, l, g⟩
  have lk := (locked_iff p.ru nd hg m1).mp (of_decide_eq_true m2)
  have d : val p.ss t (p.ss.getD k "") ≠ val p.ss (flip t k) (p.ss.getD k "") := by
    rw [val_flip nd l h _ m1, if_pos rfl]
    cases val p.ss t (p.ss.getD k "") <;> simp
  refine lock_stuck g g2 d (fun x hx => ?_) lk
  by_cases q : x ∈ p.ss
  · rw [val_flip nd l h _ q, if_neg hx]
  · have : p.ss.idxOf x = p.ss.length := List.idxOf_eq_length q
    unfold val
    rw [this]
    simp only [List.getD_eq_getElem?_getD]
    rw [List.getElem?_eq_none (by omega), List.getElem?_eq_none (by rw [flip_len (by omega)]; omega)]
def reprBB (a b : Bool) : Str := (D.lst [.bl a, .bl b]).py.shown
theorem repr_bb {M : Mem} {a b : Bool} {post : WK} : gRepr M [.lst [.bl a, .bl b]] post = post (.str (reprBB a b)) M := by
  unfold gRepr
  rw [one_one]
  have h : (D.lst [.bl a, .bl b]).dp ≤ 16 := by simp [D.dp, dpAll]
  have h2 : (D.lst [.bl a, .bl b]).py.showable = true ∧ sOk (D.lst [.bl a, .bl b]).py.shown = true := by cases a <;> cases b <;> decide +kernel
  exact propext ⟨fun q => q.2.2.2.2, fun q => ⟨rfl, h, h2.1, h2.2, q⟩⟩
theorem isB_isD {a b : Bool} : isBD (.bl a) (.bl b) = some (.bl (decide (a = b))) := rfl
theorem isB_notD {a b : Bool} : notBD (.bl a) (.bl b) = some (.bl (!decide (a = b))) := rfl
end FM

namespace FM
open PySem PySem.Spec PyProof.Rows L2 FD
def cOk (s : Str) : Prop := ∀ c ∈ s.cps.toList, c < 0x110000
def cOkB (s : Str) : Bool := s.cps.toList.all fun c => decide (c < 0x110000)
theorem cOkB_iff {s : Str} : cOkB s = true ↔ cOk s := by unfold cOkB cOk; rw [List.all_eq_true]; exact ⟨fun h c hc => of_decide_eq_true (h c hc), fun h c hc => decide_eq_true (h c hc)⟩
theorem cOk.app {s t : Str} (h : cOk s) (k : cOk t) : cOk (s ++ t) := fun c hc => by
  have q : c ∈ (s.cps ++ t.cps).toList := hc
  rw [Array.toList_append] at q
  exact (List.mem_append.mp q).elim (h c) (k c)
theorem cOk_nil : cOk (Str.ofString "") := by unfold cOk; decide +kernel
theorem cOk_comma : cOk (Str.ofString ", ") := by unfold cOk; decide +kernel
theorem cOk.join {sep : Str} (h : cOk sep) : ∀ {ts : List Str}, (∀ t ∈ ts, cOk t) → cOk (Str.join sep ts)
  | [], _ => fun c hc => by cases hc
  | [t], k => k t (by simp)
  | t :: u :: r, k => ((k t (by simp)).app h).app (cOk.join h fun x hx => k x (List.mem_cons_of_mem _ hx))
theorem cOk.from {ts : List Str} : ∀ {k : Nat} {acc : Str}, cOk acc → (∀ t ∈ ts, cOk t) → cOk (textFrom k acc ts) := by
  induction ts with
  | nil => exact fun h _ => h
  | cons t ts ih =>
    intro k acc h q
    refine ih ((h.app ?_).app (q t (by simp))) fun x hx => q x (List.mem_cons_of_mem _ hx)
    split
    · exact cOk_comma
    · exact cOk_nil
theorem cOk_list {ts : List Str} (h : ∀ t ∈ ts, cOk t) : cOk (listText ts) := (cOk.from (by unfold cOk; decide +kernel) h).app (by unfold cOk; decide +kernel)
theorem cOk_tuple {ts : List Str} (h : ∀ t ∈ ts, cOk t) : cOk (tupleText ts) := by
  unfold tupleText
  refine (cOk.app (by unfold cOk; decide +kernel) (cOk_comma.join h)).app ?_
  split <;> (unfold cOk; decide +kernel)
theorem char_lt (c : Char) : c.toNat < 0x110000 := by
  have := c.valid
  unfold UInt32.isValidChar Nat.isValidChar at this
  show c.val.toNat < _
  omega
theorem repr_char {q c : Nat} (hq : q < 0x110000) (hc : c < 0x110000) : ∀ x ∈ Builtin.Str.reprChar q c, x < 0x110000 := by
  have hex : ∀ (w : Nat) (x : Nat), x ∈ List.replicate (w - ((Nat.toDigits 16 c).map Char.toNat).length) 48 ++ (Nat.toDigits 16 c).map Char.toNat → x < 0x110000 := fun w x hx => by
    rcases List.mem_append.mp hx with h | h
    · have := (List.mem_replicate.mp h).2; omega
    · obtain ⟨d, _, rfl⟩ := List.mem_map.mp h
      exact char_lt d
  intro x hx
  unfold Builtin.Str.reprChar at hx
  simp only at hx
  split at hx
  · simp at hx; omega
  split at hx
  · simp at hx; omega
  split at hx
  · simp at hx; omega
  split at hx
  · simp at hx; omega
  split at hx
  · simp at hx; omega
  split at hx
  · rcases List.mem_append.mp hx with h | h
    · simp at h; omega
    · exact hex 2 x h
  split at hx
  · rcases List.mem_append.mp hx with h | h
    · simp at h; omega
    · exact hex 4 x h
  · rcases List.mem_append.mp hx with h | h
    · simp at h; omega
    · exact hex 8 x h
theorem repr_quote (x : Str) : PySem.reprQuote x < 0x110000 := by unfold PySem.reprQuote; split <;> omega
theorem cOk_repr {x : Str} (h : cOk x) : cOk (PySem.reprText x) := by
  have key : ∀ (l : List Nat) (acc : Array Nat), (∀ c ∈ l, c < 0x110000) → (∀ c ∈ acc.toList, c < 0x110000) → ∀ c ∈ (l.foldl (fun out c => out ++ (Builtin.Str.reprChar (PySem.reprQuote x) c).toArray) acc).toList, c < 0x110000 := by
    intro l
    induction l with
    | nil => exact fun acc _ k => k
    | cons d l ih =>
      intro acc hl ha
      rw [List.foldl_cons]
      refine ih _ (fun c hc => hl c (List.mem_cons_of_mem _ hc)) fun c hc => ?_
      rw [Array.toList_append] at hc
      rcases List.mem_append.mp hc with q | q
      · exact ha c q
      · exact repr_char (repr_quote x) (hl d (by simp)) c q
  intro c hc
  unfold PySem.reprText at hc
  simp only [Array.toList_push] at hc
  rcases List.mem_append.mp hc with q | q
  · rw [← Array.foldl_toList] at q
    refine key x.cps.toList #[PySem.reprQuote x] h (fun c hc => ?_) c q
    have e : c = PySem.reprQuote x := by simpa using hc
    rw [e]; exact repr_quote x
  · rw [List.mem_singleton.mp q]; exact repr_quote x
mutual
/-- how long the text is at most; none: not known -/
def rz : D → Option Nat
  | .non => some 4
  | .bl _ => some 5
  | .int i => if 0 ≤ i ∧ i ≤ 720 then some 3 else none
  | .str s => if cOkB s then some (10 * s.length + 2) else none
  | .tup l => (rzAll l).map (· + 3)
  | .ftp l => (rzAll l).map (· + 3)
  | .ktp l => (rzAll l).map (· + 3)
  | .lst l => (rzAll l).map (· + 3)
  | .scr l => (rzAll l).map (· + 3)
  | _ => none
def rzAll : List D → Option Nat
  | [] => some 0
  | d :: l => match rz d, rzAll l with
    | some a, some b => some (a + 2 + b)
    | _, _ => none
end
theorem int_shown : ∀ i : Fin 721, (PyData.int (i.1 : Int)).showable = true ∧ cOkB (PyData.int (i.1 : Int)).shown = true ∧ (PyData.int (i.1 : Int)).shown.length ≤ 3 := by decide +kernel
mutual
theorem rz_ok : ∀ (d : D) (n : Nat), rz d = some n → d.py.showable = true ∧ cOk d.py.shown ∧ d.py.shown.length ≤ n
  | .non, n, h => by cases h; exact ⟨by simp [D.py, PyData.showable], by unfold cOk; decide +kernel, by decide +kernel⟩
  | .bl b, n, h => by cases h; cases b <;> exact ⟨by simp [D.py, PyData.showable], by unfold cOk; decide +kernel, by decide +kernel⟩
  | .int i, n, h => by
    unfold rz at h
    obtain ⟨c, rfl⟩ := ite_some h
    obtain ⟨h1, h2, h3⟩ := int_shown ⟨i.toNat, by omega⟩
    have e : ((i.toNat : Nat) : Int) = i := Int.toNat_of_nonneg c.1
    simp only [e] at h1 h2 h3
    exact ⟨h1, cOkB_iff.mp h2, h3⟩
  | .str s, n, h => by
    unfold rz at h
    obtain ⟨c, rfl⟩ := ite_some h
    have c := cOkB_iff.mp c
    have e : (D.str s).py.shown = reprText s := by simp only [D.py, PyData.shown]
    rw [e]
    exact ⟨by simp [D.py, PyData.showable], cOk_repr c, StrLaws.reprText_len s fun x hx => Nat.lt_trans (c x hx) (by decide)⟩
  | .tup l, n, h => by
    unfold rz at h
    obtain ⟨m, hm, rfl⟩ := Option.map_eq_some_iff.mp h
    obtain ⟨h1, h2, h3, h4⟩ := rzAll_ok l m hm
    have h5 := tupleText_len_le (PyData.shownAll (pyAll l))
    have e : (D.tup l).py.shown = tupleText (PyData.shownAll (pyAll l)) := by simp only [D.py, PyData.shown]
    rw [e]
    exact ⟨by simp [D.py, PyData.showable, h1], cOk_tuple h2, by omega⟩
  | .ftp l, n, h => by
    unfold rz at h
    obtain ⟨m, hm, rfl⟩ := Option.map_eq_some_iff.mp h
    obtain ⟨h1, h2, h3, h4⟩ := rzAll_ok l m hm
    have h5 := tupleText_len_le (PyData.shownAll (pyAll l))
    have e : (D.ftp l).py.shown = tupleText (PyData.shownAll (pyAll l)) := by simp only [D.py, PyData.shown]
    rw [e]
    exact ⟨by simp [D.py, PyData.showable, h1], cOk_tuple h2, by omega⟩
  | .ktp l, n, h => by
    unfold rz at h
    obtain ⟨m, hm, rfl⟩ := Option.map_eq_some_iff.mp h
    obtain ⟨h1, h2, h3, h4⟩ := rzAll_ok l m hm
    have h5 := tupleText_len_le (PyData.shownAll (pyAll l))
    have e : (D.ktp l).py.shown = tupleText (PyData.shownAll (pyAll l)) := by simp only [D.py, PyData.shown]
    rw [e]
    exact ⟨by simp [D.py, PyData.showable, h1], cOk_tuple h2, by omega⟩
  | .lst l, n, h => by
    unfold rz at h
    obtain ⟨m, hm, rfl⟩ := Option.map_eq_some_iff.mp h
    obtain ⟨h1, h2, h3, h4⟩ := rzAll_ok l m hm
    have h5 := listText_len_le (PyData.shownAll (pyAll l))
    have e : (D.lst l).py.shown = listText (PyData.shownAll (pyAll l)) := by simp only [D.py, PyData.shown]
    rw [e]
    exact ⟨by simp [D.py, PyData.showable, h1], cOk_list h2, by omega⟩
  | .scr l, n, h => by
    unfold rz at h
    obtain ⟨m, hm, rfl⟩ := Option.map_eq_some_iff.mp h
    obtain ⟨h1, h2, h3, h4⟩ := rzAll_ok l m hm
    have h5 := listText_len_le (PyData.shownAll (pyAll l))
    have e : (D.scr l).py.shown = listText (PyData.shownAll (pyAll l)) := by simp only [D.py, PyData.shown]
    rw [e]
    exact ⟨by simp [D.py, PyData.showable, h1], cOk_list h2, by omega⟩
  | .ptr _, n, h => by cases h
  | .obj _ _, n, h => by cases h
  | .dcK _, n, h => by cases h
  | .dcT _, n, h => by cases h
  | .exc _ _ _ _, n, h => by cases h
theorem rzAll_ok : ∀ (l : List D) (n : Nat), rzAll l = some n → PyData.showableAll (pyAll l) = true ∧ (∀ t ∈ PyData.shownAll (pyAll l), cOk t) ∧ ((PyData.shownAll (pyAll l)).map (·.length)).sum + 2 * (PyData.shownAll (pyAll l)).length ≤ n ∧ (PyData.shownAll (pyAll l)).length = l.length
  | [], n, h => by cases h; exact ⟨by simp [pyAll, PyData.showableAll], fun t ht => by simp [pyAll, PyData.shownAll] at ht, by simp [pyAll, PyData.shownAll], by simp [pyAll, PyData.shownAll]⟩
  | d :: l, n, h => by
    unfold rzAll at h
    split at h
    · rename_i a b e1 e2
      cases h
      obtain ⟨h1, h2, h3⟩ := rz_ok d a e1
      obtain ⟨k1, k2, k3, k4⟩ := rzAll_ok l b e2
      have e : PyData.shownAll (pyAll (d :: l)) = d.py.shown :: PyData.shownAll (pyAll l) := by simp only [pyAll, PyData.shownAll]
      rw [e]
      refine ⟨by simp [pyAll, PyData.showableAll, h1, k1], fun t ht => ?_, ?_, by simp [k4]⟩
      · rcases List.mem_cons.mp ht with rfl | q
        · exact h2
        · exact k2 t q
      · simp only [List.map_cons, List.sum_cons, List.length_cons]; omega
    · cases h
end
def shD (d : D) : Str := d.py.shown
theorem repr_rz {M : Mem} {d : D} {n : Nat} {post : WK} (hs : isSeqD d = true) (hd : d.dp ≤ 16) (h : rz d = some n) (hn : n ≤ 16777216) : gRepr M [d] post = post (.str (shD d)) M := by
  obtain ⟨h1, h2, h3⟩ := rz_ok d n h
  unfold gRepr
  rw [one_one]
  exact propext ⟨fun q => q.2.2.2.2, fun q => ⟨hs, hd, h1, sOk_of (by have : d.py.shown.cps.size = d.py.shown.length := rfl; omega) h2, q⟩⟩
def RepOk (d : D) : Prop := isSeqD d = true ∧ d.dp ≤ 16 ∧ ∃ n, rz d = some n ∧ n ≤ 16777216
theorem repr_ok {M : Mem} {d : D} {post : WK} (h : RepOk d) : gRepr M [d] post = post (.str (shD d)) M := let ⟨a, b, _, c, e⟩ := h; repr_rz a b c e
end FM

namespace FM
open PySem PySem.Spec PyProof.Rows L2 FD
def goodsL (ss : List Str) (rs : List Rule) : List (List Bool) := (every ss.length).filter (good ss rs)
theorem mem_goods {ss : List Str} {rs : List Rule} {t : List Bool} : t ∈ goodsL ss rs ↔ t.length = ss.length ∧ good ss rs t = true := by
  unfold goodsL; rw [List.mem_filter, mem_every]
theorem val_getD {ss : List Str} (nd : ss.Nodup) {t : List Bool} {k : Nat} (h : k < ss.length) : val ss t (ss.getD k "") = t.getD k false := by unfold val; rw [idx_getD nd _ h]
theorem ext_val {ss : List Str} (nd : ss.Nodup) {t u : List Bool} (ht : t.length = ss.length) (hu : u.length = ss.length) (h : ∀ x ∈ ss, val ss t x = val ss u x) : t = u := by
  refine List.ext_getElem (by omega) fun i h1 h2 => ?_
  have hi : i < ss.length := by omega
  have := h _ (getD_mem ("" : Str) hi)
  rw [val_getD nd hi, val_getD nd hi, List.getD_eq_getElem?_getD, List.getD_eq_getElem?_getD, List.getElem?_eq_getElem h1, List.getElem?_eq_getElem h2] at this
  exact this
theorem StepP.same {rs rs' : List Rule} (h : ∀ r, r ∈ rs ↔ r ∈ rs') {a b : Lit} : StepP rs a b ↔ StepP rs' a b := by
  unfold StepP
  exact exists_congr fun r => and_congr_left fun _ => h r
theorem Need.same {rs rs' : List Rule} (h : ∀ r, r ∈ rs ↔ r ∈ rs') {a b : Lit} (n : Need rs a b) : Need rs' a b := by
  induction n with
  | refl => exact .refl _
  | tail _ s ih => exact ih.tail ((StepP.same h).mp s)
theorem InS.sub {ss : List Str} {rs rs' : List Rule} (h : InS ss rs) (k : ∀ r ∈ rs', r ∈ rs) : InS ss rs' := fun r hr => h r (k r hr)
end FM

namespace FM
open PySem PySem.Spec PyProof.Rows L2 FD
def optW : Option Way → D
  | none => .non
  | some w => wayD w
theorem isNon_optW {o : Option Way} : FD.isNon (optW o) = o.isNone := by cases o <;> rfl
theorem rngE_inj {a b : Nat} : rngE a = rngE b ↔ a = b := by unfold rngE; rw [D.int.injEq]; omega
theorem rngs_inj {l m : List Nat} : l.map rngE = m.map rngE ↔ l = m := map_inj rngE_inj
end FM

namespace FD
open PySem PySem.Spec PyProof.Rows L2
section
variable {X : Cx} {o e f : Expr} {apos cpos : Pos} {wo wi wx : WE}
def isDc (M : Mem) (d : D) : Prop := match d with
  | .ptr a => (∃ l, M a = some (.dK l)) ∨ ∃ l, M a = some (.dT l)
  | .dcK _ => True
  | .dcT _ => True
  | _ => False
def wDGetD (wo wi wx : WE) : WE := fun Γ M post => wo Γ M fun d M1 => isDc M1 d ∧ wi Γ M1 fun y M2 => wx Γ M2 fun z M3 => dAt M3 d y fun r => post (r.getD z) M3
theorem wDGetD_e (wo wi wx : WE) : FD.wDGetD wo wi wx = (fun Γ M post => wo Γ M fun d M1 => isDc M1 d ∧ wi Γ M1 fun y M2 => wx Γ M2 fun z M3 => dAt M3 d y fun r => post (r.getD z) M3 : WE) := rfl
def gInD : G2 := fun M x y post => ∃ l, rsv M y = .lst l ∧ (rsv M x).dp ≤ 64 ∧ (D.lst l).dp ≤ 64 ∧ post (.bl (l.any fun z => eqd z (rsv M x))) M
def gNinD : G2 := fun M x y post => ∃ l, rsv M y = .lst l ∧ (rsv M x).dp ≤ 64 ∧ (D.lst l).dp ≤ 64 ∧ post (.bl (!l.any fun z => eqd z (rsv M x))) M
end
end FD

namespace FM
open PySem PySem.Spec PyProof.Rows L2 FD
abbrev KnN := List (Lit × Nat)
def abN (k : Kn) : KnN := k.map fun p => (p.1, p.2.length)
def ab (st : Kn × List Lit) : KnN × List Lit := (abN st.1, st.2)
def nK (k : KnN) : List (List Key × D) := k.map fun p => (litK p.1, D.int (p.2 : Int))
theorem lk_ab {k : Kn} {b : Lit} : (abN k).lookup b = (k.lookup b).map (·.length) := by
  induction k with
  | nil => rfl
  | cons p k ih =>
    obtain ⟨x, w⟩ := p
    show ((x, w.length) :: abN k).lookup b = _
    rw [List.lookup_cons, List.lookup_cons, ih]
    cases b == x <;> rfl
theorem val_nK {k : KnN} {b : Lit} : valD (nK k) (litK b) = (k.lookup b).map fun (n : Nat) => D.int (n : Int) := by
  induction k with
  | nil => rfl
  | cons p k ih =>
    obtain ⟨x, w⟩ := p
    show (if litK x = litK b then some (D.int (w : Int)) else valD (nK k) (litK b)) = _
    rw [List.lookup_cons, ih]
    by_cases h : x = b
    · subst h; simp
    · have h2 : (b == x) = false := by rw [beq_eq_false_iff_ne]; exact fun z => h z.symm
      rw [if_neg (fun z => h (litK_inj.mp z)), h2]
inductive Path (rs : List Rule) : Lit → Way → Lit → Prop
  | nil (a : Lit) : Path rs a [] a
  | cons {a b : Lit} {s : Nat × Lit} {w : Way} (h : s ∈ stepsAt rs a) (t : Path rs s.2 w b) : Path rs a (s :: w) b
theorem Path.snoc {rs : List Rule} {a b : Lit} {w : Way} (h : Path rs a w b) {s : Nat × Lit} (hs : s ∈ stepsAt rs b) : Path rs a (w ++ [s]) s.2 := by
  induction h with
  | nil a => exact .cons hs (.nil _)
  | cons h t ih => exact .cons h (ih hs)
def PI (rs : List Rule) (a : Lit) (k : Kn) : Prop := ∀ q ∈ k, Path rs a q.2 q.1
theorem isDc_wf {M : Mem} {p : Pan} {a : Lit} : isDc M (wfD p a) = True := eq_true trivial
def wnD (p : Pan) (a : Lit) : D := .dcT (nK (abN (wf p.ss p.rs a)))
theorem wn_at {M : Mem} {p : Pan} {a b : Lit} {c : Option D → Prop} : dAt M (wnD p a) (litD b) c = c (((wf p.ss p.rs a).lookup b).map fun w => D.int (w.length : Int)) := by
  unfold wnD
  rw [dAt_dcT, keyT_lit, got_so, val_nK, lk_ab, Option.map_map]
  rfl
theorem wn_some {p : Pan} {a b : Lit} : (((wf p.ss p.rs a).lookup b).map fun w => D.int (w.length : Int)).isSome = inW p.ss p.rs a b := by unfold inW; simp
theorem isT_way {w : Way} {k : List D → Prop} : isT (wayD w) k = k (w.map stD) := rfl
theorem len_way {M : Mem} {w : Way} : lenD M (wayD w) = some (w.length : Int) := by
  unfold wayD
  rw [len_tup, List.length_map]
theorem ty_way {M : Mem} {w : Way} : tyN M (wayD w) = some "tuple" := rfl
theorem ty_st {M : Mem} {s : Nat × Lit} : tyN M (stD s) = some "tuple" := rfl
theorem len_st {M : Mem} {s : Nat × Lit} : lenD M (stD s) = some 2 := rfl
theorem ix_st0 {M : Mem} {s : Nat × Lit} {post : WK} : gIx M (stD s) (.int 0) post = post (.int (s.1 : Int)) M := rfl
theorem ix_st1 {M : Mem} {s : Nat × Lit} {post : WK} : gIx M (stD s) (.int 1) post = post (litD s.2) M := rfl
end FM

namespace FM
open PySem PySem.Spec PyProof.Rows L2 FD
section
variable {M : Mem} {a : Addr} {l : List D} {post : WK}
theorem seq_cell (h : M a = some (.lst l)) : seqOf M (.ptr a) = some l := by unfold seqOf; simp only [h]
theorem len_cell (h : M a = some (.lst l)) : lenD M (.ptr a) = some (l.length : Int) := by
  show (seqOf M (.ptr a)).map _ = _
  rw [seq_cell h]; rfl
theorem tuple_cell (h : M a = some (.lst l)) : gTuple M [.ptr a] post = post (.ftp l) M := by
  show (got (seqOf M (.ptr a)) fun l => post (.ftp l) M) = _
  rw [seq_cell h]; rfl
theorem ix_cell (h : M a = some (.lst l)) {i : Int} : gIx M (.ptr a) (.int i) post = got (atI l i) fun d => post d M := by
  show (got (seqOf M (.ptr a)) fun l' => got (atI l' i) fun d => post d M) = _
  rw [seq_cell h]; rfl
theorem ixN_lt {n k : Nat} (h : k < n) : ixN n (k : Int) = some k := by
  unfold ixN
  rw [if_pos (by omega), if_pos (by omega)]
  rfl
theorem pop_eq (h : M a = some (.lst l)) {i : Nat} (hi : i < l.length) : gPop M (.ptr a) [.int (i : Int)] post = post l[i] (M.upd a (.lst (l.eraseIdx i))) := by
  unfold gPop
  rw [one_one, isI_int, cell_eq h, ixN_lt hi, got_so, List.getElem?_eq_getElem hi, got_so]
end
theorem at_pm {v : Nat} {k : Nat → Prop} (h : v < 2) : got (atI (Str.ofString "+-").cps.toList (v : Int)) k = k (sgc (decide (v = 0))) := by
  rw [pm_cps]
  have hv : v = 0 ∨ v = 1 := by omega
  rcases hv with rfl | rfl <;> rfl
theorem join_signs : ∀ ts : List Bool, Str.join (Str.ofString "") (ts.map sg) = setS ts
  | [] => by decide +kernel
  | [b] => setS_one b
  | b :: c :: r => by
    have e : sg b ++ Str.ofString "" = sg b := by cases b <;> decide +kernel
    show sg b ++ Str.ofString "" ++ Str.join (Str.ofString "") ((c :: r).map sg) = _
    rw [join_signs (c :: r), e, setS_one b, setS_app]
    rfl
theorem sum_ones : ∀ ts : List Bool, ((ts.map sg).map (·.length)).sum = ts.length
  | [] => rfl
  | b :: r => by
    have e : (sg b).length = 1 := by cases b <;> decide +kernel
    rw [List.map_cons, List.map_cons, List.sum_cons, sum_ones r, e, List.length_cons, Nat.add_comm]
theorem jn_signs {M : Mem} {ts : List Bool} {post : WK} (h : ts.length ≤ 16777216) : gJn M (.str (Str.ofString "")) [.lst (ts.map fun b => D.str (sg b))] post = post (setD ts) M := by
  have e : (ts.map fun b => D.str (sg b)) = (ts.map sg).map D.str := by rw [List.map_map]; rfl
  have z : (Str.ofString "").length = 0 := by decide +kernel
  have ok := setS_ok h
  unfold gJn
  rw [one_one, isS_str]
  show (got (seqOf M (.lst (ts.map fun b => D.str (sg b)))) _) = _
  rw [seq_lst, got_so, e, txs_map, got_so, show Txt.join (Str.ofString "") (ts.map sg) = Str.join (Str.ofString "") (ts.map sg) from StrLaws.glued_eq_join _ _, join_signs, sum_ones, z]
  simp only [ok, Nat.mul_zero, Nat.add_zero, h, true_and]
  rfl
def PJ (j p : Addr) (o : MO) (M M' : Mem) : Prop := ∃ a b c : Int, M' = (M.upd j (jg a b c)).upd p o
section
variable {j p : Addr} {o o' : MO} {M M' M2 : Mem}
theorem PJ.new (h : Jm j M M') : PJ j p o M (M'.upd p o) := let ⟨a, b, c, e⟩ := h; ⟨a, b, c, by rw [e]⟩
theorem PJ.step (ne : p ≠ j) (h : PJ j p o M M') (k : Jm j M' M2) : PJ j p o M M2 := by
  obtain ⟨a, b, c, rfl⟩ := h
  obtain ⟨a', b', c', rfl⟩ := k
  exact ⟨a', b', c', by rw [upd_comm ne, Mem.upd_upd]⟩
theorem PJ.set (h : PJ j p o M M') : PJ j p o' M (M'.upd p o') := by
  obtain ⟨a, b, c, rfl⟩ := h
  exact ⟨a, b, c, by rw [Mem.upd_upd]⟩
theorem PJ.jg (ne : p ≠ j) (h : PJ j p o M M') : Jg M' j := by
  obtain ⟨a, b, c, rfl⟩ := h
  exact ⟨a, b, c, by rw [Mem.upd_ne (Ne.symm ne), Mem.upd_same]⟩
theorem PJ.cell (h : PJ j p o M M') : M' p = some o := by
  obtain ⟨a, b, c, rfl⟩ := h
  exact Mem.upd_same
theorem PJ.out (ne : p ≠ j) (hp : M p = none) (h : PJ j p o M M') : ∃ M2, M2.le M' ∧ Jm j M M2 ∧ M2 p = none := by
  obtain ⟨a, b, c, rfl⟩ := h
  refine ⟨M.upd j (FM.jg a b c), Mem.le_upd ?_, ⟨a, b, c, rfl⟩, ?_⟩ <;> (rw [Mem.upd_ne ne]; exact hp)
theorem Jg.ne (h : Jg M j) (hp : M p = none) : p ≠ j := fun z => by
  obtain ⟨a, b, c, e⟩ := h
  rw [z, e] at hp; cases hp
theorem Jm.none (h : Jm j M M') (hp : M' p = none) : M p = none := by
  obtain ⟨a, b, c, rfl⟩ := h
  by_cases e : p = j
  · rw [e, Mem.upd_same] at hp; cases hp
  · rwa [Mem.upd_ne e] at hp
end
theorem any_lits {a : Lit} : ∀ ls : List Lit, ((ls.map litD).any fun z => eqd z (litD a)) = decide (a ∈ ls)
  | [] => by simp
  | b :: ls => by
    rw [List.map_cons, List.any_cons, any_lits ls, eqd_lit]
    by_cases h : b = a
    · subst h; simp
    · have h2 : ¬ a = b := fun z => h z.symm
      simp [h, h2]
theorem inD_lits {M : Mem} {a : Lit} {ls : List Lit} {post : WK} : gInD M (litD a) (.lst (ls.map litD)) post = post (.bl (decide (a ∈ ls))) M := by
  have d := dpAll_lits ls
  refine propext ⟨fun ⟨l, e, _, _, h⟩ => ?_, fun h => ⟨_, rfl, by show (litD a).dp ≤ 64; rw [dp_lit]; omega, by unfold D.dp; omega, ?_⟩⟩
  · cases (show D.lst (ls.map litD) = .lst l from e)
    rw [← any_lits]; exact h
  · show post (.bl ((ls.map litD).any fun z => eqd z (litD a))) M
    rw [any_lits]; exact h
theorem ninD_lits {M : Mem} {a : Lit} {ls : List Lit} {post : WK} : gNinD M (litD a) (.lst (ls.map litD)) post = post (.bl (!decide (a ∈ ls))) M := by
  have d := dpAll_lits ls
  refine propext ⟨fun ⟨l, e, _, _, h⟩ => ?_, fun h => ⟨_, rfl, by show (litD a).dp ≤ 64; rw [dp_lit]; omega, by unfold D.dp; omega, ?_⟩⟩
  · cases (show D.lst (ls.map litD) = .lst l from e)
    rw [← any_lits]; exact h
  · show post (.bl (!(ls.map litD).any fun z => eqd z (litD a))) M
    rw [any_lits]; exact h
theorem optW_some {w : Way} : optW (some w) = wayD w := rfl
theorem optW_none : optW none = D.non := rfl
theorem isNon_way {w : Way} : FD.isNon (wayD w) = false := rfl
theorem ne_way0 {M : Mem} {post : WK} : gNe M (wayD []) (.tup []) post = post (.bl false) M := by
  have e : eqd (wayD []) (.tup []) = true := by decide +kernel
  rw [ne_of_dp rfl rfl (by decide) (by decide), e]
  rfl
def pool14 : List Str := ["a", "b", "c", "ab", "lamp", "on", "switches", "x", "abcdefgh", "aa", "z", "not", "y", "ba"]
theorem pool_nd : pool14.Nodup := by decide +kernel
theorem pool_ok : ∀ s ∈ pool14, nameOk s = true := by decide +kernel
def Drawn (ss pool : List Str) : Prop := (ss ++ pool).Perm pool14
theorem erase_perm {α : Type} : ∀ (l : List α) (i : Nat) (h : i < l.length), ([l[i]] ++ l.eraseIdx i).Perm l
  | x :: l, 0, _ => .refl _
  | x :: l, i + 1, h => by
    have := erase_perm l i (by simpa using h)
    show (l[i]'(by simpa using h) :: x :: l.eraseIdx i).Perm (x :: l)
    exact (List.Perm.swap x _ _).trans (this.cons x)
theorem Drawn.pop {ss pool : List Str} (h : Drawn ss pool) {i : Nat} (hi : i < pool.length) : Drawn (ss ++ [pool[i]]) (pool.eraseIdx i) := by
  unfold Drawn at h ⊢
  refine List.Perm.trans ?_ h
  rw [List.append_assoc]
  refine List.Perm.append_left ss ?_
  exact erase_perm pool i hi
theorem Drawn.len {ss pool : List Str} (h : Drawn ss pool) : ss.length + pool.length = 14 := by
  have := h.length_eq
  rw [List.length_append] at this
  exact this
theorem Drawn.nd {ss pool : List Str} (h : Drawn ss pool) : ss.Nodup := (List.nodup_append.mp (h.nodup_iff.mpr pool_nd)).1
theorem Drawn.ok {ss pool : List Str} (h : Drawn ss pool) : ∀ s ∈ ss, nameOk s = true := fun s hs => pool_ok s (h.mem_iff.mp (List.mem_append_left _ hs))
theorem map_erase {α β : Type} {f : α → β} {l : List α} {i : Nat} : (l.map f).eraseIdx i = (l.eraseIdx i).map f := by
  induction l generalizing i with
  | nil => rfl
  | cons x l ih => cases i with
    | zero => rfl
    | succ i => simp [ih]
end FM

namespace FD
open PySem PySem.Spec PyProof.Rows L2
section
variable {X : Cx}
def gMulL : G2 := fun M x y post => isI y fun n => match x with
  | .lst l => (0 ≤ n ∧ n ≤ 1000000 ∧ l.length * n.toNat ≤ 16777216) ∧ post (.lst (List.replicate n.toNat l).flatten) M
  | _ => False
end
end FD
namespace FM
open PySem PySem.Spec PyProof.Rows L2 FD
theorem mulL2 {M : Mem} {d : D} {post : WK} : gMulL M (.lst [d]) (.int 2) post = post (.lst [d, d]) M := by
  show (((0 : Int) ≤ 2 ∧ (2 : Int) ≤ 1000000 ∧ [d].length * (2 : Int).toNat ≤ 16777216) ∧ post (.lst (List.replicate (2 : Int).toNat [d]).flatten) M) = _
  have e : (List.replicate (2 : Int).toNat [d]).flatten = [d, d] := rfl
  rw [e]
  simp
theorem every_succ {n : Nat} : every (n + 1) = (every n).flatMap fun t => [t ++ [true], t ++ [false]] := rfl
theorem dpAll_sets : ∀ l : List (List Bool), dpAll (l.map setD) = 0
  | [] => rfl
  | a :: l => by
    rw [List.map_cons]
    show max (setD a).dp (dpAll (l.map setD)) = 0
    rw [dpAll_sets l]
    rfl
end FM

namespace FD
open PySem PySem.Spec PyProof.Rows L2
end FD
namespace FM
open PySem PySem.Spec PyProof.Rows L2 FD
theorem dp_rule {r : Rule} : (ruleD r).dp ≤ 2 := by
  cases r <;> simp [ruleD, D.dp, dpAll, dp_lit, dp_tp]
theorem dpAll_rules : ∀ l : List Rule, dpAll (l.map ruleD) ≤ 2
  | [] => by simp [dpAll]
  | r :: l => by
    have h := dp_rule (r := r)
    have h2 := dpAll_rules l
    simp only [List.map_cons, dpAll]
    omega
def r0 : Rule := .be ⟨"", true⟩
theorem dpAll_ints : ∀ l : List Nat, dpAll (l.map rngE) = 0
  | [] => rfl
  | a :: l => by
    rw [List.map_cons]
    show max (rngE a).dp (dpAll (l.map rngE)) = 0
    rw [dpAll_ints l]
    rfl
end FM

namespace FD
open PySem PySem.Spec PyProof.Rows L2
def zip3D : List D → List Nat → List Nat → List D
  | d :: l, c :: cs, e :: es => .tup [d, .str ⟨#[c]⟩, .str ⟨#[e]⟩] :: zip3D l cs es
  | _, _, _ => []
def iZip3D (w : WA) : WI := fun Γ M post => w Γ M fun ds M1 => ∃ d x y, ds = [d, .str x, .str y] ∧ isT d fun l => (l.length = x.cps.toList.length ∧ y.cps.toList.length = x.cps.toList.length) ∧ post (zip3D l x.cps.toList y.cps.toList) noG M1
end FD

namespace FD
open PySem PySem.Spec PyProof.Rows L2
section
variable {X : Cx}
def three (l : List D) (k : D → D → D → Prop) : Prop := match l with
  | [x, y, z] => k x y z
  | _ => False
theorem three_three {x y z : D} {k : D → D → D → Prop} : three [x, y, z] k = k x y z := rfl
def t3 (i j l : Nat) : GD := fun d Γ post => isT d fun q => three q fun x y z => post (((Γ.set i (some x)).set j (some y)).set l (some z))
theorem t3_e (i j l : Nat) : FD.t3 i j l = (fun d Γ post => isT d fun q => three q fun x y z => post (((Γ.set i (some x)).set j (some y)).set l (some z)) : GD) := rfl
section
variable {elt iter tg : Expr} {ifs : List Expr} {scope : Scope} {own : List (Str × Nat)} {pos : Pos} {wi : WI} {gd : GD} {tt : WT} {te : WE}
end
def gNinT : G2 := fun M x y post => ∃ l, tupOf y = some l ∧ (rsv M x).dp ≤ 64 ∧ y.dp ≤ 64 ∧ post (.bl (!l.any fun z => eqd z (rsv M x))) M
end
def gZ3 (ds : List D) (M1 : Mem) (post : List D → (Mem → Prop) → Mem → Prop) : Prop := ∃ d x y, ds = [d, .str x, .str y] ∧ isT d fun l => (l.length = x.cps.toList.length ∧ y.cps.toList.length = x.cps.toList.length) ∧ post (zip3D l x.cps.toList y.cps.toList) noG M1
theorem iZip3D_e (w : WA) : FD.iZip3D w = (fun Γ M post => w Γ M fun ds M1 => gZ3 ds M1 post : WI) := rfl
end FD
namespace FM
open PySem PySem.Spec PyProof.Rows L2 FD
theorem ninT_lits {M : Mem} {a : Lit} {ls : List Lit} {post : WK} : gNinT M (litD a) (.ftp (ls.map litD)) post = post (.bl (!decide (a ∈ ls))) M := by
  have d := dpAll_lits ls
  refine propext ⟨fun ⟨l, e, _, _, h⟩ => ?_, fun h => ⟨_, rfl, by show (litD a).dp ≤ 64; rw [dp_lit]; omega, by unfold D.dp; omega, ?_⟩⟩
  · cases (show some (ls.map litD) = some l from e)
    rw [← any_lits]; exact h
  · show post (.bl (!(ls.map litD).any fun z => eqd z (litD a))) M
    rw [any_lits]; exact h
def z3D (q : Str × Bool × Bool) : D := .tup [.str q.1, .str (sg q.2.1), .str (sg q.2.2)]
theorem zip3_map : ∀ {ss : List Str} {t u : List Bool}, zip3D (ss.map D.str) (t.map sgc) (u.map sgc) = (ss.zip (t.zip u)).map z3D
  | [], t, u => by cases t <;> cases u <;> rfl
  | s :: ss, [], u => by cases u <;> rfl
  | s :: ss, b :: t, [] => rfl
  | s :: ss, b :: t, c :: u => by
    show D.tup [.str s, .str ⟨#[sgc b]⟩, .str ⟨#[sgc c]⟩] :: zip3D (ss.map D.str) (t.map sgc) (u.map sgc) = z3D (s, b, c) :: (ss.zip (t.zip u)).map z3D
    rw [zip3_map]
    unfold z3D
    simp only [sg_eq]
theorem zip3_sets {ss : List Str} {t u : List Bool} {M : Mem} {post : List D → (Mem → Prop) → Mem → Prop} :
    gZ3 [strsF ss, setD t, setD u] M post = ((ss.length = t.length ∧ u.length = t.length) ∧ post ((ss.zip (t.zip u)).map z3D) noG M) := by
  refine propext ⟨?_, fun h => ⟨strsF ss, setS t, setS u, rfl, ?_⟩⟩
  · rintro ⟨d, x, y, e, h⟩
    simp only [List.cons.injEq, and_true, setD, D.str.injEq] at e
    obtain ⟨rfl, rfl, rfl⟩ := e
    rw [isT_ftp, setS_cps, setS_cps, zip3_map, List.length_map, List.length_map, List.length_map] at h
    exact h
  · rw [isT_ftp, setS_cps, setS_cps, zip3_map, List.length_map, List.length_map, List.length_map]
    exact h
def unlikeL (ss : List Str) (t u : List Bool) : List Str := ((ss.zip (t.zip u)).filter fun q => !decide (q.2.1 = q.2.2)).map (·.1)
theorem isT_z3 {q : Str × Bool × Bool} {k : List D → Prop} : isT (z3D q) k = k [.str q.1, .str (sg q.2.1), .str (sg q.2.2)] := rfl
theorem inL_lock {p : Pan} {x : Str} {M : Mem} {post : WK} : gIn M (.str x) (lockD p) post = post (.bl (decide (x ∈ lockS p))) M := by
  unfold lockD
  rw [in_tp, inL_strs, flatSs]
  simp [flatD]
end FM

namespace FM
open PySem PySem.Spec PyProof.Rows L2 FD
theorem add_rules {l : List Rule} {f : Bool} {r : Rule} {k : D → Prop} : got (addD (tp f (l.map ruleD)) (.tup [ruleD r])) k = (l.length + 1 ≤ 16777216 ∧ k (.tup ((l ++ [r]).map ruleD))) := by
  have e : addD (tp f (l.map ruleD)) (.tup [ruleD r]) = if (l.map ruleD).length + 1 ≤ 16777216 then some (.tup ((l ++ [r]).map ruleD)) else none := by
    have e2 : (if l.map ruleD = [] then D.tup [ruleD r] else .tup (l.map ruleD ++ [ruleD r])) = .tup ((l ++ [r]).map ruleD) := by
      cases l with
      | nil => rfl
      | cons x l => simp
    cases f
    · show (if (l.map ruleD).length + 1 ≤ 16777216 then some (if l.map ruleD = [] then D.tup [ruleD r] else if [ruleD r] = [] then _ else .tup (l.map ruleD ++ [ruleD r])) else none) = _
      rw [if_neg (show ¬ [ruleD r] = [] by simp), e2]
    · show (if (l.map ruleD).length + 1 ≤ 16777216 then some (if l.map ruleD = [] then D.tup [ruleD r] else if [ruleD r] = [] then _ else .tup (l.map ruleD ++ [ruleD r])) else none) = _
      rw [if_neg (show ¬ [ruleD r] = [] by simp), e2]
  rw [e, List.length_map]
  by_cases h : l.length + 1 ≤ 16777216
  · rw [if_pos h, got_so]
    exact propext ⟨fun q => ⟨h, q⟩, fun q => q.2⟩
  · rw [if_neg h]
    exact propext ⟨fun q => (by obtain ⟨_, z, _⟩ := got_of q; cases z), fun q => absurd q.1 h⟩
theorem add_rulesT {l : List Rule} {r : Rule} {k : D → Prop} : got (addD (.ftp (l.map ruleD)) (.tup [ruleD r])) k = (l.length + 1 ≤ 16777216 ∧ k (.tup ((l ++ [r]).map ruleD))) := add_rules (f := true)
theorem add_rulesF {l : List Rule} {r : Rule} {k : D → Prop} : got (addD (.tup (l.map ruleD)) (.tup [ruleD r])) k = (l.length + 1 ≤ 16777216 ∧ k (.tup ((l ++ [r]).map ruleD))) := add_rules (f := false)
section
variable {p q : Pan}
theorem StepP.more {rs rs' : List Rule} (h : ∀ r ∈ rs, r ∈ rs') {a b : Lit} (s : StepP rs a b) : StepP rs' a b := let ⟨r, hr, hs⟩ := s; ⟨r, h r hr, hs⟩
theorem Need.more {rs rs' : List Rule} (h : ∀ r ∈ rs, r ∈ rs') {a b : Lit} (n : Need rs a b) : Need rs' a b := by
  induction n with
  | refl => exact .refl _
  | tail _ s ih => exact ih.tail (s.more h)
end
theorem eqAll_refl {α : Type} {f : α → D} (h : ∀ x, eqd (f x) (f x) = true) : ∀ l : List α, PyData.eqvAll (pyAll (l.map f)) (pyAll (l.map f)) = true
  | [] => rfl
  | x :: l => by
    show (PyData.eqv (f x).py (f x).py && PyData.eqvAll (pyAll (l.map f)) (pyAll (l.map f))) = true
    rw [eqAll_refl h l, show PyData.eqv (f x).py (f x).py = true from h x]
    rfl
theorem ne_ftp_same {α : Type} {f : α → D} {l : List α} {M : Mem} {post : WK} (h : ∀ x, eqd (f x) (f x) = true) (d : dpAll (l.map f) ≤ 60) : gNe M (.ftp (l.map f)) (.ftp (l.map f)) post = post (.bl false) M := by
  have e : eqd (.ftp (l.map f)) (.ftp (l.map f)) = true := eqAll_refl h l
  rw [ne_of_dp rfl rfl (by unfold D.dp; omega) (by unfold D.dp; omega), e]
  rfl
theorem ne_ftp_sets {l : List (List Bool)} {M : Mem} {post : WK} : gNe M (.ftp (l.map setD)) (.ftp (l.map setD)) post = post (.bl false) M := ne_ftp_same (fun x => by unfold setD; rw [eqd_str]; simp) (by rw [dpAll_sets]; omega)
theorem ne_ftp_lits {l : List Lit} {M : Mem} {post : WK} : gNe M (.ftp (l.map litD)) (.ftp (l.map litD)) post = post (.bl false) M := ne_ftp_same (fun x => by rw [eqd_lit]; simp) (by have := dpAll_lits l; omega)
theorem ne_ftp_strs {l : List Str} {M : Mem} {post : WK} : gNe M (strsF l) (strsF l) post = post (.bl false) M := ne_ftp_same (fun x => by rw [eqd_str]; simp) (by rw [dpAll_strs]; omega)
end FM

namespace FM
section
variable {α : Type} [DecidableEq α]
def nxt (U : List α) (P : List (α × α)) (S : List α) : List α := U.filter fun y => !decide (y ∈ S) && P.all fun q => !decide (q.2 = y) || decide (q.1 ∈ S)
def lv (U : List α) (P : List (α × α)) : Nat → List (List α)
  | 0 => [[]]
  | n + 1 => (lv U P n).flatMap fun S => (nxt U P S).map fun y => S ++ [y]
def cm (U : List α) (P : List (α × α)) : Nat → List α → List (List α)
  | 0, _ => [[]]
  | n + 1, S => (nxt U P S).flatMap fun y => (cm U P n (S ++ [y])).map fun r => y :: r
def gr (U : List α) (P : List (α × α)) : Nat → List α → List α
  | 0, _ => []
  | n + 1, S => match nxt U P S with
    | [] => []
    | y :: _ => y :: gr U P n (S ++ [y])
variable {U : List α} {P : List (α × α)}
theorem lv_mem : ∀ {n : Nat} {S : List α}, S ∈ lv U P n → S.length = n ∧ S.Nodup ∧ ∀ x ∈ S, x ∈ U
  | 0, S, h => by
    simp [lv] at h; subst h; simp
  | n + 1, S, h => by
    simp only [lv, List.mem_flatMap, List.mem_map] at h
    obtain ⟨S', h1, y, h2, rfl⟩ := h
    obtain ⟨a, b, c⟩ := lv_mem h1
    unfold nxt at h2
    rw [List.mem_filter] at h2
    simp only [Bool.and_eq_true, Bool.not_eq_true', decide_eq_false_iff_not] at h2
    refine ⟨by simp [a], ?_, ?_⟩
    · rw [List.nodup_append]
      refine ⟨b, by simp, ?_⟩
      intro x hx z hz
      simp at hz; subst hz
      exact fun e => h2.2.1 (e ▸ hx)
    · intro x hx
      rw [List.mem_append, List.mem_singleton] at hx
      rcases hx with hx | rfl
      · exact c x hx
      · exact h2.1
theorem sub_len : ∀ {l m : List α}, l.Nodup → (∀ x ∈ l, x ∈ m) → l.length ≤ m.length
  | [], _, _, _ => by simp
  | a :: l, m, nd, h => by
    rw [List.nodup_cons] at nd
    have ha : a ∈ m := h a (by simp)
    have := sub_len (l := l) (m := m.erase a) nd.2 fun x hx => by
      have ne : x ≠ a := fun e => nd.1 (e ▸ hx)
      exact (List.mem_erase_of_ne ne).mpr (h x (by simp [hx]))
    rw [List.length_erase_of_mem ha] at this
    have := List.length_pos_of_mem ha
    simp; omega
def keyU (U S : List α) : List α := U.filter fun x => decide (x ∈ S)
def addc (acc : List (List α × Nat)) (g : List α) (m : Nat) : List (List α × Nat) :=
  if (acc.any fun p => decide (p.1 = g)) = true then acc.map (fun p => if p.1 = g then (p.1, p.2 + m) else p) else acc ++ [(g, m)]
def dp1 (U : List α) (P : List (α × α)) (acc : List (List α × Nat)) (p : List α × Nat) : List (List α × Nat) := (nxt U P p.1).foldl (fun acc y => addc acc (keyU U (p.1 ++ [y])) p.2) acc
def dp (U : List α) (P : List (α × α)) : Nat → List (List α × Nat)
  | 0 => [([], 1)]
  | n + 1 => (dp U P n).foldl (dp1 U P) []
def ex (l : List (List α × Nat)) : List (List α) := l.flatMap fun p => List.replicate p.2 p.1
structure DpI (l : List (List α × Nat)) : Prop where
  nd : (l.map (·.1)).Nodup
  pos : ∀ p ∈ l, 0 < p.2
end
end FM

namespace FM
open PySem PySem.Spec PyProof.Rows L2 FD
theorem getD_idx {ss : List Str} {y : Str} (h : y ∈ ss) : ss.getD (ss.idxOf y) "" = y := by
  have hi := List.idxOf_lt_length_of_mem h
  rw [List.getD_eq_getElem?_getD, List.getElem?_eq_getElem hi]
  exact List.getElem_idxOf hi
def flips (ss : List Str) (t : List Bool) (S : List Str) : List Bool := S.foldl (fun t x => flip t (ss.idxOf x)) t
theorem flips_app {ss : List Str} {t : List Bool} {S : List Str} {y : Str} : flips ss t (S ++ [y]) = flip (flips ss t S) (ss.idxOf y) := by unfold flips; rw [List.foldl_append]; rfl
theorem flips_len {ss : List Str} : ∀ {S : List Str} {t : List Bool}, t.length = ss.length → (∀ x ∈ S, x ∈ ss) → (flips ss t S).length = ss.length
  | [], t, h, _ => h
  | x :: S, t, h, hS => by
    have hi := List.idxOf_lt_length_of_mem (hS x (by simp))
    exact flips_len (S := S) (t := flip t (ss.idxOf x)) (by rw [flip_len (by omega)]; exact h) fun z hz => hS z (by simp [hz])
theorem val_flips {ss : List Str} (nd : ss.Nodup) {n : Str} (hn : n ∈ ss) : ∀ {S : List Str} {t : List Bool}, t.length = ss.length → S.Nodup → (∀ x ∈ S, x ∈ ss) → val ss (flips ss t S) n = if n ∈ S then !val ss t n else val ss t n
  | [], t, h, _, _ => by simp [flips]
  | x :: S, t, h, ndS, hS => by
    have hx := hS x (by simp)
    have hi := List.idxOf_lt_length_of_mem hx
    rw [List.nodup_cons] at ndS
    have e : flips ss t (x :: S) = flips ss (flip t (ss.idxOf x)) S := rfl
    rw [e, val_flips nd hn (by rw [flip_len (by omega)]; exact h) ndS.2 fun z hz => hS z (by simp [hz]), val_flip nd h hi n hn, getD_idx hx]
    by_cases e1 : n = x
    · subst e1
      rw [if_neg ndS.1, if_pos rfl, if_pos (by simp)]
    · rw [if_neg e1]
      by_cases e2 : n ∈ S
      · rw [if_pos e2, if_pos (by simp [e2])]
      · rw [if_neg e2, if_neg (by simp [e1, e2])]
theorem zip_flt {α β : Type} {f : β → Bool} : ∀ {ss : List α} {z : List β} {g : α → Bool}, ss.length = z.length → (∀ (i : Nat) (a : α) (b : β), ss[i]? = some a → z[i]? = some b → g a = f b) → ((ss.zip z).filter fun q => f q.2).map (·.1) = ss.filter g
  | [], _, _, _, _ => by simp
  | a :: ss, [], _, h, _ => by simp at h
  | a :: ss, b :: z, g, h, k => by
    have h0 := k 0 a b rfl rfl
    have ih := zip_flt (ss := ss) (z := z) (g := g) (by simpa using h) fun i a b h1 h2 => k (i + 1) a b (by simpa using h1) (by simpa using h2)
    rw [List.zip_cons_cons]
    cases e : f b with
    | true => rw [List.filter_cons_of_pos (by exact e), List.filter_cons_of_pos (by rw [h0]; exact e), List.map_cons, ih]
    | false => rw [List.filter_cons_of_neg (by simp [e]), List.filter_cons_of_neg (by rw [h0]; simp [e]), ih]
theorem unlike_eq {ss : List Str} (nd : ss.Nodup) {t u : List Bool} (lt : t.length = ss.length) (lu : u.length = ss.length) : unlikeL ss t u = ss.filter fun x => !decide (val ss t x = val ss u x) := by
  unfold unlikeL
  refine zip_flt (f := fun q : Bool × Bool => !decide (q.1 = q.2)) (by simp; omega) ?_
  intro i a b h1 h2
  obtain ⟨hi, e1⟩ := List.getElem?_eq_some_iff.mp h1
  have ea : a = ss.getD i "" := by rw [List.getD_eq_getElem?_getD, h1]; rfl
  rw [ea, val_getD nd hi, val_getD nd hi]
  rw [List.getElem?_zip_eq_some] at h2
  simp only [List.getD_eq_getElem?_getD, h2.1, h2.2, Option.getD_some]
theorem mem_unlike {ss : List Str} (nd : ss.Nodup) {t u : List Bool} (lt : t.length = ss.length) (lu : u.length = ss.length) {x : Str} : x ∈ unlikeL ss t u ↔ x ∈ ss ∧ val ss t x ≠ val ss u x := by
  rw [unlike_eq nd lt lu, List.mem_filter]; simp
theorem unlike_nodup {ss : List Str} (nd : ss.Nodup) {t u : List Bool} (lt : t.length = ss.length) (lu : u.length = ss.length) : (unlikeL ss t u).Nodup := by
  rw [unlike_eq nd lt lu]; exact nd.filter _
def pairsL (p : Pan) (t u : List Bool) : List (Str × Str) := (unlikeL p.ss t u).flatMap fun x => ((unlikeL p.ss t u).filter fun y => !decide (x = y) && inW p.ss p.rs ⟨y, val p.ss u y⟩ ⟨x, val p.ss u x⟩).map fun y => (x, y)
theorem mem_pairs {p : Pan} {t u : List Bool} {q : Str × Str} : q ∈ pairsL p t u ↔ q.1 ∈ unlikeL p.ss t u ∧ q.2 ∈ unlikeL p.ss t u ∧ q.1 ≠ q.2 ∧ inW p.ss p.rs ⟨q.2, val p.ss u q.2⟩ ⟨q.1, val p.ss u q.1⟩ = true := by
  unfold pairsL
  rw [List.mem_flatMap]
  constructor
  · rintro ⟨x, hx, h⟩
    obtain ⟨y, hy, rfl⟩ := List.mem_map.mp h
    rw [List.mem_filter] at hy
    simp at hy
    exact ⟨hx, hy.1, hy.2.1, hy.2.2⟩
  · rintro ⟨h1, h2, h3, h4⟩
    exact ⟨q.1, h1, List.mem_map.mpr ⟨q.2, List.mem_filter.mpr ⟨h2, by simp [h3, h4]⟩, rfl⟩⟩
def leadsL (ss : List Str) (rs : List Rule) : List Bool → List Str → Option (List Bool)
  | t, [] => some t
  | t, x :: r => if good ss rs (flip t (ss.idxOf x)) = true then leadsL ss rs (flip t (ss.idxOf x)) r else none
theorem leads_app {ss : List Str} {rs : List Rule} {y : Str} : ∀ {S : List Str} {t : List Bool}, leadsL ss rs t (S ++ [y]) = (leadsL ss rs t S).bind fun t' => leadsL ss rs t' [y]
  | [], t => rfl
  | x :: S, t => by
    rw [List.cons_append]
    unfold leadsL
    split
    · exact leads_app
    · rfl
inductive RF (ss : List Str) (rs : List Rule) (t : List Bool) : List Bool → Prop
  | refl : RF ss rs t t
  | step {v : List Bool} {k : Nat} (h : RF ss rs t v) (hk : k < ss.length) (g : good ss rs (flip v k) = true) : RF ss rs t (flip v k)
theorem RF.ok {p : Pan} {t u : List Bool} (lt : t.length = p.ss.length) (gt : good p.ss p.rs t = true) (h : RF p.ss p.rs t u) : u.length = p.ss.length ∧ good p.ss p.rs u = true ∧ ∀ x ∈ lockedL p.ss p.rs, val p.ss t x = val p.ss u x := by
  induction h with
  | refl => exact ⟨lt, gt, fun _ _ => rfl⟩
  | @step v k _ hk g ih =>
    obtain ⟨lv', gv, ih⟩ := ih
    refine ⟨by rw [flip_len (by omega)]; exact lv', g, fun x hx => ?_⟩
    have nf := flip_free lv' hk gv g
    rw [val_flip p.sw.2.2.1 lv' hk x (List.mem_filter.mp hx).1, if_neg (fun e : x = p.ss.getD k "" => nf (e ▸ hx))]
    exact ih x hx
def orderL (p : Pan) (t u : List Bool) : List Str := gr (unlikeL p.ss t u) (pairsL p t u) (unlikeL p.ss t u).length []
def manyL (p : Pan) (t u : List Bool) : Nat := (lv (unlikeL p.ss t u) (pairsL p t u) (unlikeL p.ss t u).length).length
end FM

namespace FD
open PySem PySem.Spec PyProof.Rows L2
def keyD : Key → D
  | .inl i => .int i
  | .inr x => .str x
def kOk : Key → Bool
  | .inl _ => true
  | .inr x => sOk x
def keysOk (l : List (List Key × D)) : Prop := ∀ p ∈ l, p.1.all kOk = true ∧ p.1.length ≤ 16777216
def itemsD (l : List (List Key × D)) : List D := l.map fun p => .tup [.tup (p.1.map keyD), p.2]
def back (E : DEnds) (a : Addr) (l : List (List Key × D)) : DEnds := { nx := fun Γ' M' => E.nx Γ' (M'.upd a (.dT l)), rt := fun v M' => E.rt v (M'.upd a (.dT l)), bk := fun Γ' M' => E.bk Γ' (M'.upd a (.dT l)), ct := fun Γ' M' => E.ct Γ' (M'.upd a (.dT l)) }
def ForIT (d : D) (M : Mem) (Γ : Env) (g : WG) (tb : WS) (E : DEnds) : Prop := ∃ a l, d = .ptr a ∧ M a = some (.dT l) ∧ keysOk l ∧ l.length ≤ 16777216 ∧ ForI (itemsD l) noG g tb (back E a l) Γ (M.del a)
def sForIT (i : Nat) (g : WG) (tb : WS) : WS := fun E Γ M => look Γ i fun d => ForIT d M Γ g tb E
theorem sForIT_e (i : Nat) (g : WG) (tb : WS) : FD.sForIT i g tb = (fun E Γ M => look Γ i fun d => ForIT d M Γ g tb E : WS) := rfl
end FD

namespace FD
open PySem PySem.Spec PyProof.Rows L2
def x0 : Expr := .Name "" ⟨0, 0, 0, 0⟩
def s0 : Stmt := .Pass ⟨0, 0, 0, 0⟩
section
variable {X : Cx}
def gTupleP : GA := fun M ds post => one ds fun d => got (lstOf M d) fun l => post (.tup l) M
theorem tupleP_lst {M : Mem} {l : List D} {post : WK} : gTupleP M [.lst l] post = post (.tup l) M := rfl
end
end FD

namespace FM
open PySem PySem.Spec PyProof.Rows L2 FD
def prD (q : Str × Str) : D := .tup [.str q.1, .str q.2]
theorem prD_inj {p q : Str × Str} : prD p = prD q ↔ p = q := by
  obtain ⟨a, b⟩ := p; obtain ⟨c, d⟩ := q
  unfold prD; simp
theorem prs_inj {l m : List (Str × Str)} : l.map prD = m.map prD ↔ l = m := map_inj prD_inj
theorem isT_pr {q : Str × Str} {k : List D → Prop} : isT (prD q) k = k [.str q.1, .str q.2] := rfl
def itD (p : List Str × Nat) : D := .tup [.tup (p.1.map D.str), .int (p.2 : Int)]
theorem isT_it {p : List Str × Nat} {k : List D → Prop} : isT (itD p) k = k [.tup (p.1.map D.str), .int (p.2 : Int)] := rfl
def fl (m : Nat) : Nat → Nat
  | 0 => 1
  | n + 1 => fl m n * (m - n)
theorem fl_small : ∀ m n : Fin 9, fl m.1 n.1 ≤ 40320 := by decide +kernel
theorem nxt_len {U : List Str} {P : List (Str × Str)} (nd : U.Nodup) {S : List Str} (ndS : S.Nodup) (hS : ∀ x ∈ S, x ∈ U) : (nxt U P S).length ≤ U.length - S.length := by
  have h1 : (nxt U P S).Nodup := nd.filter _
  have := sub_len (l := nxt U P S ++ S) (m := U) (by
    rw [List.nodup_append]
    refine ⟨h1, ndS, fun a ha b hb e => ?_⟩
    subst e
    unfold nxt at ha
    rw [List.mem_filter, Bool.and_eq_true] at ha
    have := ha.2.1
    simp at this
    exact this hb) fun x hx => by
      rcases List.mem_append.mp hx with hx | hx
      · exact (List.mem_filter.mp hx).1
      · exact hS x hx
  rw [List.length_append] at this
  omega
theorem flat_le {α β : Type} {f : α → List β} {c : Nat} : ∀ {l : List α}, (∀ x ∈ l, (f x).length ≤ c) → (l.flatMap f).length ≤ l.length * c
  | [], _ => by simp
  | a :: l, h => by
    rw [List.flatMap_cons, List.length_append, List.length_cons, Nat.succ_mul]
    have := h a (by simp)
    have := flat_le (l := l) fun x hx => h x (by simp [hx])
    omega
theorem lv_len {U : List Str} {P : List (Str × Str)} (nd : U.Nodup) : ∀ n, (lv U P n).length ≤ fl U.length n
  | 0 => by simp [lv, fl]
  | n + 1 => by
    have ih := lv_len (P := P) nd n
    show ((lv U P n).flatMap fun S => (nxt U P S).map fun y => S ++ [y]).length ≤ fl U.length n * (U.length - n)
    refine Nat.le_trans (flat_le (c := U.length - n) fun S hS => ?_) (Nat.mul_le_mul_right _ ih)
    obtain ⟨a, b, c⟩ := lv_mem hS
    rw [List.length_map]
    have := nxt_len (P := P) nd b c
    omega
theorem lv_small {U : List Str} {P : List (Str × Str)} (nd : U.Nodup) (h : U.length ≤ 8) {n : Nat} (hn : n ≤ U.length) : (lv U P n).length ≤ 40320 :=
  Nat.le_trans (lv_len nd n) (fl_small ⟨U.length, by omega⟩ ⟨n, by omega⟩)
structure DpS (U : List Str) (P : List (Str × Str)) (i : Nat) (l : List (List Str × Nat)) : Prop where
  c : DpI l
  k : ∀ p ∈ l, p.1 ∈ (lv U P i).map (keyU U)
theorem DpS.len {U : List Str} {P : List (Str × Str)} {i : Nat} {l : List (List Str × Nat)} (h : DpS U P i l) (nd : U.Nodup) (h8 : U.length ≤ 8) (hi : i ≤ U.length) : l.length ≤ 40320 := by
  have := sub_len (l := l.map (·.1)) (m := (lv U P i).map (keyU U)) h.c.nd fun x hx => by
    obtain ⟨p, hp, rfl⟩ := List.mem_map.mp hx
    exact h.k p hp
  rw [List.length_map, List.length_map] at this
  exact Nat.le_trans this (lv_small nd h8 hi)
theorem name_sOk {s : Str} (h : nameOk s = true) : sOk s = true := by
  unfold nameOk at h
  simp only [Bool.and_eq_true, decide_eq_true_eq] at h
  obtain ⟨⟨⟨h1, h2⟩, h3⟩, h4⟩ := h
  refine sOk_of (by have : s.cps.size = s.length := rfl; omega) fun c hc => ?_
  rw [List.all_eq_true] at h4
  have := of_decide_eq_true (h4 c hc)
  have key : ∀ c ∈ letters.cps.toList, c < 0x110000 := by decide +kernel
  exact key c this
end FM

namespace FD
open PySem PySem.Spec PyProof.Rows L2
section
variable {X : Cx}
end
end FD
namespace FM
open PySem PySem.Spec PyProof.Rows L2 FD
structure Rc (ss : List Str) (rs : List Rule) (t : List Bool) (ts : List (List Bool × Nat)) : Prop where
  nd : (ts.map (·.1)).Nodup
  rf : ∀ u ∈ ts.map (·.1), RF ss rs t u ∧ (u = t ∨ u ∈ goodsL ss rs)
theorem Rc.len {ss : List Str} {rs : List Rule} {t : List Bool} {ts : List (List Bool × Nat)} (h : Rc ss rs t ts) (hs : ss.length ≤ 12) : ts.length ≤ 4097 := by
  have h1 := sub_len (l := ts.map (·.1)) (m := t :: goodsL ss rs) h.nd fun u hu => by
    rcases (h.rf u hu).2 with e | e
    · simp [e]
    · simp [e]
  have h2 : (goodsL ss rs).length ≤ (every ss.length).length := List.length_filter_le ..
  have h3 := every_small (n := ss.length) hs
  rw [List.length_map, List.length_cons] at h1
  omega
theorem Rc.start {ss : List Str} {rs : List Rule} {t : List Bool} : Rc ss rs t [(t, 0)] := ⟨by simp, fun u hu => by simp at hu; subst hu; exact ⟨.refl, .inl rfl⟩⟩
def optL : Option (List Bool) → D
  | some t => setD t
  | none => .non
theorem isNon_optL {o : Option (List Bool)} : FD.isNon (optL o) = o.isNone := by cases o <;> rfl
theorem isNon_set {t : List Bool} : FD.isNon (setD t) = false := rfl
def seqD (S : List Str) : D := .tup (S.map D.str)
theorem add_strs {S : List Str} {y : Str} {k : D → Prop} : got (addD (.tup (S.map D.str)) (.tup [.str y])) k = (S.length + 1 ≤ 16777216 ∧ k (seqD (S ++ [y]))) := by
  have e : addD (.tup (S.map D.str)) (.tup [.str y]) = if (S.map D.str).length + 1 ≤ 16777216 then some (seqD (S ++ [y])) else none := by
    rw [addD_tup rfl rfl]
    congr 1
    by_cases h : S = []
    · subst h; rfl
    · rw [if_neg (by simp [h]), if_neg (by simp)]
      unfold seqD; rw [List.map_append]; rfl
  rw [e, List.length_map]
  by_cases h : S.length + 1 ≤ 16777216
  · rw [if_pos h]; exact propext ⟨fun z => ⟨h, z⟩, fun z => z.2⟩
  · rw [if_neg h]; exact propext ⟨fun z => z.elim, fun z => h z.1⟩
theorem unlike_self {ss : List Str} (nd : ss.Nodup) {u : List Bool} (lu : u.length = ss.length) : unlikeL ss u u = [] := by
  rw [unlike_eq nd lu lu, List.filter_eq_nil_iff]; simp
end FM

namespace FD
open PySem PySem.Spec PyProof.Rows L2
section
variable {prog : Program} {w : World} {A : Around} {E : Value → Shared → Prop} {s : Shared}
end
section
variable {X : Cx}
end
end FD
namespace FM
open PySem PySem.Spec PyProof.Rows L2 FD
theorem rising_pw : ∀ {p : Str} {l : List Str}, risingS p l = true → (p :: l).Pairwise fun a b => ¬ (b.cps.toList < a.cps.toList)
  | p, [], _ => by simp
  | p, x :: r, h => by
    have h : (!ltCps x.cps.toList p.cps.toList && risingS x r) = true := h
    rw [Bool.and_eq_true, ltCps_eq] at h
    have ih := rising_pw h.2
    have h1 : ¬ (x.cps.toList < p.cps.toList) := by simpa using h.1
    refine List.pairwise_cons.mpr ⟨fun y hy => ?_, ih⟩
    rcases List.mem_cons.mp hy with rfl | hy
    · exact h1
    · have h2 := (List.pairwise_cons.mp ih).1 y hy
      have a : p.cps.toList ≤ x.cps.toList := h1
      have b : x.cps.toList ≤ y.cps.toList := h2
      exact List.le_trans a b
theorem pw_uniq : ∀ {l m : List Str}, l.Perm m → (l.Pairwise fun a b => ¬ (b.cps.toList < a.cps.toList)) → (m.Pairwise fun a b => ¬ (b.cps.toList < a.cps.toList)) → l = m
  | [], m, h, _, _ => (List.Perm.nil_eq h)
  | a :: l, [], h, _, _ => by have := h.length_eq; simp at this
  | a :: l, b :: m, h, h1, h2 => by
    have e : a = b := by
      have ha : a ∈ b :: m := h.mem_iff.mp (by simp)
      have hb : b ∈ a :: l := h.mem_iff.mpr (by simp)
      rcases List.mem_cons.mp ha with e | ha
      · exact e
      · rcases List.mem_cons.mp hb with e | hb
        · exact e.symm
        · have q1 : b.cps.toList ≤ a.cps.toList := (List.pairwise_cons.mp h2).1 a ha
          have q2 : a.cps.toList ≤ b.cps.toList := (List.pairwise_cons.mp h1).1 b hb
          have q := List.le_antisymm q2 q1
          obtain ⟨⟨x⟩⟩ := a
          obtain ⟨⟨y⟩⟩ := b
          simp at q
          rw [q]
    subst e
    rw [pw_uniq (List.Perm.cons_inv h) (List.pairwise_cons.mp h1).2 (List.pairwise_cons.mp h2).2]
theorem nodup_perm {l m : List Str} (h1 : l.Nodup) (h2 : m.Nodup) (h : ∀ x ∈ l, x ∈ m) (hl : m.length ≤ l.length) : l.Perm m := by
  rw [List.perm_ext_iff_of_nodup h1 h2]
  intro x
  refine ⟨h x, fun hx => ?_⟩
  apply Classical.byContradiction
  intro c
  have := sub_len (l := x :: l) (m := m) (List.nodup_cons.mpr ⟨c, h1⟩) fun z hz => by
    rcases List.mem_cons.mp hz with rfl | hz
    · exact hx
    · exact h z hz
  simp at this; omega
theorem flip_unlike {p : Pan} {t v : List Bool} (lt : t.length = p.ss.length) (lv' : v.length = p.ss.length) {k : Nat} (hk : k < p.ss.length) : (unlikeL p.ss t (flip v k)).length ≤ (unlikeL p.ss t v).length + 1 := by
  have nd := p.sw.2.2.1
  have fl : (flip v k).length = p.ss.length := by rw [flip_len (by omega)]; exact lv'
  have := sub_len (l := unlikeL p.ss t (flip v k)) (m := p.ss.getD k "" :: unlikeL p.ss t v) (unlike_nodup nd lt fl) fun x hx => by
    obtain ⟨h1, h2⟩ := (mem_unlike nd lt fl).mp hx
    rw [val_flip nd lv' hk x h1] at h2
    by_cases e : x = p.ss.getD k ""
    · simp [e]
    · rw [if_neg e] at h2
      exact List.mem_cons_of_mem _ ((mem_unlike nd lt lv').mpr ⟨h1, h2⟩)
  simpa using this
structure Wk (p : Pan) (t u : List Bool) (n : Nat) : Prop where
  rf : RF p.ss p.rs t u
  len : u.length = p.ss.length
  few : (unlikeL p.ss t u).length ≤ n
theorem Wk.start {p : Pan} {t : List Bool} (h : t.length = p.ss.length) : Wk p t t 0 := ⟨.refl, h, by rw [unlike_self p.sw.2.2.1 h]; simp⟩
theorem Wk.step {p : Pan} {t u : List Bool} {n k : Nat} (lt : t.length = p.ss.length) (w : Wk p t u n) (hk : k < p.ss.length) (g : good p.ss p.rs (flip u k) = true) : Wk p t (flip u k) (n + 1) :=
  ⟨.step w.rf hk g, by rw [flip_len (by rw [w.len]; exact hk)]; exact w.len, Nat.le_trans (flip_unlike lt w.len hk) (by have := w.few; omega)⟩
theorem flips_all {p : Pan} {t u : List Bool} (lt : t.length = p.ss.length) (lu : u.length = p.ss.length) {S : List Str} (ndS : S.Nodup) (hS : ∀ x ∈ S, x ∈ unlikeL p.ss t u) (hl : S.length = (unlikeL p.ss t u).length) : flips p.ss t S = u := by
  have nd := p.sw.2.2.1
  have hss : ∀ x ∈ S, x ∈ p.ss := fun x hx => ((mem_unlike nd lt lu).mp (hS x hx)).1
  have pm := nodup_perm ndS (unlike_nodup nd lt lu) hS (by omega)
  refine ext_val nd (flips_len lt hss) lu fun x hx => ?_
  rw [val_flips nd hx lt ndS hss]
  by_cases e : x ∈ S
  · rw [if_pos e]
    have := ((mem_unlike nd lt lu).mp (hS x e)).2
    cases a : val p.ss t x <;> cases b : val p.ss u x <;> simp_all
  · rw [if_neg e]
    apply Classical.byContradiction
    intro c
    exact e (pm.mem_iff.mpr ((mem_unlike nd lt lu).mpr ⟨hx, c⟩))
end FM

namespace FM
open PySem PySem.Spec PyProof.Rows L2 FD
end FM

namespace FD
open PySem PySem.Spec PyProof.Rows L2
abbrev XP := Addr → List (Str × D) → Mem → Prop
inductive XRp (K : PySem.W.Frag) (H0 : F) : Option Addr → List (Str × D) → Prop
  | bare : XRp K H0 none []
  | kept {dx : Addr} {xs : List (Str × V)} {fs : List (Str × D)} (h : H0.ice dx = some (.xd xs)) (kv : RpKV K H0 xs fs) (ne : fs ≠ []) : XRp K H0 (some dx) fs
def PostX (K : PySem.W.Frag) (H0 : F) (xp : XP) (E : XK) : Prop := ∀ (C : Addr) (fs : List (Str × D)) (d : Option Addr) (H' : Hp) (H0' : F) (M' : Mem), xp C fs M' → Fr K H' H0' M' → F.le H0 H0' → XRp K H0' d fs → E (.ref C) d H'
theorem PostX.mono {K : PySem.W.Frag} {H0 H1 : F} {xp : XP} {E : XK} (e : F.le H0 H1) (p : PostX K H0 xp E) : PostX K H1 xp E := fun C fs d H' H0' M' a b c r => p C fs d H' H0' M' a b (e.trans c) r
section
variable (K : PySem.W.Frag) (E : XK) (xp : XP)
end
section
variable {X : Cx} {E : XK} {xp : XP} {a b c e : Expr} {es : List Expr} {st : Stmt} {sts : List Stmt} {wa wb we : WE} {wt : WT} {w : WA} {ws us : WS} {pos : Pos}
structure XcB (K : PySem.W.Frag) (C : Addr) (B newId initId : String) (bmB : List Value) : Prop where
  F : ExcBaseFacts B newId initId bmB
  q : PySem.W.excIn K C bmB newId = true
  k : PySem.W.keepIn K (.ref C) = true
  s : PySem.W.subIn K (.ref C) (.type "BaseException") = some true
  t : PySem.W.typeIn K (.ref C) = some (.type "type")
end
abbrev DSpX := List D → Mem → WK → XP → Prop
def toSpX (K : PySem.W.Frag) (dsp : DSpX) (vs : List V) (H : Hp) (Q : VK) (E : XK) : Prop := ∃ (H0 : F) (M : Mem) (ds : List D) (post : WK) (xp : XP), Fr K H H0 M ∧ RpAll K H0 vs ds ∧ dsp ds M post xp ∧ PostV K H0 post Q ∧ PostX K H0 xp E
structure FnGX (P : Program) (w : World) (K : PySem.W.Frag) (mg : Str → Option Value) (base : Heap) (k : Nat) (f : Addr) (fd : FuncData) (ps : List Str) (dsp : DSpX) : Prop where
  len : ∀ ds M post xp, dsp ds M post xp → ds.length = ps.length
  go : ∀ (A : Around) (outer : List PySem.Env) (s : Shared) (H : Hp) (args : Args) (us : List Value) (vs : List V) (Q : VK) (E : XK), A.guards = some [] → Room k A → Env0 P w K mg base A outer s H → BindsTo s fd args (ps.zip us) → Vals vs us →
    toSpX K dsp vs H Q E → codeAny (model P w) A (.call (.ref f) args) (CR (L2.CX P w) outer P w H s Q E) s
section
variable {P : Program} {w : World} {K : PySem.W.Frag} {mg : Str → Option Value} {base : Heap}
theorem FnGX.calm {k : Nat} {f : Addr} {fd : FuncData} {ps : List Str} {dsp : DSpX} (G : FnGX P w K mg base k f fd ps dsp) : FnG P w K mg base k f fd ps fun ds M post => dsp ds M post fun _ _ _ => False := by
  refine ⟨fun ds M post h => G.len _ _ _ _ h, fun A outer s H args us vs Q ag room e0 bind rel sp => ?_⟩
  obtain ⟨H0, M, ds, post, fr, rp, hq, hp⟩ := sp
  refine codeAny_mono (G.go A outer s H args us vs Q E0 ag room e0 bind rel ⟨H0, M, ds, post, _, fr, rp, hq, hp, fun C fs d H' H0' M' q _ _ _ => q.elim⟩) fun r s' h => ?_
  match r, h with
  | .ok (.ret u), h => exact h
  | .ok .next, h => exact h.elim
  | .ok .brk, h => exact h.elim
  | .ok .cont, h => exact h.elim
  | .error e, h =>
    obtain ⟨_, _, _, _, _, _, _, _, _, _, _, _, z⟩ := h
    exact z.elim
end
section
variable {X : Cx} {E : XK} {xp : XP} {k : Nat} {f C : Addr} {fd : FuncData} {ps : List Str} {dsp : DSpX} {x m : Str} {p pos apos : Pos} {e o : Expr} {es : List Expr} {we wo : WE} {w : WA} {wt : WT}
structure PubX (P : Program) (w : World) (K : PySem.W.Frag) (mg : Str → Option Value) (base : Heap) (k : Nat) (x : Str) (ps : List Str) (dsp : DSpX) : Prop where
  ex : ∃ (f : Addr) (fd : FuncData), mg x = some (.ref f) ∧ PySem.W.keepIn K (.ref f) = true ∧ Binds K fd ps [] ∧ FnGX P w K mg base k f fd ps dsp
end
section
variable {P : Program} {w : World} {K : PySem.W.Frag} {mg : Str → Option Value} {base : Heap}
structure FngX (P : Program) (w : World) (K : PySem.W.Frag) (mg : Str → Option Value) (base : Heap) (k : Nat) (x : Str) (st : Stmt) (ps : List Str) (dsp : DSpX) : Prop where
  ex : ∃ fd, FunD K x x (defArgs st) (defBody st) (defScope st) [] [] (He.ga K x) fd ∧ FnGX P w K mg base k (He.ga K x) fd ps dsp
  g : mg x = some (.ref (He.ga K x))
theorem FngX.pub {k : Nat} {x : Str} {st : Stmt} {ps : List Str} {dsp : DSpX} (F : FngX P w K mg base k x st ps dsp)
    (bd : ∀ (kV doc pm : Value) (an : Option Addr) (cdv ct : Value) (us : List Value), us.length = ps.length → bindArgs (PySem.W.fnOf x x (defArgs st) (defBody st) (defScope st) .none kV doc pm an cdv ct) ⟨us, []⟩ = pure (ps.zip us)) : PubX P w K mg base k x ps dsp := by
  obtain ⟨fd, D, G⟩ := F.ex
  exact ⟨_, fd, F.g, D.kp, D.bindsN bd, G⟩
theorem FngX.calm {k : Nat} {x : Str} {st : Stmt} {ps : List Str} {dsp : DSpX} (F : FngX P w K mg base k x st ps dsp) : Fng P w K mg base k x st ps fun ds M post => dsp ds M post fun _ _ _ => False := by
  obtain ⟨fd, D, G⟩ := F.ex
  exact ⟨⟨fd, D, G.calm⟩, F.g⟩
end
end FD

namespace FD
open PySem PySem.Spec PyProof.Rows L2
abbrev DSpH := Addr × Obj → DSp
structure FnGH (P : Program) (w : World) (K : PySem.W.Frag) (mg : Str → Option Value) (base : Heap) (k : Nat) (f : Addr) (fd : FuncData) (ps : List Str) (dsp : DSpH) : Prop where
  len : ∀ p ds M post, dsp p ds M post → ds.length = ps.length
  go : ∀ (A : Around) (outer : List PySem.Env) (s : Shared) (H : Hp) (args : Args) (us : List Value) (vs : List V) (Q : VK) (p : Addr × Obj), A.guards = some [] → L2H.RoomH k A → L2H.PinOk outer H s p → Env0 P w K mg base A outer s H → BindsTo s fd args (ps.zip us) → Vals vs us →
    toSp K (dsp p) vs H Q → codeAny (model P w) A (.call (.ref f) args) (CR CX0 outer P w H s Q E0) s
section
variable {P : Program} {w : World} {K : PySem.W.Frag} {mg : Str → Option Value} {base : Heap}
structure PubH (P : Program) (w : World) (K : PySem.W.Frag) (mg : Str → Option Value) (base : Heap) (k : Nat) (x : Str) (ps : List Str) (dsp : DSpH) : Prop where
  ex : ∃ (f : Addr) (fd : FuncData), mg x = some (.ref f) ∧ PySem.W.keepIn K (.ref f) = true ∧ Binds K fd ps [] ∧ FnGH P w K mg base k f fd ps dsp
end
section
variable {X : Cx} {k : Nat} {f C : Addr} {fd : FuncData} {ps : List Str} {dsp : DSpH} {x m : Str} {p pos apos : Pos} {e o : Expr} {es : List Expr} {we wo : WE} {w : WA} {q : Addr × Obj}
end
end FD

namespace FD
open PySem PySem.Spec PyProof.Rows L2
abbrev SuiteT := Addr → Value → Option Addr → TS
section
variable {X : Cx} {x1 x2 x3 n : Str} {c1 c2 c3 : Value} {i kk : Nat} {body suite : List Stmt} {b0 : Stmt} {p1 p2 p3 tp hp pos : Pos} {tb : WX → TS} {ts : SuiteT} {hrest : List ExceptHandler}
end
end FD

namespace FD
open PySem PySem.Spec PyProof.Rows L2 LamX
section
variable {X : Cx} {pins : List (Addr × Obj)} {σ : L2.St} {H : Hp} {s : Shared}
end
end FD

namespace FD
open PySem PySem.Spec PyProof.Rows L2 LamX
abbrev GX := Addr → List (Str × D) → Mem → WK → Prop
section
variable {X : Cx} {NG : List Str} {x y a n x1 x2 x3 q : Str} {sg : Scope} {g : Addr} {cdg c1 c2 c3 : Value} {iy ie kk : Nat} {suite after : List Stmt} {b0 : Stmt} {p1 p2 p3 py pt hp pos q1 q2 q3 : Pos} {ok : G1} {er : GX} {hrest : List ExceptHandler}
end
section
variable {X : Cx} {NG : List Str} {x a : Str} {sg : Scope} {g c P : Addr} {k : Nat} {pg : Arguments} {bg : List Stmt} {dV kV doc pm cdv ct oc : Value} {an od : Option Addr} {osl : Array (Option Value)} {params : Arguments} {body : Expr} {sc : Scope} {p lpos pos : Pos} {ok : G1} {er : GX} {cs : List Value} {w : XP → WE}
end
end FD

set_option maxHeartbeats 2000000
namespace FD
open PySem PySem.Spec PyProof.Rows L2 LamX
section
variable {P : Program} {w : World} {K : PySem.W.Frag} {mg mb : Str → Option Value} {k : Nat} {fa a : Addr} {fd : FuncData} {x : Str} {dsp : DSp} {s1 : Shared} {vs : List Value} {ns : List Int} {cs : List (Addr × Addr)} {lt : List (Addr × Str)}
end
section
variable {P : Program} {w : World} {K : PySem.W.Frag} {mg : Str → Option Value} {base : Heap}
end
end FD

set_option maxHeartbeats 1000000
namespace FD
open PySem PySem.Spec PyProof.Rows L2 LamX
section
variable {X : Cx}
variable {NG : List Str} {x a q : Str} {st : Stmt} {k : Nat} {params : Arguments} {body : Expr} {sc : Scope} {p lpos pos : Pos} {ok : G1} {er : GX} {cs : List Value} {w : XP → WE} {m : Str}
end
section
variable {P : Program} {w : World} {K : PySem.W.Frag} {mg : Str → Option Value} {base : Heap} {N : List Str} {qual : Str} {sc : Scope} {f co : Addr} {cdv : Value} {A : Around} {outer : List PySem.Env} {s : Shared} {H : Hp} {p : Addr × Obj} {X : Cx} {E : XK}
end
end FD

set_option maxHeartbeats 2000000
namespace FD
open PySem PySem.Spec PyProof.Rows L2 LamX
def spI (C : Addr) (f : Str) : L2.Sp := fun vs H Q _ => ∃ (a : Addr) (y : V), vs = [.ref a, y] ∧ H a = some (exo a C none) ∧ ∀ dx, H dx = none → dx ≠ a → Q .non (upd (upd H dx (exd dx [(f, y)])) a (exo a C (some dx)))
structure XI (P : Program) (w : World) (K : PySem.W.Frag) (mg : Str → Option Value) (base : Heap) (x : Str) (C : Addr) (f : Str) : Prop where
  m : mg x = some (.ref C)
  o : OexC K C
  ex : ∃ (fI : Addr) (fd : FuncData) (ps : List Str), PySem.W.findIn K (.ref C) "__init__" = some (some (.ref fI)) ∧ PySem.W.typeIn K (.ref fI) = some (.type "function") ∧ FnOk P w K mg base CX0 1 fI fd ps (spI C f) ∧ L2.Binds K fd ps []
section
variable {P : Program} {w : World} {K : PySem.W.Frag} {mg : Str → Option Value} {base : Heap}
end
section
variable {X : Cx} {E : XK} {xp : XP} {x f : Str} {C : Addr} {p p2 pos : Pos} {e : Expr} {w : WA}
end
end FD

namespace FD
open PySem PySem.Spec PyProof.Rows L2
section
variable {X : Cx} {e : Expr} {es : List Expr} {w : WA} {p pos : Pos}
end
end FD

set_option maxHeartbeats 1000000
namespace FM
open PySem PySem.Spec PyProof.Rows L2 FD
def Jw (j : Addr) (M M' : Mem) : Prop := Jg M' j ∧ ∀ a mo, a ≠ j → M a = some mo → M' a = some mo
theorem Jw.refl {j : Addr} {M : Mem} (h : Jg M j) : Jw j M M := ⟨h, fun _ _ _ e => e⟩
theorem Jw.jg {j : Addr} {M M' : Mem} (h : Jw j M M') : Jg M' j := h.1
theorem Jw.jm {j : Addr} {M M1 M2 : Mem} (h : Jw j M M1) (k : Jm j M1 M2) : Jw j M M2 := by
  obtain ⟨a, b, c, rfl⟩ := k
  exact ⟨⟨a, b, c, Mem.upd_same⟩, fun x mo ne e => by rw [Mem.upd_ne ne]; exact h.2 x mo ne e⟩
theorem Jw.new {j p : Addr} {M M1 : Mem} {o : MO} (h : Jw j M M1) (hp : M1 p = none) : Jw j M (M1.upd p o) := by
  have ne := h.1.ne hp
  refine ⟨?_, fun x mo nx e => ?_⟩
  · obtain ⟨a, b, c, e⟩ := h.1
    exact ⟨a, b, c, by rw [Mem.upd_ne (Ne.symm ne)]; exact e⟩
  · have := h.2 x mo nx e
    have np : x ≠ p := fun z => by rw [z, hp] at this; cases this
    rw [Mem.upd_ne np]; exact this
theorem Jw.put0 {j p : Addr} {M M1 : Mem} {o u : MO} (h : Jw j M M1) (hp : M1 p = some o) (hM : M p = none) (ne : p ≠ j) : Jw j M (M1.upd p u) := by
  refine ⟨?_, fun x mo nx e => ?_⟩
  · obtain ⟨a, b, c, e⟩ := h.1
    exact ⟨a, b, c, by rw [Mem.upd_ne (Ne.symm ne)]; exact e⟩
  · have np : x ≠ p := fun z => by rw [z, hM] at e; cases e
    rw [Mem.upd_ne np]; exact h.2 x mo nx e
theorem Jw.none {j p : Addr} {M M1 : Mem} (h : Jw j M M1) (hj : Jg M j) (hp : M1 p = none) : M p = none := by
  cases e : M p with
  | none => rfl
  | some o =>
    have ne : p ≠ j := h.1.ne hp
    rw [h.2 p o ne e] at hp; cases hp
theorem Jw.tab {j P : Addr} {M M' : Mem} {q : Str} (hj : Jg M j) (h : M P = some (.tab q)) (k : Jw j M M') : M' P = some (.tab q) := by
  obtain ⟨a, b, c, e⟩ := hj
  exact k.2 P _ (fun z => by rw [z, e] at h; cases h) h
end FM

namespace FM
open PySem PySem.Spec PyProof.Rows L2 FD
end FM

namespace FD
open PySem PySem.Spec PyProof.Rows L2
section
variable {X : Cx}
end
end FD

namespace FD
open PySem PySem.Spec PyProof.Rows L2
section
variable {X : Cx} {E : XK} {xp : XP} {p pos : Pos} {e : Expr} {es : List Expr} {w : WA}
structure PubKX (P : Program) (w : World) (K : PySem.W.Frag) (mg : Str → Option Value) (base : Heap) (k : Nat) (x : Str) (n : Nat) (ks : List Str) (ix : List Nat) (ps : List Str) (dsp : DSpX) : Prop where
  ex : ∃ (f : Addr) (fd : FuncData), mg x = some (.ref f) ∧ PySem.W.keepIn K (.ref f) = true ∧ (∀ (s : Shared) (us ws : List Value), us.length = n → ws.length = ks.length → BindsTo s fd ⟨us, ks.zip ws⟩ (ps.zip (pick ix (us ++ ws)))) ∧ FnGX P w K mg base k f fd ps dsp
end
section
variable {P : Program} {w : World} {K : PySem.W.Frag} {mg : Str → Option Value} {base : Heap}
end
end FD

set_option maxHeartbeats 4000000
namespace FD
open PySem PySem.Spec PyProof.Rows L2
structure ExT (K : PySem.W.Frag) (C : Addr) (B newId initId : String) (bmB : List Value) : Prop where
  FB : ExcBaseFacts B newId initId bmB
  SF : StoreFacts B bmB "object.__setattr__" "object"
  cls : ∃ nm q N bs bm sn sub ab col dd k0 k1 k2 k3 k5, K.lookup C = some (excClassObj nm q C N bs bm true sn sub ab col dd k0 k1 k2 k3 k5 newId) ∧ PySem.W.excTail bmB bm = true
  sa : PySem.W.findIn K (.ref C) "__setattr__" = some (some (.builtin "object.__setattr__"))
  exC : PySem.W.subIn K (.ref C) (.type "BaseException") = some true
  tyC : PySem.W.typeIn K (.ref C) = some (.type "type")
  kC : PySem.W.keepIn K (.ref C) = true
section
open Builtin Builtin.ObjectAttr PySem.W PySem.HandSPX
variable {prog : Program} {w : World} {A : Around} {R : Result → Shared → Prop} {hp : Heap} {g : Array GenState} {d : Drawn} {t : Nat} {os : OsState}
end
section
variable {X : Cx} {pins : List (Addr × Obj)} {σ : L2.St} {H : Hp} {s : Shared} {a C : Addr} {f : Str} {y : V} {u : Value} {Q : Unit → Shared → Prop} {E : Value → Shared → Prop} {A : Around} {B newId initId : String} {bmB : List Value}
end
section
variable {X : Cx} {o e : Expr} {es : List Expr} {to te : TE} {ta : TA} {f : Str} {p p' pos : Pos} {B newId initId : String} {bmB : List Value}
end
structure XT (P : Program) (w : World) (K : PySem.W.Frag) (mg : Str → Option Value) (base : Heap) (x : Str) (C : Addr) (f : Str) : Prop where
  m : mg x = some (.ref C)
  ex : ∃ (B newId initId : String) (bmB : List Value) (fI : Addr) (fd : FuncData) (ps : List Str), ExT K C B newId initId bmB ∧ PySem.W.findIn K (.ref C) "__init__" = some (some (.ref fI)) ∧ PySem.W.typeIn K (.ref fI) = some (.type "function") ∧ FnOk P w K mg base CX0 1 fI fd ps (spI C f) ∧ L2.Binds K fd ps []
end FD

set_option maxHeartbeats 2000000
namespace FD
open PySem PySem.Spec PyProof.Rows L2
section
variable {X : Cx} {kx vx tg iter elt : Expr} {ifs : List Expr} {scope : Scope} {own : List (Str × Nat)} {pos : Pos} {wi : WI} {gd : GD} {tt : WT} {tk tv te : WE}
def wLc2N (wi : WI) (gd : GD) (tt : WT) (wj : WI) (ge : GD) (tu : WT) (te : WE) : WE := fun Γ M post => wi Γ M fun items G M1 => ∃ Pv : Nat → List D → Mem → Prop, Pv 0 [] M1 ∧ (∀ i acc M', Pv i acc M' → G M') ∧
  (∀ i d acc M', items[i]? = some d → Pv i acc M' → gd d Γ fun Γ2 => tt Γ2 M' fun b M3 => if b = true then wj Γ2 M3 fun jtems G' M4 => ∃ Pw : Nat → List D → Mem → Prop, Pw 0 acc M4 ∧ (∀ j acc M', Pw j acc M' → G' M') ∧
      (∀ j d acc M', jtems[j]? = some d → Pw j acc M' → ge d Γ2 fun Γ3 => tu Γ3 M' fun b M5 => if b = true then te Γ3 M5 fun y M6 => acc.length < 16777216 ∧ Pw (j + 1) (acc ++ [y]) M6 else Pw (j + 1) acc M5) ∧
      ∀ acc M', Pw jtems.length acc M' → Pv (i + 1) acc M'
    else Pv (i + 1) acc M3) ∧
  ∀ acc M', Pv items.length acc M' → ∀ p, M' p = none → post (.ptr p) (M'.upd p (.lst acc))
theorem wLc2N_eq {wj : WI} {ge : GD} {tu : WT} : wLc2N wi gd tt wj ge tu te = fun Γ M post => wi Γ M fun items G M1 => Lc2I items G gd tt wj ge tu te Γ M1 fun d M' => ∃ l, d = .lst l ∧ ∀ p, M' p = none → post (.ptr p) (M'.upd p (.lst l)) := by
  funext Γ M post
  unfold wLc2N Lc2I Lc2J
  simp only [D.lst.injEq, exists_eq_left']
def gAddN : G2 := fun M x y post => ∃ a b, x = .lst a ∧ y = .lst b ∧ a.length + b.length ≤ 16777216 ∧ ∀ p, M p = none → post (.ptr p) (M.upd p (.lst (a ++ b)))
theorem addN_lst {M : Mem} {a b : List D} {post : WK} : gAddN M (.lst a) (.lst b) post = (a.length + b.length ≤ 16777216 ∧ ∀ p, M p = none → post (.ptr p) (M.upd p (.lst (a ++ b)))) := by
  unfold gAddN
  simp only [D.lst.injEq, exists_and_left, exists_eq_left', exists_eq_left]
end
end FD

set_option maxHeartbeats 1000000
namespace FD
open PySem PySem.Spec PyProof.Rows L2
section
variable {P : Program} {w : World} {K : PySem.W.Frag} {mg : Str → Option Value} {base : Heap}
def FnC (P : Program) (w : World) (K : PySem.W.Frag) (mg : Str → Option Value) (base : Heap) (k : Nat) (qual : Str) (st : Stmt) (dvs : List V) (f : Addr) (ps : List Str) (dsp : DSp) : Prop := ∃ fd, FunD K "__init__" qual (defArgs st) (defBody st) (defScope st) dvs [] f fd ∧ FnG P w K mg base k f fd ps dsp
def FnCX (P : Program) (w : World) (K : PySem.W.Frag) (mg : Str → Option Value) (base : Heap) (k : Nat) (qual : Str) (st : Stmt) (dvs : List V) (f : Addr) (ps : List Str) (dsp : DSpX) : Prop := ∃ fd, FunD K "__init__" qual (defArgs st) (defBody st) (defScope st) dvs [] f fd ∧ FnGX P w K mg base k f fd ps dsp
section
variable {k : Nat} {C f : Addr} {x qual : Str} {st : Stmt} {N ps : List Str} {dvs : List V}
theorem fnC_of {dsp : DSp} (h : ∃ fd, FunD K "__init__" qual (defArgs st) (defBody st) (defScope st) dvs [] f fd) (S : FnScope N ps (defScope st))
    (l : ∀ ds M post, dsp ds M post → ds.length = ps.length)
    (hb : ∀ (f : Addr) (cdv : Value) (A : Around) (outer : List PySem.Env) (s : Shared) (H : Hp), (A.deeper (envOfC qual (defScope st) s.heap.objs.size f cdv)).guards = some [] → Room k (A.deeper (envOfC qual (defScope st) s.heap.objs.size f cdv)) →
      ∃ ws, DSs (bx P w K mg base N qual (defScope st) f cdv A outer s H) (defBody st) ws ∧ ∀ ds M post, dsp ds M post → ws { nx := fun _ M' => post .non M', rt := post } (startD N ds) M) :
    FnC P w K mg base (k + 1) qual st dvs f ps dsp := by
  obtain ⟨fd, D⟩ := h
  refine ⟨fd, D, ?_⟩
  obtain ⟨oc, od, dV, kV, doc, pm, an, cdv, ct, osl, rfl, lk, hcd, _, _⟩ := D.ex
  exact g_of lk hcd S l fun A outer s H => hb _ cdv A outer s H
theorem FnCX.calm {dsp : DSpX} (F : FnCX P w K mg base k qual st dvs f ps dsp) : FnC P w K mg base k qual st dvs f ps fun ds M post => dsp ds M post fun _ _ _ => False := let ⟨fd, D, G⟩ := F; ⟨fd, D, G.calm⟩
theorem mkC_D {dsp : DSp} (F : FnC P w K mg base k qual st dvs f ps dsp) (nd : dvs ≠ []) (mk : Mk K C f) (g : mg x = some (.ref C))
    (bd : ∀ (T : Addr) (kV doc pm : Value) (an : Option Addr) (cdv ct : Value) (us its : List Value), us.length = ps.length → its.length = dvs.length →
      ∃ k, bindArgs (PySem.W.fnOf "__init__" qual (defArgs st) (defBody st) (defScope st) (.ref T) kV doc pm an cdv ct) ⟨us, []⟩ = seqItems? (.ref T) >>= k ∧ k (some its.toArray) = pure (ps.zip us)) :
    PubC P w K mg base k x C ps [] dsp := by
  obtain ⟨fd, D, G⟩ := F
  obtain ⟨ds, rd, b⟩ := D.binds1 (ps := ps) ps.length dvs.length nd (by omega) fun T kV doc pm an cdv ct us its l1 l2 => by
    obtain ⟨k, e1, e2⟩ := bd T kV doc pm an cdv ct us its l1 l2
    refine ⟨k, e1, ?_⟩
    rw [e2, ← l2, List.drop_length, List.append_nil]
  have dn : ds = [] := List.length_eq_zero_iff.mp (by have := rd.length; rw [List.drop_length] at this; exact this.symm)
  subst dn
  exact ⟨f, fd, [], [], g, mk, b, .nil, fun _ => .nil, G⟩
structure PubCX (P : Program) (w : World) (K : PySem.W.Frag) (mg : Str → Option Value) (base : Heap) (k : Nat) (x : Str) (C : Addr) (ps : List Str) (dsp : DSpX) : Prop where
  ex : ∃ (f : Addr) (fd : FuncData), mg x = some (.ref C) ∧ Mk K C f ∧ Binds K fd ps [] ∧ FnGX P w K mg base k f fd ps dsp
structure PubCK (P : Program) (w : World) (K : PySem.W.Frag) (mg : Str → Option Value) (base : Heap) (k : Nat) (x : Str) (C : Addr) (ks : List Str) (ix : List Nat) (ps : List Str) (dsp : DSp) : Prop where
  ex : ∃ (f : Addr) (fd : FuncData), mg x = some (.ref C) ∧ Mk K C f ∧ (∀ (s : Shared) (us ws : List Value), K.In s.heap → us.length = 1 → ws.length = ks.length → BindsTo s fd ⟨us, ks.zip ws⟩ (ps.zip (pick ix (us ++ ws)))) ∧ FnG P w K mg base k f fd ps dsp
end
structure PubMX (P : Program) (w : World) (K : PySem.W.Frag) (mg : Str → Option Value) (base : Heap) (k : Nat) (C : Addr) (m : Str) (ps : List Str) (dsp : DSpX) : Prop where
  ex : ∃ (f : Addr) (fd : FuncData), Meth K C m f ∧ Binds K fd ps [] ∧ FnGX P w K mg base k f fd ps dsp
theorem PubMX.calm {k : Nat} {C : Addr} {m : Str} {ps : List Str} {dsp : DSpX} (F : PubMX P w K mg base k C m ps dsp) : PubM P w K mg base k C m ps fun ds M post => dsp ds M post fun _ _ _ => False := by
  obtain ⟨f, fd, mt, b, G⟩ := F.ex
  exact ⟨f, fd, mt, b, G.calm⟩
end
section
variable {X : Cx} {E : XK} {xp : XP} {k : Nat} {f C : Addr} {fd : FuncData} {ps ks : List Str} {dsp : DSpX} {x m qual : Str} {st : Stmt} {p pos apos : Pos} {e o : Expr} {es : List Expr} {we wo : WE} {w : WA}
def wMakeK (C : Addr) (m : Nat) (ix : List Nat) (dsp : DSp) (wk : WA) : WE := fun Γ M post => wk Γ M fun es M2 => es.length = m ∧ ∀ a, M2 a = none → dsp (pick ix (.ptr a :: es)) (M2.upd a (.ins C [])) fun d M3 => d = .non ∧ post (.ptr a) M3
end
end FD

set_option maxHeartbeats 2000000
namespace FD
open PySem PySem.Spec PyProof.Rows L2
section
open Builtin
variable {prog : Program} {w : World} {A : Around} {E : Value → Shared → Prop} {s : Shared} {K : PySem.W.Frag} {x C L f : Addr} {h₀ : Heap} {m : Str → Option Value} {ox : Obj} {od : Option Obj} {name : Str} {b tb : Value}
theorem ifBound_B {M : Model} {id : String} {args : List Value} {Q : Option Value → Shared → Prop} (X : K.In s.heap) (I : PySem.W.InstAt s.heap x ox C od) (hs : PySem.W.findIn K (.ref C) name = some (some (.builtin id))) (hb : bindSpecial (.builtin id) (.ref x) = pure (.builtin id, [.ref x]))
    (h : wpAny M A (call (.builtin id) (.ref x :: args)) (fun v => Q (some v)) E s) : wpAny M A (callSpecialIfBound? (.ref x) name args) Q E s := by
  have fin : wpAny M A (call (.builtin id) ([.ref x] ++ args) >>= fun v => pure (some v)) Q E s := wpAny_bind (wpAny_mono h (fun v s' z => wpAny_pure z) fun _ _ z => z)
  unfold callSpecialIfBound? bindSpecialIfBound?
  refine wpAny_holding (wpAny_bind (wpAny_bind (wpAny_bind (I.type.here ((PySem.W.looks_findIn X hs).here ?_)))))
  simp only [hb]
  refine wpAny_bind (wpAny_askSetting (wpAny_ite ?_)); split
  · exact wpAny_bind (wpAny_pure (wpAny_pure fin))
  · exact wpAny_tryCatch (wpAny_bind (wpAny_pure (wpAny_pure fin)))
theorem body_ne {Q : Fin → Shared → Prop} (X : K.In s.heap) (I : PySem.W.InstAt s.heap x ox C od) (hs : PySem.W.findIn K (.ref C) "__eq__" = some (some (.ref f))) (hf : PySem.W.isFn K (.ref f) = true) (hu : A.units < cLine)
    (hcall : wpAny (model prog w) A (call (.ref f) [.ref x, b]) (fun v s' => ∃ k, v = .bool k ∧ Q (.done (.ret (.bool (!k)))) s') E s) : wpAny (model prog w) A (Builtin.«object.__ne__» ⟨[.ref x, b], []⟩) Q E s := by
  have hb : wpAny (model prog w) A (callSpecialIfBound? (.ref x) (Str.ofString "__eq__") [b]) (fun r s' => ∃ k, r = some (.bool k) ∧ Q (.done (.ret (.bool (!k)))) s') E s := PySem.W.ifBound_K X I hs hf (wpAny_mono hcall (fun r s' z => let ⟨k, e, q⟩ := z; ⟨k, by rw [e], q⟩) fun _ _ z => z)
  unfold Builtin.«object.__ne__»
  repeat (first
    | (with_reducible refine wpAny_cRoomFor hu ?_)
    | (refine wpAny_bind (m := callSpecialIfBound? (.ref x) (Str.ofString "__eq__") [b]) (wpAny_mono hb (fun r s' z => ?_) fun _ _ z => z); obtain ⟨k, rfl, q⟩ := z)
    | exact q
    | exact wpAny_pure q
    | exact wpAny_truthy_bool q
    | (refine wpAny_bind (m := truthy (.bool _)) (wpAny_truthy_bool ?_))
    | wp_step)
theorem ne_K {Q : Value → Shared → Prop} (hu : A.units + 1 < cLine) (F : PyProof.Rows.Fr h₀ L s.heap m) (X₀ : K.In h₀) (I : PySem.W.InstAt s.heap x ox C od) (hb : PySem.W.Looks (model prog w) s.heap (typeOf b) tb) (hn : PySem.W.notFirst K C tb = true)
    (hs : PySem.W.findIn K (.ref C) "__eq__" = some (some (.ref f))) (hf : PySem.W.isFn K (.ref f) = true) (hne : PySem.W.findIn K (.ref C) "__ne__" = some (some (.builtin "object.__ne__"))) (ho : PySem.W.subIn K (.ref C) (.type "object") = some true)
    (h : wpAny (model prog w) A.in1 (call (.ref f) [.ref x, b]) (fun v s' => ∃ k, v = .bool k ∧ Q (.bool (!k)) s') E s) : wpAny (model prog w) A (richCompare .NotEq (.ref x) b) Q E s := by
  have X := X₀.keeps F.keep
  have inst : PySem.W.Looks (model prog w) s.heap (isInstance (.ref x) (.type "object")) true := I.type.andThen (PySem.W.looks_subIn X ho)
  have one : wpAny (model prog w) A (tryCompare (.ref x) (cmpInfo .NotEq).2.1 b) (fun r s' => ∃ v, r = some v ∧ Q v s') E s := by
    rw [cmpInfo_NotEq]
    unfold tryCompare
    refine wpAny_bind (ifBound_B X I hne (PySem.F.cmp_object.ne.bind _) (wpAny_call (codeAny_call_builtin PySem.F.cmp_object.ne.plain PySem.F.cmpEntry_ne (PySem.W.check_slot PySem.F.cmpKind_ne PySem.F.cmpSplit_ne inst (PySem.F.cmpArgs_ne _ _) (body_ne X I hs hf (by show A.units + 1 < cLine; exact hu) (wpAny_mono h (fun v s' z => ?_) fun _ _ z => z))))))
    obtain ⟨k, rfl, q⟩ := z
    first | exact ⟨k, rfl, wpAny_pure ⟨_, rfl, q⟩⟩ | exact ⟨k, rfl, _, rfl, q⟩ | exact ⟨k, rfl, wpAny_pure (wpAny_pure ⟨_, rfl, q⟩)⟩
  unfold richCompare
  simp only [oneThing_ref]
  refine wpAny_holding (wpAny_bind (wpAny_cRoomFor (Nat.lt_of_succ_lt hu) (wpAny_bind (I.type.here (wpAny_bind (hb.here ?_)))) ))
  split
  · rename_i q
    have e : PySem.W.subIn K tb (.ref C) = some false := by
      rcases Bool.or_eq_true_iff.mp hn with e | e
      · rw [beq_iff_eq.mp e] at q; simp at q
      · exact beq_iff_eq.mp e
    refine wpAny_bind ((PySem.W.looks_subIn X e).here ?_)
    simp only [Bool.false_eq_true, if_false]
    exact wpAny_bind (wpAny_mono one (fun r s' z => by obtain ⟨v, rfl, hq⟩ := z; exact wpAny_pure hq) fun _ _ e => e)
  · refine wpAny_bind (wpAny_pure ?_)
    simp only [Bool.false_eq_true, if_false]
    exact wpAny_bind (wpAny_mono one (fun r s' z => by obtain ⟨v, rfl, hq⟩ := z; exact wpAny_pure hq) fun _ _ e => e)
end
section
variable {X : Cx} {k : Nat} {f C : Addr} {fd : FuncData} {ps : List Str} {dsp : DSp} {pins : List (Addr × Obj)} {σ : L2.St} {H : Hp} {s : Shared} {Q : VK}
theorem run_at {A : Around} {E : Value → Shared → Prop} {us : List Value} {vs : List V} (ea : A.frames = X.A.frames) (gd : A.guards = some []) (G : FnG X.prog X.w X.K X.mg X.base k f fd ps dsp) (room : Room k A) (bd : Binds X.K fd ps []) (I : Inv X pins σ H s) (r : Vals vs us) (h : toSp X.K dsp vs H Q) :
    wpAny (model X.prog X.w) A (call (.ref f) us) (EP X pins σ Q) E s := by
  have e := I.env0
  have e0 : Env0 X.prog X.w X.K X.mg X.base A X.stack s H := ⟨by rw [ea]; exact e.frames, e.mod, e.bs, e.bsz, e.funs, e.frf, e.hok, e.bare⟩
  have ll : us.length = ps.length := by rw [← r.length]; exact h.len G.len
  have b := bd s us I.kIn (by rw [List.append_nil]; exact ll)
  rw [List.append_nil] at b
  refine wpAny_call (codeAny_mono (G.go A X.stack s H ⟨us, []⟩ us vs Q gd room e0 b r h) fun res s' hq => ?_)
  match res, hq with
  | .ok (.ret u), hq => exact I.after hq
  | .ok .next, hq => exact hq.elim
  | .ok .brk, hq => exact hq.elim
  | .ok .cont, hq => exact hq.elim
  | .error e, hq => exact hq.elim
structure EqC (K : PySem.W.Frag) (C : Addr) : Prop where
  ne : PySem.W.findIn K (.ref C) "__ne__" = some (some (.builtin "object.__ne__"))
  ob : PySem.W.subIn K (.ref C) (.type "object") = some true
  nf : ∀ t ∈ (["NoneType", "bool", "int", "str", "tuple", "list", "dict"] : List String), PySem.W.subIn K (.type t) (.ref C) = some false
theorem eqB_ok {K : PySem.W.Frag} {C : Addr} (h : eqB K C = true) : EqC K C := by
  unfold eqB at h
  simp only [Bool.and_eq_true] at h
  exact ⟨bltB_ok h.1.1, trueB_ok h.1.2, fun t ht => falseB_ok (List.all_eq_true.mp h.2 t ht)⟩
def okR (C : Addr) (M : Mem) (y : D) : Prop := insR M C y (fun _ => True) ∨ ∃ t, tyN M y = some t
def gOwn (C : Addr) (dsp : DSp) (neg : Bool) : G2 := fun M x y post => insR M C x (fun _ => True) ∧ okR C M y ∧ dsp [x, y] M fun d M' => isB d fun b => post (.bl (if neg then !b else b)) M'
theorem okR_looks {H0 : F} {M : Mem} {v : V} {u : Value} {d : D} (T : EqC X.K C) (I : Inv X pins σ H s) (fr : Fr X.K H H0 M) (r : Rp X.K H0 v d) (rv : RelV v u) (h : okR C M d) : ∃ tb, PySem.W.Looks (model X.prog X.w) s.heap (typeOf u) tb ∧ PySem.W.notFirst X.K C tb = true := by
  rcases h with h | ⟨t, h⟩
  · obtain ⟨a, dx, xs, fs, rfl, ha, kv, _⟩ := insR_of fr r h
    cases (show u = Value.ref a from rv)
    obtain ⟨mA, J, _⟩ := ins_get I.hok ha
    obtain ⟨od, J, _⟩ := J.look
    exact ⟨_, J.type, by simp [PySem.W.notFirst]⟩
  · obtain ⟨P, kx, hp, _⟩ := kit_of I rv (tyN_ty fr r h)
    exact ⟨_, kx.ty _ _ I.kIn hp, by simp [PySem.W.notFirst, T.nf t (tyN_mem h)]⟩
theorem o_own {neg : Bool} (T : EqC X.K C) (G : PubM X.prog X.w X.K X.mg X.base k C "__eq__" ps dsp) (room : Room (k + 1) X.A) (gd : X.A.guards = some []) : OpR X (compareOp (if neg then .NotEq else .Eq)) (rU2 X.K (gOwn C dsp neg)) := by
  intro pins s σ H x y v u Q I rx ry h
  obtain ⟨f, fd, hm, hb, G⟩ := G.ex
  obtain ⟨H0, M, d, e, post, fr, r1, r2, ⟨hx, hy, hd⟩, p⟩ := h
  obtain ⟨tb, lk, nf⟩ := okR_looks T I fr r2 ry hy
  obtain ⟨a, dx, xs, fs, rfl, ha, kv, _⟩ := insR_of fr r1 hx
  cases (show v = Value.ref a from rx)
  obtain ⟨mA, J, _⟩ := ins_get I.hok ha
  obtain ⟨od, J, _⟩ := J.look
  obtain ⟨m, hF⟩ := I.fr
  have r0 : Vals [V.ref a, y] [Value.ref a, u] := .cons rfl (.cons ry .nil)
  have sp : toSp X.K dsp [V.ref a, y] H (fun v H' => ∃ b, v = .bl b ∧ Q (.bl (if neg then !b else b)) H') := ⟨H0, M, [d, e], _, fr, .cons r1 (.cons r2 .nil), hd, fun v d H' H0' M' hq f' s' r' => by
    obtain ⟨b, rfl, hq⟩ := isB_of hq
    cases r'
    exact ⟨b, rfl, p _ _ _ _ _ hq f' s' (.bl _)⟩⟩
  cases neg with
  | false =>
    show wpAny (model X.prog X.w) X.A (richCompare .Eq (.ref a) u) (EP X pins σ Q) X.xe s
    refine PySem.W.cmp_K (op := .Eq) (tb := tb) room.units0 hF I.ok.mod.kin J lk nf hm.at_ hm.fn (wpAny_mono (run_at rfl gd G (room.mono (Nat.le_succ _)) hb I r0 sp) (fun z s' hz => ?_) fun _ _ z => z)
    obtain ⟨v', H', I', rv', b, rfl, q⟩ := hz
    cases (show z = Value.bool b from rv')
    exact ⟨.bl b, H', I', rfl, q⟩
  | true =>
    show wpAny (model X.prog X.w) X.A (richCompare .NotEq (.ref a) u) (EP X pins σ Q) X.xe s
    refine ne_K (by have := room.units; omega) hF I.ok.mod.kin J lk nf hm.at_ hm.fn T.ne T.ob (wpAny_mono (run_at rfl gd G room.in1 hb I r0 sp) (fun z s' hz => ?_) fun _ _ z => z)
    obtain ⟨v', H', I', rv', b, rfl, q⟩ := hz
    cases (show z = Value.bool b from rv')
    exact ⟨b, rfl, .bl (!b), H', I', rfl, q⟩
theorem o_ownE (T : EqC X.K C) (G : PubM X.prog X.w X.K X.mg X.base k C "__eq__" ps dsp) (room : Room (k + 1) X.A) (gd : X.A.guards = some []) : OpR X (compareOp .Eq) (rU2 X.K (gOwn C dsp false)) := o_own (neg := false) T G room gd
theorem o_ownN (T : EqC X.K C) (G : PubM X.prog X.w X.K X.mg X.base k C "__eq__" ps dsp) (room : Room (k + 1) X.A) (gd : X.A.guards = some []) : OpR X (compareOp .NotEq) (rU2 X.K (gOwn C dsp true)) := o_own (neg := true) T G room gd
def gLenO (C : Addr) (dsp : DSp) : GA := fun M ds post => one ds fun d => insR M C d (fun _ => True) ∧ dsp [d] M fun e M' => ∃ n : Nat, e = .int (n : Int) ∧ n ≤ 16777216 ∧ post (.int (n : Int)) M'
def wTruO (C : Addr) (dsp : DSp) (w : WE) : WT := fun Γ M post => w Γ M fun d M1 => insR M1 C d (fun _ => True) ∧ dsp [d] M1 fun e M' => ∃ n : Nat, e = .int (n : Int) ∧ n ≤ 16777216 ∧ post (!decide (n = 0)) M'
end
end FD

set_option maxHeartbeats 1000000
namespace FD
open PySem PySem.Spec PyProof.Rows L2
theorem noB_ok {K : PySem.W.Frag} {C : Addr} (h : noB K C = true) {t : String} (ht : t ∈ (["NoneType", "bool", "int", "str", "tuple", "list", "dict"] : List String)) : PySem.W.kitOne K (.type t) (.ref C) = some false := falseB_ok (List.all_eq_true.mp h t ht)
def gIsiO (C : Addr) (M : Mem) (d : D) (post : WK) : Prop := (insR M C d fun _ => post (.bl true) M) ∨ ((∃ t, tyN M d = some t) ∧ post (.bl false) M)
def wIsiO (C : Addr) (w : WE) : WE := fun Γ M post => w Γ M fun d M1 => gIsiO C M1 d post
theorem insR_ty {M : Mem} {C : Addr} {d : D} {k : List (Str × D) → Prop} {t : String} (h : tyN M d = some t) : ¬ insR M C d k := by
  intro z
  cases d with
  | ptr a =>
    have h : (match M a with
      | some (.lst _) => some "list"
      | some (.dK _) => some "dict"
      | some (.dT _) => some "dict"
      | _ => none) = some t := h
    have z : (match M a with
      | some (.ins C' fs) => C' = C ∧ k fs
      | _ => False) := z
    cases e : M a with
    | none => rw [e] at z; exact z
    | some o =>
      rw [e] at z h
      cases o <;> first | exact z | cases h
  | obj _ _ => cases h
  | _ => exact z
theorem isiO_no {M : Mem} {C : Addr} {d : D} {t : String} {post : WK} (h : tyN M d = some t) : gIsiO C M d post = post (.bl false) M := by
  refine propext ⟨fun z => ?_, fun z => .inr ⟨⟨t, h⟩, z⟩⟩
  rcases z with z | z
  · exact absurd z (insR_ty h)
  · exact z.2
theorem isiO_obj {M : Mem} {C : Addr} {fs : List (Str × D)} {post : WK} : gIsiO C M (.obj C fs) post = post (.bl true) M := by
  refine propext ⟨fun z => ?_, fun z => .inl (by unfold insR; exact ⟨rfl, z⟩)⟩
  rcases z with z | ⟨⟨t, h⟩, _⟩
  · unfold insR at z; exact z.2
  · cases h
section
variable {X : Cx} {e : Expr} {es : List Expr} {we : WE} {pos p : Pos}
theorem de_isiO {C : Addr} {x : Str} {p p2 : Pos} (hq : Cls X.K C ∧ isiB X.K C = true ∧ X.mg x = some (.ref C)) (hn : noB X.K C = true) (he : DE X e we) (hm : X.mg "isinstance" = none) (hg : Gl X "isinstance" := by rfl) (hgT : Gl X x := by rfl)
    (hdb : (x == ("__debug__" : Str)) = false := by decide) (hs : starEach [e, .Name x p2] X.env = (false, eval e X.env) :: starEach [.Name x p2] X.env := by rfl) (hpl : (backTo pos (starEach [.Name x p2] X.env)).any (·.1) = false := by rfl)
    (hs2 : starEach [.Name x p2] X.env = (false, eval (.Name x p2) X.env) :: starEach [] X.env := by rfl) : DE X (.Call (.Name "isinstance" p) [e, .Name x p2] [] pos) (wIsiO C we) :=
  PE.weak (pe_callB call_isi hg hm (by decide +kernel) (pa_cons he (pa_cons (pe_glob (v := .ref C) hgT hq.2.2 rfl hdb) pa_nil hs2) hs) (by decide) (by decide) hs hpl) fun σ H Q h =>
    up_bind (k := fun d Γ M post => gIsiO C M d post) h fun v d H1 H0 Γ M post f e r q p => by
      rcases q with q | ⟨⟨t, ht⟩, q⟩
      · obtain ⟨a, dx, xs, fs, rfl, ho, kv, q⟩ := insR_of f r q
        obtain ⟨h1, h2, h3, h4⟩ := isiB_ok hq.2.1
        exact ⟨.ref a, .ref C, .ref C, .ref C, true, rfl, .own C, .base (.ins ho hq.1 h1 h2 h3 h4), by unfold PySem.W.kitOne; simp, p.now f (.bl true) q⟩
      · exact ⟨v, .ref C, .type t, .ref C, false, rfl, .own C, tyN_ty f r ht, noB_ok hn (tyN_mem ht), p.now f (.bl false) q⟩
def wFmt (w : WE) : WE := fun Γ M post => w Γ M fun d M1 => isS d fun y => post (.str y) M1
theorem de_fmt (he : DE X e we) : DE X (.FormattedValue e (-1) none pos) (wFmt we) :=
  PE.weak (pe_fmt he) fun σ H Q h => up_bind (k := fun d Γ M post => isS d fun y => post (.str y) M) h fun v d H1 H0 Γ M post f e r q p => by
    obtain ⟨y, rfl, q⟩ := isS_of q
    cases r with
    | str _ hy => exact .inl ⟨y, rfl, sOk_len hy, p.now f (.str _ hy) q⟩
def wJs : List WE → Str → WE
  | [], acc => fun _ M post => post (.str acc) M
  | w :: ws, acc => fun Γ M post => w Γ M fun d M1 => isS d fun y => acc.length + y.length ≤ 16777216 ∧ wJs ws (acc ++ y) Γ M1 post
def DJ (X : Cx) (es : List Expr) (ws : List WE) : Prop := PJ X es (ws.map (up X.K))
theorem dj_nil : DJ X [] [] := .nil
theorem dj_cons {ws : List WE} (he : DE X e we) (r : DJ X es ws) : DJ X (e :: es) (we :: ws) := .cons he r
theorem up_js {σ : L2.St} {Q : VK} : ∀ (ws : List WE) (acc : Str) (H : Hp), sOk acc = true → up X.K (wJs ws acc) σ H Q → tJs (ws.map (up X.K)) acc σ H fun out H1 => Q (.str out) H1
  | [], acc, H, ha, ⟨H0, Γ, M, post, f, e, hw, p⟩ => p.now f (.str _ ha) hw
  | w :: ws, acc, H, ha, ⟨H0, Γ, M, post, f, e, hw, p⟩ => ⟨H0, Γ, M, _, f, e, hw, fun v d H' H0' M' q f' s r => by
      obtain ⟨y, rfl, hz, q⟩ := isS_of q
      cases r with
      | str _ hy => exact ⟨y, rfl, by show (acc.cps ++ y.cps).size ≤ _; rw [Array.size_append, sizeLine_eq]; exact hz, up_js ws (acc ++ y) H' (sOk_append ha hy hz) ⟨H0', Γ, M', post, f', e.mono s, q, p.mono s⟩⟩⟩
theorem de_joined {v1 v2 : Expr} {rest : List Expr} {ws : List WE} (h : DJ X (v1 :: v2 :: rest) ws) : DE X (.JoinedStr (v1 :: v2 :: rest) pos) (wJs ws Str.empty) :=
  PE.weak (pe_joined h) fun σ H Q q => up_js ws Str.empty H (by decide +kernel) q
theorem de_joined1 (h : DE X e we) : DE X (.JoinedStr [e] pos) we := pe_joined1 h
theorem js_nil {acc : Str} : wJs [] acc = (fun _ M post => post (.str acc) M : WE) := rfl
theorem js_cons {w : WE} {ws : List WE} {acc : Str} : wJs (w :: ws) acc = (fun Γ M post => w Γ M fun d M1 => isS d fun y => acc.length + y.length ≤ 16777216 ∧ wJs ws (acc ++ y) Γ M1 post : WE) := rfl
end
end FD

namespace FD
open PySem PySem.Spec PyProof.Rows L2
theorem wIsiO_e (C : Addr) (w : WE) : FD.wIsiO C w = (fun Γ M post => w Γ M fun d M1 => gIsiO C M1 d post : WE) := rfl
theorem wFmt_e (w : WE) : FD.wFmt w = (fun Γ M post => w Γ M fun d M1 => isS d fun y => post (.str y) M1 : WE) := rfl
theorem wTruO_e (C : Addr) (dsp : DSp) (w : WE) : FD.wTruO C dsp w = (fun Γ M post => w Γ M fun d M1 => insR M1 C d (fun _ => True) ∧ dsp [d] M1 fun e M' => ∃ n : Nat, e = .int (n : Int) ∧ n ≤ 16777216 ∧ post (!decide (n = 0)) M' : WT) := rfl
theorem gLenO_e (C : Addr) (dsp : DSp) : FD.gLenO C dsp = (fun M ds post => one ds fun d => insR M C d (fun _ => True) ∧ dsp [d] M fun e M' => ∃ n : Nat, e = .int (n : Int) ∧ n ≤ 16777216 ∧ post (.int (n : Int)) M' : GA) := rfl
theorem wMakeK_e (C : Addr) (m : Nat) (ix : List Nat) (dsp : DSp) (wk : WA) : FD.wMakeK C m ix dsp wk = (fun Γ M post => wk Γ M fun es M2 => es.length = m ∧ ∀ a, M2 a = none → dsp (pick ix (.ptr a :: es)) (M2.upd a (.ins C [])) fun d M3 => d = .non ∧ post (.ptr a) M3 : WE) := rfl
theorem gOwn_e (C : Addr) (dsp : DSp) (neg : Bool) : FD.gOwn C dsp neg = (fun M x y post => insR M C x (fun _ => True) ∧ okR C M y ∧ dsp [x, y] M fun d M' => isB d fun b => post (.bl (if neg then !b else b)) M' : G2) := rfl
mutual
theorem eqd_refl : ∀ d : D, PyData.eqv d.py d.py = true
  | .non => rfl
  | .bl b => by simp [D.py, PyData.eqv]
  | .int i => by simp [D.py, PyData.eqv]
  | .str s => by simp [D.py, PyData.eqv]
  | .tup l => by simp only [D.py, PyData.eqv]; exact eqs_refl l
  | .ftp l => by simp only [D.py, PyData.eqv]; exact eqs_refl l
  | .ktp l => by simp only [D.py, PyData.eqv]; exact eqs_refl l
  | .lst l => by simp only [D.py, PyData.eqv]; exact eqs_refl l
  | .scr l => by simp only [D.py, PyData.eqv]; exact eqs_refl l
  | .ptr _ => rfl
  | .obj _ _ => rfl
  | .dcK _ => rfl
  | .dcT _ => rfl
  | .exc _ _ _ _ => rfl
theorem eqs_refl : ∀ l : List D, PyData.eqvAll (pyAll l) (pyAll l) = true
  | [] => rfl
  | x :: l => by simp only [pyAll, PyData.eqvAll, eqd_refl x, eqs_refl l, Bool.and_self]
end
def eqs (l m : List D) : Bool := PyData.eqvAll (pyAll l) (pyAll m)
theorem eqs_nil : eqs [] [] = true := rfl
theorem eqs_cons {x y : D} {l m : List D} : eqs (x :: l) (y :: m) = (eqd x y && eqs l m) := rfl
theorem eqd_tups {x y : D} {l m : List D} (hx : tupOf x = some l) (hy : tupOf y = some m) : eqd x y = eqs l m := by
  have e : ∀ {z : D} {n : List D}, tupOf z = some n → z.py = .tuple (pyAll n) := fun {z n} h => by cases z <;> cases h <;> rfl
  unfold eqd
  rw [e hx, e hy]
  simp only [PyData.eqv, eqs]
theorem eqs_map {α : Type} [DecidableEq α] {f : α → D} (hf : ∀ a b, eqd (f a) (f b) = decide (a = b)) : ∀ l m : List α, eqs (l.map f) (m.map f) = decide (l = m)
  | [], [] => rfl
  | [], _ :: _ => rfl
  | _ :: _, [] => rfl
  | a :: l, b :: m => by
    rw [List.map_cons, List.map_cons, eqs_cons, hf, eqs_map hf l m]
    by_cases h : a = b <;> by_cases k : l = m <;> simp [h, k]
theorem eqs_strs (l m : List Str) : eqs (l.map D.str) (m.map D.str) = decide (l = m) := eqs_map (fun a b => eqd_str) l m
end FD
namespace FM
open PySem PySem.Spec PyProof.Rows L2 FD
section
variable {K : PySem.W.Frag} {M : Mem} {fg gg : Fg} {p q : Pan} {post : WK} {dsp : DSp} {neg : Bool} {d : D}
theorem isiO_pan : gIsiO (He.ga K "Panel") M (panF K fg p) post = post (.bl true) M := isiO_obj
theorem okR_pan : okR (He.ga K "Panel") M (panF K fg p) := .inl (by rw [ins_pan]; trivial)
theorem insT_pan : insR M (He.ga K "Panel") (panF K fg p) (fun _ => True) = True := by rw [ins_pan]
def rsEq (rs qs : List Rule) : Bool := eqd (.tup (rs.map ruleD)) (.tup (qs.map ruleD))
theorem eq_names {ss tt : List Str} : gEq M (strsF ss) (strsF tt) post = post (.bl (decide (ss = tt))) M := by
  unfold gEq
  have r1 : ∀ l, rsv M (strsF l) = strsF l := fun l => rfl
  rw [r1, r1, eqd_tups rfl rfl, eqs_strs]
  have z : ∀ l : List Str, (strsF l).dp = 1 := fun l => by show dpAll (l.map D.str) + 1 = 1; rw [dpAll_strs]
  rw [z, z]
  exact propext ⟨fun h => h.2.2, fun h => ⟨by omega, by omega, h⟩⟩
theorem eq_rules {post : WK} (h : dpAll (p.rs.map ruleD) ≤ 60) (h' : dpAll (q.rs.map ruleD) ≤ 60) : gEq M (tq fg (p.rs.map ruleD)) (tq gg (q.rs.map ruleD)) post = post (.bl (rsEq p.rs q.rs)) M := by
  have r1 : ∀ f l, rsv M (tq f l) = tq f l := fun f l => by cases f <;> rfl
  unfold gEq
  rw [r1, r1, dp_tq, dp_tq]
  have e : eqd (tq fg (p.rs.map ruleD)) (tq gg (q.rs.map ruleD)) = rsEq p.rs q.rs := by unfold rsEq eqd; rw [py_tq, py_tq]; rfl
  rw [e]
  exact propext ⟨fun z => z.2.2, fun z => ⟨by omega, by omega, z⟩⟩
end
end FM

namespace FM
open PySem PySem.Spec PyProof.Rows L2 FD
theorem txj (y : Str) (parts : List Str) : Txt.join y parts = Str.join y parts := TL.join_eq y parts
def tOk (n : Nat) (s : Str) : Prop := cOk s ∧ s.length ≤ n
theorem tOk.mono {n m : Nat} {s : Str} (h : tOk n s) (k : n ≤ m) : tOk m s := ⟨h.1, Nat.le_trans h.2 k⟩
theorem tOk.app {n m : Nat} {s t : Str} (h : tOk n s) (k : tOk m t) : tOk (n + m) (s ++ t) := ⟨h.1.app k.1, by rw [Str.length_append]; have := h.2; have := k.2; omega⟩
theorem tOk.sOk {n : Nat} {s : Str} (h : tOk n s) (k : n ≤ 16777216) : sOk s = true := sOk_of (Nat.le_trans h.2 k) h.1
theorem tOk.of_name {s : Str} (h : nameOk s = true) : tOk 8 s := by
  refine ⟨fun c hc => sOk_mem (name_sOk h) hc, ?_⟩
  unfold nameOk at h
  simp only [Bool.and_eq_true, decide_eq_true_eq] at h
  exact h.1.1.2
theorem sum_le {ss : List Str} {m : Nat} (h : ∀ s ∈ ss, tOk m s) : (ss.map (·.length)).sum ≤ ss.length * m := by
  induction ss with
  | nil => simp
  | cons s ss ih =>
    have h1 := (h s (by simp)).2
    have h2 := ih fun x hx => h x (List.mem_cons_of_mem _ hx)
    simp only [List.map_cons, List.sum_cons, List.length_cons, Nat.succ_mul]
    omega
theorem tOk.join {sep : Str} {ss : List Str} {m n k : Nat} (hs : tOk k sep) (h : ∀ s ∈ ss, tOk m s) (hn : ss.length ≤ n) : tOk (n * (m + k)) (Txt.join sep ss) := by
  rw [txj]
  refine ⟨hs.1.join fun t ht => (h t ht).1, Nat.le_trans (StrLaws.join_length_le sep ss) ?_⟩
  have h1 := sum_le h
  have h2 := hs.2
  have h3 : ss.length * sep.length ≤ ss.length * k := Nat.mul_le_mul_left _ h2
  have h4 : ss.length * (m + k) ≤ n * (m + k) := Nat.mul_le_mul_right _ hn
  rw [Nat.mul_add] at h4
  omega
theorem jn_core {sep : Str} {ss : List Str} {m k : Nat} (hs : tOk k sep) (h : ∀ s ∈ ss, tOk m s) (hb : ss.length * (m + k) ≤ 16777216) : (ss.map (·.length)).sum + ss.length * sep.length ≤ 16777216 ∧ sOk (Txt.join sep ss) = true := by
  refine ⟨?_, (tOk.join hs h (Nat.le_refl _)).sOk hb⟩
  have h1 := sum_le h
  have h3 : ss.length * sep.length ≤ ss.length * k := Nat.mul_le_mul_left _ hs.2
  rw [Nat.mul_add] at hb
  omega
section
variable {M : Mem} {sep : Str} {ss : List Str} {m k : Nat} {post : WK}
theorem jn_lst (hs : tOk k sep) (h : ∀ s ∈ ss, tOk m s) (hb : ss.length * (m + k) ≤ 16777216) : gJn M (.str sep) [.lst (ss.map D.str)] post = post (.str (Txt.join sep ss)) M := by
  unfold gJn
  rw [one_one, isS_str, seq_lst, got_so, txs_map, got_so]
  exact propext ⟨fun z => z.2, fun z => ⟨jn_core hs h hb, z⟩⟩
theorem jn_ftp (hs : tOk k sep) (h : ∀ s ∈ ss, tOk m s) (hb : ss.length * (m + k) ≤ 16777216) : gJn M (.str sep) [.ftp (ss.map D.str)] post = post (.str (Txt.join sep ss)) M := by
  unfold gJn
  rw [one_one, isS_str, seq_ftp, got_so, txs_map, got_so]
  exact propext ⟨fun z => z.2, fun z => ⟨jn_core hs h hb, z⟩⟩
end
theorem em_app (s : Str) : Str.empty ++ s = s := by
  show (⟨#[] ++ s.cps⟩ : Str) = s
  simp
def litT (a : Lit) : Str := Str.empty ++ sg a.s ++ a.n
def ruleT : Rule → Str
  | .be a => Txt.join " " ["be", litT a]
  | .either a b => Txt.join " " ["either", litT a, litT b]
  | .needs a b => Txt.join " " ["needs", litT a, litT b]
  | .bars a b => Txt.join " " ["bars", litT a, litT b]
  | .same _ x y => Str.empty ++ "same" ++ " " ++ x ++ " " ++ y
  | .unlike _ x y => Str.empty ++ "unlike" ++ " " ++ x ++ " " ++ y
def panT (ss : List Str) (rs : List Rule) : Str := Txt.join "\n" ((Str.ofString "switches " ++ Txt.join ", " ss) :: rs.map ruleT)
theorem tOk_dec {s : Str} {n : Nat} (h : (cOkB s && decide (s.length ≤ n)) = true) : tOk n s := by
  rw [Bool.and_eq_true] at h
  exact ⟨cOkB_iff.mp h.1, of_decide_eq_true h.2⟩
theorem sg_tOk (b : Bool) : tOk 1 (sg b) := tOk_dec (by cases b <;> decide +kernel)
theorem em_tOk : tOk 0 Str.empty := tOk_dec (by decide +kernel)
theorem litT_ok {a : Lit} (h : nameOk a.n = true) : tOk 9 (litT a) := ((em_tOk.app (sg_tOk _)).app (tOk.of_name h))
theorem ruleT_ok {ss : List Str} {r : Rule} (h : ∀ s ∈ ss, nameOk s = true) (k : ruleOk ss r = true) : tOk 60 (ruleT r) := by
  have sp : tOk 1 (" " : Str) := tOk_dec (by decide +kernel)
  have w : ∀ s : Str, (cOkB s && decide (s.length ≤ 9)) = true → tOk 9 s := fun s => tOk_dec
  cases r <;> simp [ruleOk, litOk] at k
  · rename_i a
    refine (tOk.join (n := 2) sp (m := 9) (fun s hs => ?_) (by simp)).mono (by omega)
    simp only [List.mem_cons, List.not_mem_nil, or_false] at hs
    rcases hs with rfl | rfl
    · exact w _ (by decide +kernel)
    · exact litT_ok (h _ k)
  · rename_i a b
    refine (tOk.join (n := 3) sp (m := 9) (fun s hs => ?_) (by simp)).mono (by omega)
    simp only [List.mem_cons, List.not_mem_nil, or_false] at hs
    rcases hs with rfl | rfl | rfl
    · exact w _ (by decide +kernel)
    · exact litT_ok (h _ k.1.1)
    · exact litT_ok (h _ k.1.2)
  · rename_i a b
    refine (tOk.join (n := 3) sp (m := 9) (fun s hs => ?_) (by simp)).mono (by omega)
    simp only [List.mem_cons, List.not_mem_nil, or_false] at hs
    rcases hs with rfl | rfl | rfl
    · exact w _ (by decide +kernel)
    · exact litT_ok (h _ k.1.1)
    · exact litT_ok (h _ k.1.2)
  · rename_i a b
    refine (tOk.join (n := 3) sp (m := 9) (fun s hs => ?_) (by simp)).mono (by omega)
    simp only [List.mem_cons, List.not_mem_nil, or_false] at hs
    rcases hs with rfl | rfl | rfl
    · exact w _ (by decide +kernel)
    · exact litT_ok (h _ k.1.1)
    · exact litT_ok (h _ k.1.2)
  · exact (((((em_tOk.app (w "same" (by decide +kernel))).app sp).app (tOk.of_name (h _ k.1.1))).app sp).app (tOk.of_name (h _ k.1.2))).mono (by omega)
  · exact (((((em_tOk.app (w "unlike" (by decide +kernel))).app sp).app (tOk.of_name (h _ k.1.1))).app sp).app (tOk.of_name (h _ k.1.2))).mono (by omega)
theorem head_ok {ss : List Str} (h : ∀ s ∈ ss, nameOk s = true) (l : ss.length ≤ 10) : tOk 109 (Str.ofString "switches " ++ Txt.join ", " ss) :=
  ((tOk_dec (by decide +kernel) : tOk 9 ("switches " : Str)).app (tOk.join (n := 10) (k := 2) (m := 8) (tOk_dec (by decide +kernel)) (fun s hs => tOk.of_name (h s hs)) l)).mono (by omega)
theorem rows_ok {p : Pan} : ∀ s ∈ (Str.ofString "switches " ++ Txt.join ", " p.ss) :: p.rs.map ruleT, tOk 109 s := fun s hs => by
  rcases List.mem_cons.mp hs with rfl | hs
  · exact head_ok p.sw.2.2.2 p.sw.2.1
  · obtain ⟨r, hr, rfl⟩ := List.mem_map.mp hs
    exact (ruleT_ok p.sw.2.2.2 (p.ru r hr)).mono (by omega)
theorem panT_ok {p : Pan} : tOk 30000 (panT p.ss p.rs) := by
  have l := p.len
  refine (tOk.join (n := 241) (k := 1) (m := 109) (tOk_dec (by decide +kernel) : tOk 1 ("\n" : Str)) rows_ok ?_).mono (by omega)
  rw [List.length_cons, List.length_map]; omega
end FM

namespace FM
open PySem PySem.Spec PyProof.Rows L2 FD
section
variable {a b c d e : Str} {x y z u v : D} {l : List (Str × D)}
end
def RzL (d : D) (n : Nat) : Prop := ∃ m, rz d = some m ∧ m ≤ n
def RzA (l : List D) (n : Nat) : Prop := ∃ m, rzAll l = some m ∧ m ≤ n
theorem RzL.mono {d : D} {n m : Nat} (h : RzL d n) (k : n ≤ m) : RzL d m := let ⟨x, e, l⟩ := h; ⟨x, e, Nat.le_trans l k⟩
theorem RzA.mono {d : List D} {n m : Nat} (h : RzA d n) (k : n ≤ m) : RzA d m := let ⟨x, e, l⟩ := h; ⟨x, e, Nat.le_trans l k⟩
theorem RzL.str {s : Str} {n : Nat} (h : tOk n s) : RzL (.str s) (10 * n + 2) := ⟨10 * s.length + 2, by unfold rz; rw [if_pos (cOkB_iff.mpr h.1)], by have := h.2; omega⟩
theorem RzL.non : RzL .non 4 := ⟨4, rfl, Nat.le_refl _⟩
theorem RzL.bl {b : Bool} : RzL (.bl b) 5 := ⟨5, rfl, Nat.le_refl _⟩
theorem RzL.int {i : Int} (h : 0 ≤ i ∧ i ≤ 720) : RzL (.int i) 3 := ⟨3, by unfold rz; rw [if_pos h], Nat.le_refl _⟩
theorem RzA.nil : RzA [] 0 := ⟨0, rfl, Nat.le_refl _⟩
theorem RzA.cons {d : D} {l : List D} {n m : Nat} (h : RzL d n) (k : RzA l m) : RzA (d :: l) (n + 2 + m) := by
  obtain ⟨a, e1, l1⟩ := h
  obtain ⟨b, e2, l2⟩ := k
  exact ⟨a + 2 + b, by unfold rzAll; rw [e1, e2], by omega⟩
theorem RzA.map {α : Type} {f : α → D} {n : Nat} : ∀ {l : List α}, (∀ x ∈ l, RzL (f x) n) → RzA (l.map f) (l.length * (n + 2))
  | [], _ => ⟨0, rfl, Nat.zero_le _⟩
  | x :: l, h => (RzA.cons (h x (by simp)) (RzA.map fun y hy => h y (List.mem_cons_of_mem _ hy))).mono (by rw [List.length_cons, Nat.succ_mul]; omega)
theorem RzL.tup {l : List D} {n : Nat} (h : RzA l n) : RzL (.tup l) (n + 3) := let ⟨m, e, k⟩ := h; ⟨m + 3, by unfold rz; rw [e]; rfl, by omega⟩
theorem RzL.ftp {l : List D} {n : Nat} (h : RzA l n) : RzL (.ftp l) (n + 3) := let ⟨m, e, k⟩ := h; ⟨m + 3, by unfold rz; rw [e]; rfl, by omega⟩
theorem RzL.ktp {l : List D} {n : Nat} (h : RzA l n) : RzL (.ktp l) (n + 3) := let ⟨m, e, k⟩ := h; ⟨m + 3, by unfold rz; rw [e]; rfl, by omega⟩
theorem RzL.lst {l : List D} {n : Nat} (h : RzA l n) : RzL (.lst l) (n + 3) := let ⟨m, e, k⟩ := h; ⟨m + 3, by unfold rz; rw [e]; rfl, by omega⟩
theorem RzL.name {s : Str} (h : nameOk s = true) : RzL (.str s) 82 := RzL.str (tOk.of_name h)
theorem RzL.lit {a : Lit} (h : nameOk a.n = true) : RzL (litD a) 101 := (RzL.tup (.cons (RzL.name h) (.cons (RzL.str (sg_tOk a.s)) .nil))).mono (by omega)
theorem RzL.set {t : List Bool} {n : Nat} (h : t.length ≤ n) (k : n ≤ 1000) : RzL (setD t) (10 * n + 2) := RzL.str ⟨fun c hc => sOk_mem (setS_ok (by omega)) hc, by rw [setS_len]; exact h⟩
theorem RzL.rule {ss : List Str} {r : Rule} (hs : ∀ s ∈ ss, nameOk s = true) (h : ruleOk ss r = true) : RzL (ruleD r) 400 := by
  have w : ∀ s : Str, (cOkB s && decide (s.length ≤ 9)) = true → RzL (.str s) 92 := fun s k => RzL.str (tOk_dec k)
  have tpz : ∀ {f : Bool} {l : List D} {n : Nat}, RzA l n → RzL (tp f l) (n + 3) := fun {f l n} h => by cases f <;> first | exact RzL.tup h | exact RzL.ftp h
  cases r <;> simp [ruleOk, litOk] at h <;> unfold ruleD
  · exact (RzL.tup (.cons (w _ (by decide +kernel)) (.cons (RzL.lit (hs _ h)) .nil))).mono (by omega)
  · exact (RzL.tup (.cons (w _ (by decide +kernel)) (.cons (RzL.lit (hs _ h.1.1)) (.cons (RzL.lit (hs _ h.1.2)) .nil)))).mono (by omega)
  · exact (RzL.tup (.cons (w _ (by decide +kernel)) (.cons (RzL.lit (hs _ h.1.1)) (.cons (RzL.lit (hs _ h.1.2)) .nil)))).mono (by omega)
  · exact (RzL.tup (.cons (w _ (by decide +kernel)) (.cons (RzL.lit (hs _ h.1.1)) (.cons (RzL.lit (hs _ h.1.2)) .nil)))).mono (by omega)
  · exact (tpz (.cons (w _ (by decide +kernel)) (.cons (RzL.name (hs _ h.1.1)) (.cons (RzL.name (hs _ h.1.2)) .nil)))).mono (by omega)
  · exact (tpz (.cons (w _ (by decide +kernel)) (.cons (RzL.name (hs _ h.1.1)) (.cons (RzL.name (hs _ h.1.2)) .nil)))).mono (by omega)
theorem RzL.names {ss : List Str} (h : ∀ s ∈ ss, nameOk s = true) (k : ss.length ≤ 14) : RzA (ss.map D.str) 1200 := (RzA.map (n := 82) fun s hs => RzL.name (h s hs)).mono (Nat.le_trans (Nat.mul_le_mul_right _ k) (by omega))
theorem RzL.rules {ss : List Str} {rs : List Rule} (hs : ∀ s ∈ ss, nameOk s = true) (h : InS ss rs) (k : rs.length ≤ 300) : RzA (rs.map ruleD) 130000 := (RzA.map (n := 400) fun r hr => RzL.rule hs (h r hr)).mono (Nat.le_trans (Nat.mul_le_mul_right _ k) (by omega))
theorem rep_of {d : D} {n : Nat} (h : RzL d n) (hs : isSeqD d = true) (hd : d.dp ≤ 16) (hn : n ≤ 16777216) : RepOk d := let ⟨m, e, k⟩ := h; ⟨hs, hd, m, e, Nat.le_trans k hn⟩
end FM

namespace FM
open PySem PySem.Spec PyProof.Rows L2 FD
def boF (K : PySem.W.Frag) (fg : Fg) (p : Pan) (t : List Bool) (log : List D) (bz : Bool) (past : D) : List (Str × D) := [("panel", panF K fg p), ("setting", setD t), ("log", .tup log), ("busy", .bl bz), ("past", past)]
section
variable {K : PySem.W.Frag} {fg : Fg} {p : Pan} {t u : List Bool} {log lg : List D} {bz b2 : Bool} {past pa : D} {M : Mem} {a : Addr} {k : List (Str × D) → Prop}
theorem lk_bo_panel : (boF K fg p t log bz past).lookup ("panel" : Str) = some (panF K fg p) := rfl
theorem lk_bo_setting : (boF K fg p t log bz past).lookup ("setting" : Str) = some (setD t) := rfl
theorem lk_bo_log : (boF K fg p t log bz past).lookup ("log" : Str) = some (.tup log) := rfl
theorem lk_bo_busy : (boF K fg p t log bz past).lookup ("busy" : Str) = some (.bl bz) := rfl
theorem lk_bo_past : (boF K fg p t log bz past).lookup ("past" : Str) = some past := rfl
theorem put_bo_setting : putFD ("setting" : Str) (setD u) (boF K fg p t log bz past) = boF K fg p u log bz past := rfl
theorem put_bo_log : putFD ("log" : Str) (.tup lg) (boF K fg p t log bz past) = boF K fg p t lg bz past := rfl
theorem put_bo_busy : putFD ("busy" : Str) (.bl b2) (boF K fg p t log bz past) = boF K fg p t log b2 past := rfl
theorem put_bo_past : putFD ("past" : Str) pa (boF K fg p t log bz past) = boF K fg p t log bz pa := rfl
theorem lk_bo_do : (boF K fg p t log bz past).lookup ("do" : Str) = none := rfl
theorem lk_bo_do_all : (boF K fg p t log bz past).lookup ("do_all" : Str) = none := rfl
theorem lk_bo_undo : (boF K fg p t log bz past).lookup ("undo" : Str) = none := rfl
theorem lk_bo_take : (boF K fg p t log bz past).lookup ("take" : Str) = none := rfl
theorem lk_bo_trial : (boF K fg p t log bz past).lookup ("trial" : Str) = none := rfl
theorem lk_bo_is_deed : (boF K fg p t log bz past).lookup ("is_deed" : Str) = none := rfl
theorem lk_bo_check_idle : (boF K fg p t log bz past).lookup ("check_idle" : Str) = none := rfl
end
def stF (t : List Bool) (log : List D) (past o : D) : List (Str × D) := [("setting", setD t), ("log", .tup log), ("past", past), ("other", o)]
def stageD (K : PySem.W.Frag) (t : List Bool) (log : List D) (past o : D) : D := .obj (He.ga K "Stage") (stF t log past o)
section
variable {K : PySem.W.Frag} {t : List Bool} {log : List D} {past o : D} {M : Mem} {k : List (Str × D) → Prop}
theorem lk_sg_setting : (stF t log past o).lookup ("setting" : Str) = some (setD t) := rfl
theorem lk_sg_log : (stF t log past o).lookup ("log" : Str) = some (.tup log) := rfl
theorem lk_sg_past : (stF t log past o).lookup ("past" : Str) = some past := rfl
theorem lk_sg_other : (stF t log past o).lookup ("other" : Str) = some o := rfl
theorem insR_stage : insR M (He.ga K "Stage") (stageD K t log past o) k = k (stF t log past o) := by
  simp [insR, stageD]
end
theorem Jm.cell {j a : Addr} {M M' : Mem} {mo : MO} (h : Jm j M M') (ne : a ≠ j) (e : M a = some mo) : M' a = some mo := by
  obtain ⟨x, y, z, rfl⟩ := h
  rw [Mem.upd_ne ne]; exact e
end FM

namespace FD
open PySem PySem.Spec PyProof.Rows L2
section
variable {X : Cx} {pos : Pos} {es : List Expr}
def gUnL (n : Nat) (u : WGs) : WG := fun d Γ M post => got (lstOf M d) fun l => l.length = n ∧ u l Γ M post
theorem gUnL_e (n : Nat) (u : WGs) : FD.gUnL n u = (fun d Γ M post => got (lstOf M d) fun l => l.length = n ∧ u l Γ M post : WG) := rfl
end
def gUpper : GM := fun M d ds post => isS d fun s => ds = [] ∧ sOk (Txt.upper s) = true ∧ post (.str (Txt.upper s)) M
theorem gUpper_e : FD.gUpper = (fun M d ds post => isS d fun s => ds = [] ∧ sOk (Txt.upper s) = true ∧ post (.str (Txt.upper s)) M : GM) := rfl
def wM0 (ok : Mem → D → Prop) (g : GM) (wo : WE) : WE := fun Γ M post => wo Γ M fun d M1 => ok M1 d ∧ g M1 d [] post
theorem wM0_e (ok : Mem → D → Prop) (g : GM) (wo : WE) : FD.wM0 ok g wo = (fun Γ M post => wo Γ M fun d M1 => ok M1 d ∧ g M1 d [] post : WE) := rfl
section
variable {X : Cx} {apos cpos : Pos} {o : Expr} {wo : WE}
end
structure FngMX (P : Program) (w : World) (K : PySem.W.Frag) (mg : Str → Option Value) (base : Heap) (k : Nat) (C : Addr) (m qual : Str) (st : Stmt) (ps : List Str) (dsp : DSpX) : Prop where
  ex : ∃ (f : Addr) (fd : FuncData), FunD K m qual (defArgs st) (defBody st) (defScope st) [] [] f fd ∧ Meth K C m f ∧ FnGX P w K mg base k f fd ps dsp
structure PubMKX (P : Program) (w : World) (K : PySem.W.Frag) (mg : Str → Option Value) (base : Heap) (k : Nat) (C : Addr) (m : Str) (n : Nat) (ks : List Str) (ix : List Nat) (ps : List Str) (dsp : DSpX) : Prop where
  ex : ∃ (f : Addr) (fd : FuncData), Meth K C m f ∧ (∀ (s : Shared) (us ws : List Value), us.length = n → ws.length = ks.length → BindsTo s fd ⟨us, ks.zip ws⟩ (ps.zip (pick ix (us ++ ws)))) ∧ FnGX P w K mg base k f fd ps dsp
section
variable {P : Program} {w : World} {K : PySem.W.Frag} {mg : Str → Option Value} {base : Heap}
theorem FngMX.pub {k : Nat} {C : Addr} {m qual : Str} {st : Stmt} {ps : List Str} {dsp : DSpX} (F : FngMX P w K mg base k C m qual st ps dsp)
    (bd : ∀ (kV doc pm : Value) (an : Option Addr) (cdv ct : Value) (us : List Value), us.length = ps.length → bindArgs (PySem.W.fnOf m qual (defArgs st) (defBody st) (defScope st) .none kV doc pm an cdv ct) ⟨us, []⟩ = pure (ps.zip us)) : PubMX P w K mg base k C m ps dsp := by
  obtain ⟨f, fd, D, mt, G⟩ := F.ex
  exact ⟨f, fd, mt, D.bindsN bd, G⟩
end
section
variable {X : Cx} {E : XK} {xp : XP} {k n : Nat} {C : Addr} {ps ks : List Str} {ix : List Nat} {dsp : DSpX} {m : Str} {pos apos : Pos} {o : Expr} {wo : WE} {kws : List Keyword} {wk : WA}
end
end FD
namespace FM
open PySem PySem.Spec PyProof.Rows L2 FD
end FM

namespace FD
open PySem PySem.Spec PySem.Calls PyProof.Rows L2
section
variable {prog : Program} {w : World} {A : Around} {E : Value → Shared → Prop} {s : Shared} {x : Addr}
open Builtin in
end
section
variable {X : Cx} {k : Nat} {C : Addr} {ps : List Str} {dsp : DSp}
def gStrO (C : Addr) (dsp : DSp) : GA := fun M ds post => one ds fun d => insR M C d (fun _ => True) ∧ dsp [d] M fun e M' => ∃ t, e = .str t ∧ post (.str t) M'
theorem gStrO_e (C : Addr) (dsp : DSp) : FD.gStrO C dsp = (fun M ds post => one ds fun d => insR M C d (fun _ => True) ∧ dsp [d] M fun e M' => ∃ t, e = .str t ∧ post (.str t) M' : GA) := rfl
theorem c_strO (G : PubM X.prog X.w X.K X.mg X.base k C "__str__" ps dsp) (room : Room (k + 2) X.A) (gd : X.A.guards = some []) : CallR X (.type "str") (rUA X.K (gStrO C dsp)) := by
  intro pins s σ H xs us Q I r h
  obtain ⟨f, fd, hm, hb, G⟩ := G.ex
  obtain ⟨H0, M, ds, post, fr, ra, q, p⟩ := h
  obtain ⟨d, rfl, hx, hd⟩ := one_of q
  cases ra with
  | @cons v _ _ _ r1 t1 =>
    cases t1
    obtain ⟨a, dx, xs, fs, rfl, ha, kv, _⟩ := insR_of fr r1 hx
    rw [Vals.ref1 r]
    obtain ⟨mA, J, _⟩ := ins_get I.hok ha
    obtain ⟨od, J, _⟩ := J.look
    have r0 : Vals [V.ref a] [Value.ref a] := .cons rfl .nil
    have sp : toSp X.K dsp [.ref a] H fun v H' => ∃ t, v = .str t ∧ Q (.str t) H' := ⟨H0, M, [d], _, fr, .cons r1 .nil, hd, fun v e H' H0' M' ⟨t, e1, hq⟩ f' s' r' => by
      subst e1
      cases r' with
      | str _ ok => exact ⟨t, rfl, p _ _ _ _ _ hq f' s' (.str _ ok)⟩⟩
    refine PySem.W.kso_call (Nat.lt_of_le_of_lt (Nat.le_add_right _ _) room.in1.in1.units) I.kIn J hm.at_ hm.fn (wpAny_mono (run_at rfl gd G room.in1.in1 hb I r0 sp) (fun z s' hz => ?_) fun _ _ z => z)
    obtain ⟨v', H', I', rv', t, rfl, q⟩ := hz
    obtain ⟨tk, rfl⟩ := (show ∃ tk, z = Value.str t tk from rv')
    exact ⟨.str t, H', I', ⟨_, rfl⟩, q⟩
def gBoolO (C : Addr) (dsp : DSp) : GA := fun M ds post => one ds fun d => insR M C d (fun _ => True) ∧ dsp [d] M fun e M' => ∃ n : Nat, e = .int (n : Int) ∧ n ≤ 16777216 ∧ post (.bl (!decide (n = 0))) M'
theorem gBoolO_e (C : Addr) (dsp : DSp) : FD.gBoolO C dsp = (fun M ds post => one ds fun d => insR M C d (fun _ => True) ∧ dsp [d] M fun e M' => ∃ n : Nat, e = .int (n : Int) ∧ n ≤ 16777216 ∧ post (.bl (!decide (n = 0))) M' : GA) := rfl
end
end FD

namespace FD
open PySem PySem.Spec PySem.Calls PyProof.Rows L2
section
variable {X : Cx} {st : Stmt} {pos : Pos} {w : WS}
def sCt : WS := fun E Γ M => E.ct Γ M
theorem sCt_e : FD.sCt = (fun E Γ M => E.ct Γ M : WS) := rfl
def sFrz (i : Nat) (w : WS) : WS := fun E Γ M => look Γ i fun d => ∃ (d' : D) (M2 : Mem), M2.le M ∧ Fz M M2 d d' ∧ w E (Γ.set i (some d')) M2
theorem sFrz_e (i : Nat) (w : WS) : FD.sFrz i w = (fun E Γ M => look Γ i fun d => ∃ (d' : D) (M2 : Mem), M2.le M ∧ Fz M M2 d d' ∧ w E (Γ.set i (some d')) M2 : WS) := rfl
def gLeS : G2 := fun M x y post => isS x fun i => isS y fun j => post (.bl (!decide (j.cps.toList < i.cps.toList))) M
theorem gLeS_e : FD.gLeS = (fun M x y post => isS x fun i => isS y fun j => post (.bl (!decide (j.cps.toList < i.cps.toList))) M : G2) := rfl
end
end FD
namespace FM
open PySem PySem.Spec PyProof.Rows L2 FD
theorem letter_iff {c : Nat} : c ∈ letters.cps.toList ↔ 97 ≤ c ∧ c ≤ 122 := by
  constructor
  · exact (show ∀ c ∈ letters.cps.toList, 97 ≤ c ∧ c ≤ 122 by decide +kernel) c
  · rintro ⟨h1, h2⟩
    have key : ∀ k : Fin 26, (97 + k.1) ∈ letters.cps.toList := by decide +kernel
    have := key ⟨c - 97, by omega⟩
    have e : 97 + (c - 97) = c := by omega
    simpa [e] using this
end FM
namespace FM
open PySem PySem.Spec PyProof.Rows L2 FD
theorem enumD_id {l : List D} : enumD 0 l = l.zipIdx.map fun q => D.tup [.int (q.2 : Int), q.1] := by
  have := enumD_map (l := l) (k := 0) (f := fun d => d)
  simpa using this
theorem zipIdx_at {α : Type} {l : List α} {i j : Nat} {x : α} (h : l.zipIdx[i]? = some (x, j)) : l[i]? = some x ∧ j = i := by
  rw [List.getElem?_zipIdx] at h
  cases e : l[i]? with
  | none => rw [e] at h; cases h
  | some y => rw [e] at h; simp at h; exact ⟨by rw [h.1], by omega⟩
end FM
namespace FM
open PySem PySem.Spec PyProof.Rows L2 FD
def deF (ss : List Str) (rs : List Rule) (pr pa : List D) : List (Str × D) := [("switches", strsF ss), ("rules", .tup (rs.map ruleD)), ("promises", .tup pr), ("past", .tup pa)]
section
variable {ss : List Str} {rs qs : List Rule} {pr pa p2 : List D}
theorem lk_de_switches : (deF ss rs pr pa).lookup ("switches" : Str) = some (strsF ss) := rfl
theorem lk_de_rules : (deF ss rs pr pa).lookup ("rules" : Str) = some (.tup (rs.map ruleD)) := rfl
theorem lk_de_promises : (deF ss rs pr pa).lookup ("promises" : Str) = some (.tup pr) := rfl
theorem lk_de_past : (deF ss rs pr pa).lookup ("past" : Str) = some (.tup pa) := rfl
theorem lk_de_undo : (deF ss rs pr pa).lookup ("undo" : Str) = none := rfl
theorem lk_de_put : (deF ss rs pr pa).lookup ("put" : Str) = none := rfl
theorem lk_de_turn : (deF ss rs pr pa).lookup ("turn" : Str) = none := rfl
theorem lk_de_become : (deF ss rs pr pa).lookup ("become" : Str) = none := rfl
theorem lk_de_take : (deF ss rs pr pa).lookup ("take" : Str) = none := rfl
theorem lk_de_promise : (deF ss rs pr pa).lookup ("promise" : Str) = none := rfl
theorem lk_de_lift : (deF ss rs pr pa).lookup ("lift" : Str) = none := rfl
theorem lk_de_trial : (deF ss rs pr pa).lookup ("trial" : Str) = none := rfl
theorem lk_de_as_panel : (deF ss rs pr pa).lookup ("as_panel" : Str) = none := rfl
theorem put_de_past : putFD ("past" : Str) (.tup p2) (deF ss rs pr pa) = deF ss rs pr p2 := rfl
theorem put_de_promises : putFD ("promises" : Str) (.tup p2) (deF ss rs pr pa) = deF ss rs p2 pa := rfl
end
end FM
namespace FM
open PySem PySem.Spec PyProof.Rows L2 FD
end FM
namespace FM
open PySem PySem.Spec PyProof.Rows L2 FD
theorem nameOk_iff {s : Str} : nameOk s = true ↔ (1 ≤ s.length ∧ s.length ≤ 8) ∧ s ∉ words ∧ ∀ c ∈ s.cps.toList, 97 ≤ c ∧ c ≤ 122 := by
  unfold nameOk
  simp only [Bool.and_eq_true, decide_eq_true_eq, List.all_eq_true, Bool.not_eq_true', decide_eq_false_iff_not, letter_iff]
  exact ⟨fun h => ⟨h.1.1, h.1.2, h.2⟩, fun h => ⟨⟨h.1, h.2.1⟩, h.2.2⟩⟩
end FM
namespace FM
open PySem PySem.Spec PyProof.Rows L2 FD
end FM

namespace FD
open PySem PySem.Spec PySem.Calls PyProof.Rows L2
section
variable {X : Cx} {body fs : List Stmt} {f₀ : Stmt} {pos : Pos}
def sFin (tb tf : WS) : WS := fun E Γ M => tb { nx := fun Γ1 M1 => tf E Γ1 M1, rt := fun _ _ => False } Γ M
theorem sFin_e (tb tf : WS) : FD.sFin tb tf = (fun E Γ M => tb { nx := fun Γ1 M1 => tf E Γ1 M1, rt := fun _ _ => False } Γ M : WS) := rfl
end
section
variable {X : Cx} {o : Expr} {f : Str} {C : Addr} {pos : Pos} {wo : WE}
def gFldD (C : Addr) (f : Str) (wo : WE) : WG := fun d Γ M post => wo Γ M fun d2 M2 => insOf M2 C d2 fun a fs => fs.length < 1000 ∧ post Γ (M2.upd a (.ins C (putFD f d fs)))
theorem gFldD_e (C : Addr) (f : Str) (wo : WE) : FD.gFldD C f wo = (fun d Γ M post => wo Γ M fun d2 M2 => insOf M2 C d2 fun a fs => fs.length < 1000 ∧ post Γ (M2.upd a (.ins C (putFD f d fs))) : WG) := rfl
end
def gPop0 : GM := fun M d ds post => ds = [] ∧ cell M d fun a l => got l.getLast? fun z => post z (M.upd a (.lst l.dropLast))
theorem gPop0_e : FD.gPop0 = (fun M d ds post => ds = [] ∧ cell M d fun a l => got l.getLast? fun z => post z (M.upd a (.lst l.dropLast)) : GM) := rfl
section
variable {X : Cx} {apos cpos : Pos} {o : Expr} {wo : WE}
end
structure PubMD (P : Program) (w : World) (K : PySem.W.Frag) (mg : Str → Option Value) (base : Heap) (k : Nat) (C : Addr) (m : Str) (ps : List Str) (dvD : List D) (dsp : DSp) : Prop where
  ex : ∃ (f : Addr) (fd : FuncData) (ds : List Value) (dvs : List V), Meth K C m f ∧ Binds K fd ps ds ∧ Vals dvs ds ∧ (∀ H0 : F, RpAll K H0 dvs dvD) ∧ FnG P w K mg base k f fd ps dsp
section
variable {P : Program} {w : World} {K : PySem.W.Frag} {mg : Str → Option Value} {base : Heap}
end
def wMethD (C : Addr) (m : Str) (dvD : List D) (dsp : DSp) (wo : WE) (w : WA) : WE := fun Γ M post => wo Γ M fun d M1 => insR M1 C d fun fs => fs.lookup m = none ∧ w Γ M1 fun ds M2 => dsp (d :: ds ++ dvD) M2 post
theorem wMethD_e (C : Addr) (m : Str) (dvD : List D) (dsp : DSp) (wo : WE) (w : WA) : FD.wMethD C m dvD dsp wo w = (fun Γ M post => wo Γ M fun d M1 => insR M1 C d fun fs => fs.lookup m = none ∧ w Γ M1 fun ds M2 => dsp (d :: ds ++ dvD) M2 post : WE) := rfl
section
variable {X : Cx} {k : Nat} {C : Addr} {ps : List Str} {dvD : List D} {dsp : DSp} {m : Str} {pos apos : Pos} {o e : Expr} {es : List Expr} {wo : WE} {w : WA}
end
end FD
namespace FM
open PySem PySem.Spec PyProof.Rows L2 FD
structure BSt where
  t : List Bool
  log : List Str
  past : D
def BSt.go (K : PySem.W.Frag) (ss : List Str) (b : BSt) (s : Str) : BSt := ⟨flip b.t (ss.idxOf s), b.log ++ [s], stageD K b.t (b.log.map D.str) b.past .non⟩
def BSt.all (K : PySem.W.Frag) (ss : List Str) (b : BSt) (S : List Str) : BSt := S.foldl (BSt.go K ss) b
end FM
namespace FM
open PySem PySem.Spec PyProof.Rows L2 FD
end FM

namespace FM
section
variable {α : Type} [DecidableEq α] {U : List α} {P : List (α × α)}
end
end FM
namespace FM
open PySem PySem.Spec PyProof.Rows L2 FD
structure NI (rs : List Rule) (S : List (Lit × Lit)) (a : Lit) (st : List Lit × List Lit) : Prop where
  here : a ∈ st.1
  nd : st.1.Nodup
  sub : ∀ b ∈ st.1, b = a ∨ b ∈ S.map (·.2)
  need : ∀ b ∈ st.1, Need rs a b
  lay : ∀ b ∈ st.2, b ∈ st.1
  done : ∀ q ∈ S, q.1 ∈ st.1 → q.1 ∈ st.2 ∨ q.2 ∈ st.1
end FM

namespace FD
open PySem PySem.Spec PyProof.Rows L2
section
variable {prog : Program} {w : World} {A : Around} {E : Value → Shared → Prop} {s : Shared} {β : Type} {vs : List Value} {bs : List β} {enc : β → PyData} {R : Value → β → Prop}
open PySem.W in
end
def prPy (q : Str × Str) : PyData := .tuple [.str q.1, .str q.2]
def prLe : (Str × Str) → (Str × Str) → Bool := PySem.W.dataLe false prPy
def gSortedP : GA := fun M ds post => one ds fun d => got (seqOf M d) fun l => ∃ xs : List (Str × Str), l = xs.map FM.prD ∧ xs.length ≤ 4096 ∧ post (.lst ((xs.mergeSort prLe).map FM.prD)) M
section
variable {X : Cx}
end
section
variable {X : Cx}
def gListN : GA := fun M ds post => one ds fun d => got (seqOf M d) fun l => ∀ p, M p = none → post (.ptr p) (M.upd p (.lst l))
theorem gListN_e : FD.gListN = (fun M ds post => one ds fun d => got (seqOf M d) fun l => ∀ p, M p = none → post (.ptr p) (M.upd p (.lst l)) : GA) := rfl
def gAddC : G2 := fun M x y post => cell M x fun _ a => ∃ b, y = .lst b ∧ a.length + b.length ≤ 16777216 ∧ ∀ p, M p = none → post (.ptr p) (M.upd p (.lst (a ++ b)))
theorem gAddC_e : FD.gAddC = (fun M x y post => cell M x fun _ a => ∃ b, y = .lst b ∧ a.length + b.length ≤ 16777216 ∧ ∀ p, M p = none → post (.ptr p) (M.upd p (.lst (a ++ b))) : G2) := rfl
def wPs : List (WE × WE) → Env → Mem → (List (D × D) → Mem → Prop) → Prop
  | [], _, M, k => k [] M
  | (wk, wv) :: r, Γ, M, k => wk Γ M fun x M1 => wv Γ M1 fun y M2 => wPs r Γ M2 fun ps M3 => k ((x, y) :: ps) M3
def keyed : List (D × D) → Option (List (Key × D))
  | [] => some []
  | (x, y) :: r => match keyK x, keyed r with
    | some k, some l => some ((k, y) :: l)
    | _, _ => none
def wDispN (ws : List (WE × WE)) : WE := fun Γ M post => ∀ p, M p = none → wPs ws Γ (M.upd p (.dK [])) fun ps M2 => M2 p = some (.dK []) ∧ ps.length ≤ 15 ∧ got (keyed ps) fun l => post (.ptr p) (M2.upd p (.dK (joinD [] l)))
theorem wDispN_e (ws : List (WE × WE)) : FD.wDispN ws = (fun Γ M post => ∀ p, M p = none → wPs ws Γ (M.upd p (.dK [])) fun ps M2 => M2 p = some (.dK []) ∧ ps.length ≤ 15 ∧ got (keyed ps) fun l => post (.ptr p) (M2.upd p (.dK (joinD [] l))) : WE) := rfl
theorem wPs_nil (Γ : Env) (M : Mem) (k : List (D × D) → Mem → Prop) : wPs [] Γ M k = k [] M := rfl
theorem wPs_cons (wk wv : WE) (r : List (WE × WE)) (Γ : Env) (M : Mem) (k : List (D × D) → Mem → Prop) : wPs ((wk, wv) :: r) Γ M k = wk Γ M fun x M1 => wv Γ M1 fun y M2 => wPs r Γ M2 fun ps M3 => k ((x, y) :: ps) M3 := rfl
def wRev (w : WE) : WE := fun Γ M post => w Γ M fun d M1 => ∃ l, d = .lst l ∧ post (.lst l.reverse) M1
theorem wRev_e (w : WE) : FD.wRev w = (fun Γ M post => w Γ M fun d M1 => ∃ l, d = .lst l ∧ post (.lst l.reverse) M1 : WE) := rfl
end
end FD

namespace FM
open PySem PySem.Spec PyProof.Rows L2 FD
theorem sortP_lst {M : Mem} {xs : List (Str × Str)} {post : WK} : gSortedP M [.lst (xs.map prD)] post = (xs.length ≤ 4096 ∧ post (.lst ((xs.mergeSort prLe).map prD)) M) := by
  unfold gSortedP
  rw [one_one, seq_lst, got_so]
  exact propext ⟨fun ⟨ys, e, h⟩ => by rw [prs_inj.mp e]; exact h, fun h => ⟨xs, rfl, h⟩⟩
theorem sortP_ftp {M : Mem} {xs : List (Str × Str)} {post : WK} : gSortedP M [.ftp (xs.map prD)] post = (xs.length ≤ 4096 ∧ post (.lst ((xs.mergeSort prLe).map prD)) M) := by
  unfold gSortedP
  rw [one_one, seq_ftp, got_so]
  exact propext ⟨fun ⟨ys, e, h⟩ => by rw [prs_inj.mp e]; exact h, fun h => ⟨xs, rfl, h⟩⟩
theorem keyed_nil : keyed [] = some [] := rfl
theorem keyed_str {s : Str} {y : D} {r : List (D × D)} : keyed ((.str s, y) :: r) = (keyed r).map fun l => (.inr s, y) :: l := by
  show (match keyK (.str s), keyed r with
    | some k, some l => some ((k, y) :: l)
    | _, _ => none) = _
  cases keyed r <;> rfl
theorem pairs_nodup {p : Pan} {t u : List Bool} (lt : t.length = p.ss.length) (lu : u.length = p.ss.length) : (pairsL p t u).Nodup := by
  have nu := unlike_nodup p.sw.2.2.1 lt lu
  unfold pairsL
  generalize unlikeL p.ss t u = U at *
  have key : ∀ (V : List Str), V.Nodup → (V.flatMap fun x => (U.filter fun y => !decide (x = y) && inW p.ss p.rs ⟨y, val p.ss u y⟩ ⟨x, val p.ss u x⟩).map fun y => (x, y)).Nodup := by
    intro V
    induction V with
    | nil => intro _; simp
    | cons x V ih =>
      intro h
      rw [List.nodup_cons] at h
      rw [List.flatMap_cons, List.nodup_append]
      refine ⟨?_, ih h.2, ?_⟩
      · have := nu.filter fun y => !decide (x = y) && inW p.ss p.rs ⟨y, val p.ss u y⟩ ⟨x, val p.ss u x⟩
        unfold List.Nodup at this ⊢
        rw [List.pairwise_map]
        exact this.imp fun h e => h (congrArg Prod.snd e)
      · intro a ha b hb e
        subst e
        obtain ⟨y, _, rfl⟩ := List.mem_map.mp ha
        obtain ⟨z, hz, hm⟩ := List.mem_flatMap.mp hb
        obtain ⟨y2, _, e2⟩ := List.mem_map.mp hm
        have : z = x := congrArg Prod.fst e2
        exact h.1 (this ▸ hz)
  exact key U nu
end FM

namespace FD
open PySem PySem.Spec PyProof.Rows L2
section
variable {X : Cx}
def gAddF : G2 := fun M x y post => ∃ a b, x = .ftp a ∧ y = .ftp b ∧ a.length + b.length ≤ 16777216 ∧ post (.ftp (a ++ b)) M
theorem addF_ftp {M : Mem} {a b : List D} {post : WK} : gAddF M (.ftp a) (.ftp b) post = (a.length + b.length ≤ 16777216 ∧ post (.ftp (a ++ b)) M) := by
  unfold gAddF
  simp only [D.ftp.injEq, exists_and_left, exists_eq_left', exists_eq_left]
end
end FD

namespace FD
open PySem PySem.Spec PyProof.Rows L2
section
variable {X : Cx} {e : Expr} {we : WE} {k : Nat} {p1 p2 p3 pos : Pos}
def gDictS : GA := fun M ds post => one ds fun d => ∃ kvs : List (Str × D), d = .lst (kvs.map fun q => .tup [.str q.1, q.2]) ∧ post (.dcK (joinD [] (kvs.map fun q => (Sum.inr q.1, q.2)))) M
theorem gDictS_e : FD.gDictS = (fun M ds post => one ds fun d => ∃ kvs : List (Str × D), d = .lst (kvs.map fun q => .tup [.str q.1, q.2]) ∧ post (.dcK (joinD [] (kvs.map fun q => (Sum.inr q.1, q.2)))) M : GA) := rfl
def gIndexB : GM := fun M d ds post => one ds fun y => isB y fun k => got (lstOf M d) fun l => got (bools l) fun bs => got (bs.findIdx? (· == k)) fun j => post (.int (j : Nat)) M
theorem gIndexB_e : FD.gIndexB = (fun M d ds post => one ds fun y => isB y fun k => got (lstOf M d) fun l => got (bools l) fun bs => got (bs.findIdx? (· == k)) fun j => post (.int (j : Nat)) M : GM) := rfl
def minStr (x : Str) (xs : List Str) : Str := xs.foldl (fun a y => if y.cps.toList < a.cps.toList then y else a) x
def gMinS : GA := fun M ds post => one ds fun d => ∃ (x : Str) (xs : List Str), d = .lst ((x :: xs).map D.str) ∧ post (.str (minStr x xs)) M
theorem gMinS_e : FD.gMinS = (fun M ds post => one ds fun d => ∃ (x : Str) (xs : List Str), d = .lst ((x :: xs).map D.str) ∧ post (.str (minStr x xs)) M : GA) := rfl
end
end FD
namespace FM
open PySem PySem.Spec PyProof.Rows L2 FD
theorem app_lt : ∀ {a b : List Nat}, a.length = b.length → a < b → ∀ c d : List Nat, a ++ c < b ++ d
  | [], [], _, h, _, _ => absurd h (List.lt_irrefl _)
  | x :: a, y :: b, hl, h, c, d => by
    rw [List.cons_lt_cons_iff] at h
    rw [List.cons_append, List.cons_append, List.cons_lt_cons_iff]
    rcases h with h | ⟨h, k⟩
    · exact .inl h
    · exact .inr ⟨h, app_lt (by simpa using hl) k c d⟩
theorem app_lt2 : ∀ (a : List Nat), a ++ [43] < a ++ [45]
  | [] => by decide
  | x :: a => by
    rw [List.cons_append, List.cons_append, List.cons_lt_cons_iff]
    exact .inr ⟨rfl, app_lt2 a⟩
theorem every_sorted : ∀ n, (every n).Pairwise fun a b => a.map sgc < b.map sgc
  | 0 => by simp [every]
  | n + 1 => by
    rw [every_succ, List.pairwise_flatMap]
    refine ⟨fun a _ => ?_, ?_⟩
    · rw [List.pairwise_cons]
      refine ⟨fun b hb => ?_, by simp⟩
      simp only [List.mem_singleton] at hb
      subst hb
      rw [List.map_append, List.map_append]
      exact app_lt2 _
    · have key : ∀ (l : List (List Bool)), (∀ t ∈ l, t.length = n) → l.Pairwise (fun a b => a.map sgc < b.map sgc) → l.Pairwise fun a b => ∀ x ∈ [a ++ [true], a ++ [false]], ∀ y ∈ [b ++ [true], b ++ [false]], x.map sgc < y.map sgc := by
        intro l
        induction l with
        | nil => intro _ _; exact .nil
        | cons a l ih =>
          intro hl h
          rw [List.pairwise_cons] at h ⊢
          refine ⟨fun b hb x hx y hy => ?_, ih (fun t ht => hl t (List.mem_cons_of_mem _ ht)) h.2⟩
          have lt := h.1 b hb
          have le : (a.map sgc).length = (b.map sgc).length := by rw [List.length_map, List.length_map, hl a List.mem_cons_self, hl b (List.mem_cons_of_mem _ hb)]
          simp only [List.mem_cons, List.not_mem_nil, or_false] at hx hy
          rcases hx with rfl | rfl <;> rcases hy with rfl | rfl <;> (rw [List.map_append, List.map_append]; exact app_lt le lt _ _)
      exact key _ (fun t ht => every_mem_len ht) (every_sorted n)
end FM

set_option maxHeartbeats 3200000
namespace FD
open PySem PySem.Spec PyProof.Rows L2
def ddp1 (a : List Str) (x : Str) : List Str := if a.any (· == x) then a else x :: a
def ddp (xs : List Str) : List Str := xs.foldl ddp1 []
theorem ddp_mem {y : Str} : ∀ {xs a : List Str}, y ∈ xs.foldl ddp1 a ↔ y ∈ a ∨ y ∈ xs
  | [], a => by simp
  | x :: r, a => by
    show y ∈ r.foldl ddp1 (ddp1 a x) ↔ _
    rw [ddp_mem (xs := r) (a := ddp1 a x)]
    unfold ddp1; split
    · rename_i h; simp at h; constructor <;> grind
    · constructor <;> grind
theorem ddp_nodup : ∀ {xs a : List Str}, a.Nodup → (xs.foldl ddp1 a).Nodup
  | [], a, h => h
  | x :: r, a, h => by
    refine ddp_nodup (xs := r) (a := ddp1 a x) ?_
    unfold ddp1; split
    · exact h
    · rename_i h'; simp at h'; exact List.nodup_cons.mpr ⟨h', h⟩
section
variable {prog : Program} {w : World} {A : Around} {R : Result → Shared → Prop} {I : Addr} {fp wr : List Addr} {G : Array GenState → Array GenState → Prop} {n : Nat} {P : Nat → Value → Prop} {St : Nat → Shared → Prop}
end
section
variable {prog : Program} {w : World} {A : Around} {E : Value → Shared → Prop} {s : Shared}
end
end FD

set_option maxHeartbeats 1000000
namespace FD
open PySem PySem.Spec PyProof.Rows L2
section
variable {X : Cx} {e : Expr} {we : WE} {ta : TE} {p p2 q pos : Pos}
def wSetLen (we : WE) : WE := fun Γ M post => we Γ M fun d M1 => ∃ xs : List Str, d = .lst (xs.map D.str) ∧ xs.length ≤ 4000 ∧ post (.int (ddp xs).length) M1
theorem wSetLen_e (we : WE) : FD.wSetLen we = (fun Γ M post => we Γ M fun d M1 => ∃ xs : List Str, d = .lst (xs.map D.str) ∧ xs.length ≤ 4000 ∧ post (.int (ddp xs).length) M1 : WE) := rfl
end
end FD
namespace FM
open PySem PySem.Spec PyProof.Rows L2 FD
def colL (gs : List (List Bool)) (k : Nat) : List Bool := gs.map fun t => t.getD k false
end FM

namespace FM
open PySem PySem.Spec PyProof.Rows L2 FD
theorem map_not_not : ∀ l : List Bool, (l.map (!·)).map (!·) = l
  | [] => rfl
  | x :: l => by rw [List.map_cons, List.map_cons, map_not_not l, Bool.not_not]
def LinkC (a b : List Bool) : Prop := b = a ∨ b = a.map (!·)
theorem LinkC.symm {a b : List Bool} (h : LinkC a b) : LinkC b a := by
  rcases h with rfl | rfl
  · exact .inl rfl
  · exact .inr (map_not_not a).symm
theorem LinkC.trans {a b c : List Bool} (h : LinkC a b) (k : LinkC b c) : LinkC a c := by
  rcases h with rfl | rfl
  · exact k
  · rcases k with rfl | rfl
    · exact .inr rfl
    · exact .inl (map_not_not a)
variable {p : Pan}
def nm (p : Pan) (k : Nat) : Str := p.ss.getD k ""
def cl (p : Pan) (k : Nat) : List Bool := colL (goodsL p.ss p.rs) k
end FM

namespace FM
open PySem PySem.Spec PyProof.Rows L2 FD
end FM
namespace FM
open PySem PySem.Spec PyProof.Rows L2 FD
end FM

namespace FM
open PySem PySem.Spec PyProof.Rows L2 FD
end FM

namespace FM
open PySem PySem.Spec PyProof.Rows L2 FD
def Lit.ren (f : Str → Str) (a : Lit) : Lit := ⟨f a.n, a.s⟩
def Rule.ren (f : Str → Str) : Rule → Rule
  | .be a => .be (a.ren f)
  | .either a b => .either (a.ren f) (b.ren f)
  | .needs a b => .needs (a.ren f) (b.ren f)
  | .bars a b => .bars (a.ren f) (b.ren f)
  | .same g x y => .same g (f x) (f y)
  | .unlike g x y => .unlike g (f x) (f y)
theorem clauses_ren {f : Str → Str} (r : Rule) : clauses (r.ren f) = (clauses r).map fun c => (c.1.ren f, c.2.ren f) := by cases r <;> rfl
theorem step_ren {f : Str → Str} {rs : List Rule} {a b : Lit} (h : StepP rs a b) : StepP (rs.map (Rule.ren f)) (a.ren f) (b.ren f) := by
  obtain ⟨r, hr, h⟩ := h
  refine ⟨_, List.mem_map_of_mem hr, ?_⟩
  rw [steps_iff] at h ⊢
  obtain ⟨c, hc, h⟩ := h
  refine ⟨(c.1.ren f, c.2.ren f), by rw [clauses_ren]; exact List.mem_map_of_mem hc, ?_⟩
  rcases h with ⟨rfl, rfl⟩ | ⟨rfl, rfl⟩
  · exact .inl ⟨rfl, rfl⟩
  · exact .inr ⟨rfl, rfl⟩
theorem need_map {f : Str → Str} {rs : List Rule} {a b : Lit} (h : Need rs a b) : Need (rs.map (Rule.ren f)) (a.ren f) (b.ren f) := by
  induction h with
  | refl => exact .refl _
  | tail _ s ih => exact ih.tail (step_ren s)
theorem lit_back {f g : Str → Str} {a : Lit} (h : g (f a.n) = a.n) : (a.ren f).ren g = a := by
  obtain ⟨n, s⟩ := a
  show (⟨g (f n), s⟩ : Lit) = _
  rw [h]
theorem rule_back {f g : Str → Str} {ss : List Str} (h : ∀ x ∈ ss, g (f x) = x) {r : Rule} (ok : ruleOk ss r = true) : (r.ren f).ren g = r := by
  cases r with
  | be a => simp only [ruleOk, litOk, decide_eq_true_iff] at ok; simp only [Rule.ren, lit_back (h _ ok)]
  | either a b => simp only [ruleOk, litOk, Bool.and_eq_true, decide_eq_true_iff] at ok; simp only [Rule.ren, lit_back (h _ ok.1.1), lit_back (h _ ok.1.2)]
  | needs a b => simp only [ruleOk, litOk, Bool.and_eq_true, decide_eq_true_iff] at ok; simp only [Rule.ren, lit_back (h _ ok.1.1), lit_back (h _ ok.1.2)]
  | bars a b => simp only [ruleOk, litOk, Bool.and_eq_true, decide_eq_true_iff] at ok; simp only [Rule.ren, lit_back (h _ ok.1.1), lit_back (h _ ok.1.2)]
  | same e x y => simp only [ruleOk, Bool.and_eq_true, decide_eq_true_iff] at ok; simp only [Rule.ren, h _ ok.1.1, h _ ok.1.2]
  | unlike e x y => simp only [ruleOk, Bool.and_eq_true, decide_eq_true_iff] at ok; simp only [Rule.ren, h _ ok.1.1, h _ ok.1.2]
structure Ren (f g : Str → Str) (p q : Pan) : Prop where
  ss : q.ss = p.ss.map f
  rs : q.rs = p.rs.map (Rule.ren f)
  inv : ∀ x ∈ p.ss, g (f x) = x
variable {f g : Str → Str} {p q : Pan}
theorem Ren.inj (R : Ren f g p q) {x y : Str} (hx : x ∈ p.ss) (hy : y ∈ p.ss) (e : f x = f y) : x = y := by rw [← R.inv x hx, ← R.inv y hy, e]
theorem Ren.mem (R : Ren f g p q) {x : Str} (hx : x ∈ p.ss) : f x ∈ q.ss := by rw [R.ss]; exact List.mem_map_of_mem hx
theorem Ren.inW (R : Ren f g p q) {a b : Lit} (ha : a.n ∈ p.ss) (hb : b.n ∈ p.ss) : FM.inW q.ss q.rs (a.ren f) (b.ren f) = FM.inW p.ss p.rs a b := by
  rw [Bool.eq_iff_iff, inW_iff q.ru (a := a.ren f) (R.mem ha), inW_iff p.ru ha, R.rs]
  refine ⟨fun h => ?_, need_map⟩
  have k := need_map (f := g) h
  have e : (p.rs.map (Rule.ren f)).map (Rule.ren g) = p.rs := by
    rw [List.map_map]
    conv => rhs; rw [← List.map_id p.rs]
    exact List.map_congr_left fun r hr => rule_back R.inv (p.ru r hr)
  rw [e, lit_back (R.inv _ ha), lit_back (R.inv _ hb)] at k
  exact k
theorem idx_ren {ss : List Str} {x : Str} (inj : ∀ y ∈ ss, f y = f x → y = x) : (ss.map f).idxOf (f x) = ss.idxOf x := by
  induction ss with
  | nil => rfl
  | cons y ss ih =>
    rw [List.map_cons, List.idxOf_cons, List.idxOf_cons, ih fun z hz => inj z (List.mem_cons_of_mem _ hz)]
    by_cases e : y = x
    · rw [show (f y == f x) = true by rw [e]; exact beq_self_eq_true _, show (y == x) = true by rw [e]; exact beq_self_eq_true _]
    · rw [show (f y == f x) = false from beq_false_of_ne fun h => e (inj y List.mem_cons_self h), show (y == x) = false from beq_false_of_ne e]
theorem Ren.val (R : Ren f g p q) {t : List Bool} {x : Str} (hx : x ∈ p.ss) : FM.val q.ss t (f x) = FM.val p.ss t x := by
  unfold FM.val; rw [R.ss, idx_ren fun y hy e => R.inj hy hx e]
theorem Ren.has (R : Ren f g p q) {t : List Bool} {a : Lit} (ha : a.n ∈ p.ss) : hasL q.ss t (a.ren f) = hasL p.ss t a := by
  unfold hasL; rw [show (a.ren f).n = f a.n from rfl, R.val ha]; rfl
theorem clause_in {ss : List Str} {r : Rule} (ok : ruleOk ss r = true) : ∀ c ∈ clauses r, c.1.n ∈ ss ∧ c.2.n ∈ ss := by
  intro c hc
  cases r <;> simp only [ruleOk, litOk, Bool.and_eq_true, decide_eq_true_iff] at ok <;> simp only [clauses, List.mem_cons, List.not_mem_nil, or_false] at hc
  · subst hc; exact ⟨ok, ok⟩
  · subst hc; exact ok.1
  · subst hc; exact ok.1
  · subst hc; exact ok.1
  · rcases hc with rfl | rfl <;> first | exact ok.1 | exact ⟨ok.1.2, ok.1.1⟩
  · rcases hc with rfl | rfl <;> first | exact ok.1 | exact ⟨ok.1.2, ok.1.1⟩
theorem Ren.good (R : Ren f g p q) {t : List Bool} : FM.good q.ss q.rs t = FM.good p.ss p.rs t := by
  have key : ∀ r ∈ p.rs, keepsR q.ss t (r.ren f) = keepsR p.ss t r := fun r hr => by
    unfold keepsR
    rw [clauses_ren, List.all_map]
    rw [Bool.eq_iff_iff, List.all_eq_true, List.all_eq_true]
    refine forall_congr' fun c => forall_congr' fun hc => ?_
    have ci := clause_in (p.ru r hr) c hc
    show keepsC q.ss t (c.1.ren f, c.2.ren f) = true ↔ _
    unfold keepsC
    rw [R.has ci.1, R.has ci.2]
  unfold FM.good
  rw [R.rs, List.all_map, Bool.eq_iff_iff, List.all_eq_true, List.all_eq_true]
  refine forall_congr' fun r => forall_congr' fun hr => ?_
  rw [Function.comp, key r hr]
theorem Ren.len (R : Ren f g p q) : q.ss.length = p.ss.length := by rw [R.ss, List.length_map]
theorem Ren.goods (R : Ren f g p q) : goodsL q.ss q.rs = goodsL p.ss p.rs := by
  unfold goodsL
  rw [R.len]
  exact List.filter_congr fun t _ => R.good
theorem unlike_map {ss : List Str} {t u : List Bool} : unlikeL (ss.map f) t u = (unlikeL ss t u).map f := by
  unfold unlikeL
  have : (ss.map f).zip (t.zip u) = (ss.zip (t.zip u)).map fun q => (f q.1, q.2) := by
    rw [List.zip_map_left]
    rfl
  rw [this, List.filter_map, List.map_map, List.map_map]
  rfl
theorem Ren.unlike (R : Ren f g p q) {t u : List Bool} : unlikeL q.ss t u = (unlikeL p.ss t u).map f := by rw [R.ss, unlike_map]
theorem unlike_in {ss : List Str} {t u : List Bool} {x : Str} (h : x ∈ unlikeL ss t u) : x ∈ ss := by
  unfold unlikeL at h
  obtain ⟨z, hz, rfl⟩ := List.mem_map.mp h
  obtain ⟨a, b⟩ := z
  exact (List.of_mem_zip (List.mem_filter.mp hz).1).1
theorem filter_ren {l : List Str} {P Q : Str → Bool} (h : ∀ x ∈ l, Q (f x) = P x) : (l.map f).filter Q = (l.filter P).map f := by
  rw [List.filter_map]
  exact congrArg _ (List.filter_congr fun x hx => h x hx)
theorem Ren.pairs (R : Ren f g p q) {t u : List Bool} : pairsL q t u = (pairsL p t u).map fun z => (f z.1, f z.2) := by
  unfold pairsL
  rw [R.unlike, List.flatMap_map, List.map_flatMap]
  have key : ∀ l : List Str, (∀ x ∈ l, x ∈ unlikeL p.ss t u) → (l.flatMap fun x => (((unlikeL p.ss t u).map f).filter fun y => !decide (f x = y) && FM.inW q.ss q.rs ⟨y, FM.val q.ss u y⟩ ⟨f x, FM.val q.ss u (f x)⟩).map fun y => (f x, y)) =
      l.flatMap fun x => (((unlikeL p.ss t u).filter fun y => !decide (x = y) && FM.inW p.ss p.rs ⟨y, FM.val p.ss u y⟩ ⟨x, FM.val p.ss u x⟩).map fun y => (x, y)).map fun z => (f z.1, f z.2) := by
    intro l hl
    induction l with
    | nil => rfl
    | cons x l ih =>
      rw [List.flatMap_cons, List.flatMap_cons, ih fun y hy => hl y (List.mem_cons_of_mem _ hy)]
      have hx := unlike_in (hl x List.mem_cons_self)
      rw [filter_ren (P := fun y => !decide (x = y) && FM.inW p.ss p.rs ⟨y, FM.val p.ss u y⟩ ⟨x, FM.val p.ss u x⟩) fun y hy => ?_, List.map_map, List.map_map]
      · rfl
      · have hy2 := unlike_in hy
        rw [R.val hx, R.val hy2]
        have e1 := R.inW (a := ⟨y, FM.val p.ss u y⟩) (b := ⟨x, FM.val p.ss u x⟩) hy2 hx
        unfold Lit.ren at e1
        rw [e1]
        have e2 : decide (f x = f y) = decide (x = y) := decide_eq_decide.mpr ⟨fun e => R.inj hx hy2 e, fun e => by rw [e]⟩
        rw [e2]
  exact key _ fun x hx => hx
theorem nxt_ren {U S : List Str} {P : List (Str × Str)} (inj : ∀ x y, x ∈ U → y ∈ U → f x = f y → x = y) (hS : ∀ x ∈ S, x ∈ U) (hP : ∀ z ∈ P, z.1 ∈ U ∧ z.2 ∈ U) :
    nxt (U.map f) (P.map fun z => (f z.1, f z.2)) (S.map f) = (nxt U P S).map f := by
  unfold nxt
  refine filter_ren fun y hy => ?_
  have em : ∀ x ∈ U, decide (f x ∈ S.map f) = decide (x ∈ S) := fun x hx => decide_eq_decide.mpr ⟨fun h => by
    obtain ⟨z, hz, e⟩ := List.mem_map.mp h
    rw [← inj z x (hS z hz) hx e]; exact hz, List.mem_map_of_mem⟩
  rw [em y hy, List.all_map]
  congr 1
  rw [Bool.eq_iff_iff, List.all_eq_true, List.all_eq_true]
  refine forall_congr' fun z => forall_congr' fun hz => ?_
  show (!decide (f z.2 = f y) || decide (f z.1 ∈ S.map f)) = true ↔ _
  rw [em z.1 (hP z hz).1, show decide (f z.2 = f y) = decide (z.2 = y) from decide_eq_decide.mpr ⟨fun e => inj _ _ (hP z hz).2 hy e, fun e => by rw [e]⟩]
theorem nxt_in {U S : List Str} {P : List (Str × Str)} : ∀ x ∈ nxt U P S, x ∈ U := fun x hx => (List.mem_filter.mp hx).1
theorem gr_ren {U : List Str} {P : List (Str × Str)} (inj : ∀ x y, x ∈ U → y ∈ U → f x = f y → x = y) (hP : ∀ z ∈ P, z.1 ∈ U ∧ z.2 ∈ U) : ∀ n S, (∀ x ∈ S, x ∈ U) → gr (U.map f) (P.map fun z => (f z.1, f z.2)) n (S.map f) = (gr U P n S).map f
  | 0, _, _ => rfl
  | n + 1, S, hS => by
    unfold gr
    rw [nxt_ren inj hS hP]
    cases e : nxt U P S with
    | nil => rfl
    | cons y r =>
      have hy : y ∈ U := nxt_in y (by rw [e]; exact List.mem_cons_self)
      show f y :: gr _ _ n (S.map f ++ [f y]) = _
      have := gr_ren inj hP n (S ++ [y]) (fun x hx => by
        rcases List.mem_append.mp hx with h | h
        · exact hS x h
        · simp at h; rw [h]; exact hy)
      rw [List.map_append] at this
      rw [List.map_cons, ← this]; rfl
theorem lv_ren {U : List Str} {P : List (Str × Str)} (inj : ∀ x y, x ∈ U → y ∈ U → f x = f y → x = y) (hP : ∀ z ∈ P, z.1 ∈ U ∧ z.2 ∈ U) : ∀ n, lv (U.map f) (P.map fun z => (f z.1, f z.2)) n = (lv U P n).map (List.map f) ∧ ∀ S ∈ lv U P n, ∀ x ∈ S, x ∈ U
  | 0 => ⟨rfl, fun S hS x hx => by simp [lv] at hS; rw [hS] at hx; cases hx⟩
  | n + 1 => by
    obtain ⟨h1, h2⟩ := lv_ren inj hP n
    constructor
    · unfold lv
      rw [h1, List.flatMap_map, List.map_flatMap]
      have key : ∀ l : List (List Str), (∀ S ∈ l, ∀ x ∈ S, x ∈ U) → (l.flatMap fun S => (nxt (U.map f) (P.map fun z => (f z.1, f z.2)) (S.map f)).map fun y => S.map f ++ [y]) = l.flatMap fun S => ((nxt U P S).map fun y => S ++ [y]).map (List.map f) := by
        intro l hl
        induction l with
        | nil => rfl
        | cons S l ih =>
          rw [List.flatMap_cons, List.flatMap_cons, ih fun T hT => hl T (List.mem_cons_of_mem _ hT), nxt_ren inj (hl S List.mem_cons_self) hP, List.map_map, List.map_map]
          congr 1
          exact List.map_congr_left fun y _ => by simp
      exact key _ h2
    · intro S hS x hx
      unfold lv at hS
      obtain ⟨T, hT, hS⟩ := List.mem_flatMap.mp hS
      obtain ⟨y, hy, rfl⟩ := List.mem_map.mp hS
      rcases List.mem_append.mp hx with h | h
      · exact h2 T hT x h
      · simp at h; rw [h]; exact nxt_in y hy
theorem pairs_mem {t u : List Bool} : ∀ z ∈ pairsL p t u, z.1 ∈ unlikeL p.ss t u ∧ z.2 ∈ unlikeL p.ss t u := fun z hz => ⟨(mem_pairs.mp hz).1, (mem_pairs.mp hz).2.1⟩
theorem Ren.order (R : Ren f g p q) {t u : List Bool} : orderL q t u = (orderL p t u).map f := by
  unfold orderL
  rw [R.unlike, R.pairs, List.length_map]
  exact gr_ren (fun x y hx hy e => R.inj (unlike_in hx) (unlike_in hy) e) pairs_mem _ [] (fun x hx => by cases hx)
theorem Ren.many (R : Ren f g p q) {t u : List Bool} : manyL q t u = manyL p t u := by
  unfold manyL
  rw [R.unlike, R.pairs, List.length_map, (lv_ren (fun x y hx hy e => R.inj (unlike_in hx) (unlike_in hy) e) pairs_mem _).1, List.length_map]
end FM

set_option maxHeartbeats 4000000
namespace FM
open PySem PySem.Spec PyProof.Rows L2 FD
def nb (k : Nat) : Str := ⟨#[97 + k]⟩
abbrev on (m : Nat) : List Bool := List.replicate m true
abbrev off (m : Nat) : List Bool := List.replicate m false
end FM

set_option maxHeartbeats 1000000
namespace FM
open PySem PySem.Spec PyProof.Rows L2 FD
end FM

namespace FM
open PySem PySem.Spec PyProof.Rows L2 FD
end FM

namespace FM
open PySem PySem.Spec PyProof.Rows L2 FD
def jl (sep : List Nat) : List (List Nat) → List Nat
  | [] => []
  | [x] => x
  | x :: y :: r => x ++ sep ++ jl sep (y :: r)
theorem join_cps (sep : Str) : ∀ parts : List Str, (Str.join sep parts).cps.toList = jl sep.cps.toList (parts.map fun s => s.cps.toList)
  | [] => rfl
  | [x] => rfl
  | x :: y :: r => by
    show ((x.cps ++ sep.cps) ++ (Str.join sep (y :: r)).cps).toList = _
    rw [Array.toList_append, Array.toList_append, join_cps sep (y :: r)]
    rfl
theorem app_inj {c : Nat} : ∀ {x y r s : List Nat}, c ∉ x → c ∉ y → x ++ c :: r = y ++ c :: s → x = y ∧ r = s
  | [], [], r, s, _, _, h => ⟨rfl, by simpa using h⟩
  | [], b :: y, r, s, _, hy, h => by
    simp only [List.nil_append, List.cons_append, List.cons.injEq] at h
    exact absurd (h.1 ▸ List.mem_cons_self) hy
  | a :: x, [], r, s, hx, _, h => by
    simp only [List.nil_append, List.cons_append, List.cons.injEq] at h
    exact absurd (h.1 ▸ List.mem_cons_self) hx
  | a :: x, b :: y, r, s, hx, hy, h => by
    simp only [List.cons_append, List.cons.injEq] at h
    obtain ⟨e1, e2⟩ := app_inj (fun z => hx (List.mem_cons_of_mem _ z)) (fun z => hy (List.mem_cons_of_mem _ z)) h.2
    exact ⟨by rw [h.1, e1], e2⟩
theorem jl_cons2 {sep x y : List Nat} {r : List (List Nat)} : jl sep (x :: y :: r) = x ++ sep ++ jl sep (y :: r) := rfl
theorem jl_inj {c : Nat} : ∀ {p q : List (List Nat)}, p ≠ [] → q ≠ [] → (∀ x ∈ p, c ∉ x) → (∀ x ∈ q, c ∉ x) → jl [c] p = jl [c] q → p = q
  | [], _, h, _, _, _, _ => absurd rfl h
  | _ :: _, [], _, h, _, _, _ => absurd rfl h
  | [x], [y], _, _, _, _, h => by rw [show x = y from h]
  | [x], y :: z :: r, _, _, hp, hq, h => by
    rw [jl_cons2] at h
    have h : x = y ++ [c] ++ jl [c] (z :: r) := h
    exact absurd (by rw [h]; simp) (hp x List.mem_cons_self)
  | x :: z :: r, [y], _, _, hp, hq, h => by
    rw [jl_cons2] at h
    have h : x ++ [c] ++ jl [c] (z :: r) = y := h
    exact absurd (by rw [← h]; simp) (hq y List.mem_cons_self)
  | x :: z :: r, y :: w :: s, _, _, hp, hq, h => by
    rw [jl_cons2, jl_cons2, List.append_assoc, List.append_assoc] at h
    obtain ⟨e1, e2⟩ := app_inj (hp x List.mem_cons_self) (hq y List.mem_cons_self) h
    have e3 := jl_inj (c := c) (p := z :: r) (q := w :: s) (by simp) (by simp) (fun t ht => hp t (List.mem_cons_of_mem _ ht)) (fun t ht => hq t (List.mem_cons_of_mem _ ht)) e2
    rw [e1, e3]
theorem jl_two {c d : Nat} : ∀ {x : List Nat} {r : List (List Nat)}, jl [c, d] (x :: r) = jl [c] (x :: r.map (d :: ·))
  | x, [] => rfl
  | x, y :: r => by
    rw [List.map_cons, jl_cons2, jl_cons2, jl_two]
    cases r with
    | nil => simp [jl]
    | cons z r => simp [jl_cons2]
theorem jl_follow {c d : Nat} (ne : d ≠ c) : ∀ {p : List (List Nat)}, (∀ x ∈ p, c ∉ x) → ∀ k, (jl [c, d] p)[k]? = some c → (jl [c, d] p)[k + 1]? = some d
  | [], _, k, h => by simp [jl] at h
  | [x], hp, k, h => absurd (List.mem_of_getElem? h) (hp x List.mem_cons_self)
  | x :: y :: r, hp, k, h => by
    rw [jl_cons2] at h ⊢
    by_cases h1 : k < x.length
    · rw [List.append_assoc, List.getElem?_append_left h1] at h
      exact absurd (List.mem_of_getElem? h) (hp x List.mem_cons_self)
    · rw [List.append_assoc, List.getElem?_append_right (by omega)] at h
      rw [List.append_assoc, List.getElem?_append_right (by omega)]
      obtain ⟨m, hm⟩ : ∃ m, k = x.length + m := ⟨k - x.length, by omega⟩
      subst hm
      rw [Nat.add_sub_cancel_left] at h
      rw [show x.length + m + 1 - x.length = m + 1 by omega]
      match m, h with
      | 0, _ => rfl
      | 1, h => exact absurd (by simpa using h) ne
      | m + 2, h => exact jl_follow ne (p := y :: r) (fun t ht => hp t (List.mem_cons_of_mem _ ht)) m (by simpa using h)
theorem jl_mem {sep : List Nat} : ∀ {p : List (List Nat)} {x : List Nat}, x ∈ p → ∀ c ∈ x, c ∈ jl sep p
  | [y], x, hx, c, hc => by rw [List.mem_singleton.mp hx] at hc; exact hc
  | y :: z :: r, x, hx, c, hc => by
    rw [jl_cons2]
    rcases List.mem_cons.mp hx with rfl | hx
    · simp [hc]
    · exact List.mem_append_right _ (jl_mem hx c hc)
theorem jl_len {sep : List Nat} : ∀ {p : List (List Nat)} {x : List Nat}, x ∈ p → x.length ≤ (jl sep p).length
  | [y], x, hx => by rw [List.mem_singleton.mp hx]; exact Nat.le_refl _
  | y :: z :: r, x, hx => by
    rw [jl_cons2, List.length_append, List.length_append]
    rcases List.mem_cons.mp hx with rfl | hx
    · omega
    · have := jl_len (sep := sep) hx; omega
theorem str_ext {s t : Str} (h : s.cps.toList = t.cps.toList) : s = t := Str.ext' (Array.toList_inj.mp h)
theorem strs_ext : ∀ {p q : List Str}, p.map (fun s => s.cps.toList) = q.map (fun s => s.cps.toList) → p = q
  | [], [], _ => rfl
  | [], _ :: _, h => by cases h
  | _ :: _, [], h => by cases h
  | a :: p, b :: q, h => by
    simp only [List.map_cons, List.cons.injEq] at h
    rw [str_ext h.1, strs_ext h.2]
theorem split_ne {x y : Str} : Txt.split x y ≠ [] := by
  unfold Txt.split
  split
  · simp
  · split
    · simp
    · rw [StrLaws.partsBetween_eq]
      obtain ⟨p, r, e⟩ := StrLaws.partsFrom_ne x y.length 0 (Builtin.Str.occurrences x y 0 x.length (x.length + 1))
      rw [e]; simp
theorem split_join1 {c : Nat} {p : List Str} (hp : p ≠ []) (h : ∀ s ∈ p, c ∉ s.cps.toList) : Txt.split (Str.join ⟨#[c]⟩ p) ⟨#[c]⟩ = p := by
  have e := congrArg (fun s : Str => s.cps.toList) (StrLaws.join_split (Str.join ⟨#[c]⟩ p) ⟨#[c]⟩)
  simp only [join_cps] at e
  refine strs_ext (jl_inj (c := c) (by simpa using split_ne) (by simpa using hp) ?_ ?_ e)
  · intro x hx
    obtain ⟨s, hs, rfl⟩ := List.mem_map.mp hx
    exact StrLaws.split_free _ c s hs
  · intro x hx
    obtain ⟨s, hs, rfl⟩ := List.mem_map.mp hx
    exact h s hs
theorem parts_free2 (x y : Str) (c : Nat) (hA : ∀ k, StrLaws.At x ⟨#[c]⟩ x.length k → StrLaws.At x y x.length k) : ∀ (cuts : List Nat) (a f : Nat), StrLaws.ChainG x y x.length a cuts f → (∀ k, f ≤ k → ¬ StrLaws.At x y x.length k) → ∀ p ∈ StrLaws.partsFrom x y.length a cuts, c ∉ p.cps.toList
  | [], a, f, h, hn, p, hp => by
    have e : f = a := h
    subst e
    rw [List.mem_singleton.mp hp]
    exact StrLaws.part_free x c f x.length (Nat.le_refl _) fun k h1 _ z => hn k h1 (hA k z)
  | d :: r, a, f, h, hn, p, hp => by
    rcases List.mem_cons.mp hp with rfl | hp'
    · exact StrLaws.part_free x c a d (by have := h.2.1.1; omega) fun k h1 h2 z => h.2.2.1 k h1 h2 (hA k z)
    · exact parts_free2 x y c hA r _ f h.2.2.2 hn p hp'
theorem split_free2 (x y : Str) (c : Nat) (hw : 1 ≤ y.length) (hk : Builtin.Str.strKind y = Builtin.Str.strKind ⟨#[c]⟩) (hA : ∀ k, StrLaws.At x ⟨#[c]⟩ x.length k → StrLaws.At x y x.length k) : ∀ p ∈ Txt.split x y, c ∉ p.cps.toList := by
  obtain ⟨f, hG, hn⟩ := StrLaws.occ_tight x y hw
  unfold Txt.split
  split
  · rename_i hc
    intro p hp
    rw [List.mem_singleton.mp hp]
    intro hm
    obtain ⟨j, hj⟩ := List.getElem?_of_mem hm
    have hB := hA j ((StrLaws.subAt_one x c j).mpr hj)
    rw [Bool.or_eq_true, decide_eq_true_eq, decide_eq_true_eq] at hc
    rcases hc with h | h
    · have := hB.1; omega
    · rw [hk] at h
      exact absurd hm (StrLaws.kind_free x c h)
  · split
    · rename_i he
      intro p hp
      rw [List.mem_singleton.mp hp]
      have e0 : Builtin.Str.occurrences x y 0 x.length (x.length + 1) = [] := List.isEmpty_iff.mp he
      rw [e0] at hG
      have ef : f = 0 := hG
      subst ef
      rw [← StrLaws.sub_whole x]
      exact StrLaws.part_free x c 0 x.length (Nat.le_refl _) fun k h1 _ z => hn k h1 (hA k z)
    · rw [StrLaws.partsBetween_eq]
      exact parts_free2 x y c hA _ 0 f hG hn
theorem at_one {x : Str} {c k : Nat} : StrLaws.At x ⟨#[c]⟩ x.length k ↔ x.cps.toList[k]? = some c := StrLaws.subAt_one x c k
theorem at_two {x : Str} {c d k : Nat} (h1 : x.cps.toList[k]? = some c) (h2 : x.cps.toList[k + 1]? = some d) : StrLaws.At x ⟨#[c, d]⟩ x.length k := by
  have l2 := (List.getElem?_eq_some_iff.mp h2).1
  have l3 : k + 1 < x.length := by simpa [Str.length] using l2
  refine ⟨by show k + 2 ≤ _; omega, ?_⟩
  rw [StrLaws.subAt_eq]
  have e : x.cps.toList.drop k = c :: d :: x.cps.toList.drop (k + 2) := by
    obtain ⟨l1, e1⟩ := List.getElem?_eq_some_iff.mp h1
    obtain ⟨l2, e2⟩ := List.getElem?_eq_some_iff.mp h2
    rw [List.drop_eq_getElem_cons l1, List.drop_eq_getElem_cons l2, e1, e2]
  rw [e]
  simp [Str.length]
theorem comma_eq : (Str.ofString ", ") = ⟨#[44, 32]⟩ := by decide +kernel
theorem split_comma {p : List Str} (hp : p ≠ []) (h : ∀ s ∈ p, 44 ∉ s.cps.toList) : Txt.split (Str.join ", " p) ", " = p := by
  rw [show ((", " : Str)) = ⟨#[44, 32]⟩ from comma_eq]
  have e := congrArg (fun s : Str => s.cps.toList) (StrLaws.join_split (Str.join ⟨#[44, 32]⟩ p) ⟨#[44, 32]⟩)
  have hf : ∀ s ∈ Txt.split (Str.join ⟨#[44, 32]⟩ p) ⟨#[44, 32]⟩, 44 ∉ s.cps.toList := by
    refine split_free2 _ _ 44 (by decide) (by decide +kernel) fun k hk => ?_
    rw [at_one] at hk
    refine at_two hk ?_
    rw [join_cps] at hk ⊢
    refine jl_follow (by decide) (fun x hx => ?_) k hk
    obtain ⟨s, hs, rfl⟩ := List.mem_map.mp hx
    exact h s hs
  have ne := split_ne (x := Str.join ⟨#[44, 32]⟩ p) (y := ⟨#[44, 32]⟩)
  generalize Txt.split (Str.join ⟨#[44, 32]⟩ p) ⟨#[44, 32]⟩ = q at e hf ne
  simp only [join_cps] at e
  match p, q, hp, ne with
  | a :: p, b :: q, _, _ =>
    simp only [List.map_cons] at e
    rw [jl_two, jl_two] at e
    have fr : ∀ (a : Str) (p : List Str), (∀ s ∈ a :: p, 44 ∉ s.cps.toList) → ∀ x ∈ a.cps.toList :: (p.map fun s => s.cps.toList).map (32 :: ·), 44 ∉ x := by
      intro a p h x hx
      rcases List.mem_cons.mp hx with rfl | hx
      · exact h a List.mem_cons_self
      · obtain ⟨y, hy, rfl⟩ := List.mem_map.mp hx
        obtain ⟨s, hs, rfl⟩ := List.mem_map.mp hy
        intro z
        rcases List.mem_cons.mp z with z | z
        · cases z
        · exact h s (List.mem_cons_of_mem _ hs) z
    have e2 := jl_inj (by simp) (by simp) (fr b q hf) (fr a p h) e
    simp only [List.cons.injEq] at e2
    have e3 : (q.map fun s => s.cps.toList) = p.map fun s => s.cps.toList := by
      have inj : ∀ {l m : List (List Nat)}, l.map (32 :: ·) = m.map (32 :: ·) → l = m := by
        intro l
        induction l with
        | nil => intro m h; cases m with
          | nil => rfl
          | cons _ _ => cases h
        | cons a l ih => intro m h; cases m with
          | nil => cases h
          | cons b m =>
            simp only [List.map_cons, List.cons.injEq, true_and] at h
            rw [h.1, ih h.2]
      exact inj e2.2
    rw [str_ext e2.1, strs_ext e3]
theorem split_part {x y s : Str} (h : s ∈ Txt.split x y) : (∀ c ∈ s.cps.toList, c ∈ x.cps.toList) ∧ s.length ≤ x.length := by
  have e := congrArg (fun s : Str => s.cps.toList) (StrLaws.join_split x y)
  simp only [join_cps] at e
  have m : s.cps.toList ∈ (Txt.split x y).map fun s => s.cps.toList := List.mem_map_of_mem h
  refine ⟨fun c hc => by rw [← e]; exact jl_mem m c hc, ?_⟩
  have := jl_len (sep := y.cps.toList) m
  rw [e] at this
  simpa [Str.length] using this
theorem split_sOk {x y s : Str} (hx : sOk x = true) (h : s ∈ Txt.split x y) : sOk s = true := by
  obtain ⟨h1, h2⟩ := split_part h
  exact sOk_of (Nat.le_trans h2 (by have := sOk_len hx; rw [sizeLine_eq] at this; exact this)) fun c hc => sOk_mem hx (h1 c hc)
end FM
namespace FD
open PySem PySem.Spec PyProof.Rows L2
def gSplit : GM := fun M d ds post => isS d fun x => one ds fun e => isS e fun y => y.length ≠ 0 ∧ x.length + 2 ≤ 16777216 ∧ post (.lst ((Txt.split x y).map D.str)) M
theorem gSplit_e : FD.gSplit = (fun M d ds post => isS d fun x => one ds fun e => isS e fun y => y.length ≠ 0 ∧ x.length + 2 ≤ 16777216 ∧ post (.lst ((Txt.split x y).map D.str)) M : GM) := rfl
section
variable {X : Cx}
theorem strs_rp {K : PySem.W.Frag} {H0 : F} : ∀ {l : List Str}, (∀ s ∈ l, sOk s = true) → RpAll K H0 (l.map V.str) (l.map D.str)
  | [], _ => .nil
  | a :: l, h => .cons (.str a (h a List.mem_cons_self)) (strs_rp fun s hs => h s (List.mem_cons_of_mem _ hs))
theorem m_split : MtR X "str.split" (rUM X.K gSplit) := MtR.imp mt_split fun x xs H Q q => by
  obtain ⟨H0, M, d, ds, post, f, r, ra, w, p⟩ := q
  obtain ⟨t, rfl, w3⟩ := isS_of w
  obtain ⟨e, rfl, w4⟩ := one_of w3
  obtain ⟨u, rfl, w1, w2, w5⟩ := isS_of w4
  cases ra with
  | cons r1 t1 =>
    cases t1
    cases r with
    | str _ ht =>
      cases r1 with
      | str _ hu =>
        refine ⟨t, u, rfl, rfl, by simpa using w1, by rw [sizeLine_eq]; exact w2, fun q hq => ?_⟩
        have s0 : F.le H0 (H0.put q (.ice (.lst ((Txt.split t u).map V.str)))) := F.le_put (f.fresh hq).1
        refine p _ _ _ _ M w5 (f.ice hq) s0 (.lst (F.ice_eq F.put_same) (strs_rp fun s hs => FM.split_sOk ht hs) ?_)
        rw [List.length_map, sizeLine_eq]
        have := PyProof.Rows.split_le t u
        omega
end
end FD

namespace FM
open PySem PySem.Spec PyProof.Rows L2 FD
def ev : Nat → List (List Bool)
  | 0 => [[]]
  | n + 1 => (ev n).map (· ++ [true]) ++ (ev n).map (· ++ [false])
theorem mem_ev : ∀ {n : Nat} {t : List Bool}, t ∈ ev n ↔ t.length = n
  | 0, t => by simp [ev]
  | n + 1, t => by
    simp only [ev, List.mem_append, List.mem_map, mem_ev]
    constructor
    · rintro (⟨u, h, rfl⟩ | ⟨u, h, rfl⟩) <;> simp [h]
    · intro h
      have ne : t ≠ [] := fun z => by rw [z] at h; cases h
      have e := List.dropLast_concat_getLast ne
      have l : t.dropLast.length = n := by rw [List.length_dropLast, h]; rfl
      cases hb : t.getLast ne with
      | true => rw [hb] at e; exact .inl ⟨_, l, e⟩
      | false => rw [hb] at e; exact .inr ⟨_, l, e⟩
theorem ev_perm : ∀ n : Fin 7, (ev n.1).Perm (every n.1) := by decide +kernel
theorem every_up : ∀ n : Fin 7, sortedS ((every n.1).map setS) = true := by decide +kernel
theorem sorted_pw {l : List Str} (h : sortedS l = true) : l.Pairwise fun a b => ¬ (b.cps.toList < a.cps.toList) := by
  cases l with
  | nil => exact .nil
  | cons a l => exact rising_pw h
theorem goods_sorted {n : Nat} (h : n ≤ 6) {f : List Bool → Bool} {ys : List Str} (hp : ys.Perm (((ev n).filter f).map setS)) (hs : sortedS ys = true) : ys = ((every n).filter f).map setS := by
  refine pw_uniq (hp.trans (((ev_perm ⟨n, by omega⟩).filter f).map setS)) (sorted_pw hs) ?_
  have := sorted_pw (every_up ⟨n, by omega⟩)
  refine List.Pairwise.sublist ?_ this
  exact List.Sublist.map setS List.filter_sublist
end FM
namespace FM
open PySem PySem.Spec PyProof.Rows L2 FD
def litF (f : Fg) (a : Lit) : D := tq f [.str a.n, .str (sg a.s)]
def strOf : D → Option Str
  | .str s => some s
  | _ => none
def noStr (d : D) : Bool := (strOf d).isNone
mutual
/-- a value of any kind: its texts and tuples are at most n long; a firm tuple holds no texts -/
def calm (n : Nat) : D → Bool
  | .non => true
  | .bl _ => true
  | .int _ => true
  | .str s => decide (s.length ≤ n)
  | .tup l => decide (l.length ≤ n) && calmL n l
  | .ftp l => decide (l.length ≤ n) && calmL n l && l.all noStr
  | .lst l => decide (l.length ≤ n) && calmL n l
  | .dcK l => l.isEmpty
  | _ => false
def calmL (n : Nat) : List D → Bool
  | [] => true
  | x :: l => calm n x && calmL n l
end
theorem calmL_iff {n : Nat} : ∀ {l : List D}, calmL n l = true ↔ ∀ x ∈ l, calm n x = true
  | [] => by simp [calmL]
  | x :: l => by simp [calmL, calmL_iff (l := l)]
mutual
theorem calm_mono {n m : Nat} (h : n ≤ m) : ∀ {d : D}, calm n d = true → calm m d = true
  | .non, _ => rfl
  | .bl _, _ => rfl
  | .int _, _ => rfl
  | .str s, q => by
    have q := of_decide_eq_true q
    exact decide_eq_true (by omega)
  | .tup l, q => by
    simp only [calm, Bool.and_eq_true, decide_eq_true_eq] at q ⊢
    exact ⟨by omega, calmL_mono h q.2⟩
  | .ftp l, q => by
    simp only [calm, Bool.and_eq_true, decide_eq_true_eq] at q ⊢
    exact ⟨⟨by omega, calmL_mono h q.1.2⟩, q.2⟩
  | .ktp _, q => by cases q
  | .lst l, q => by
    simp only [calm, Bool.and_eq_true, decide_eq_true_eq] at q ⊢
    exact ⟨by omega, calmL_mono h q.2⟩
  | .dcK l, q => q
  | .scr _, q => by cases q
  | .ptr _, q => by cases q
  | .obj _ _, q => by cases q
  | .dcT _, q => by cases q
  | .exc _ _ _ _, q => by cases q
theorem calmL_mono {n m : Nat} (h : n ≤ m) : ∀ {l : List D}, calmL n l = true → calmL m l = true
  | [], _ => rfl
  | x :: l, q => by
    simp only [calmL, Bool.and_eq_true] at q ⊢
    exact ⟨calm_mono h q.1, calmL_mono h q.2⟩
end
mutual
/-- how deep tuples stand in one another -/
def dT : D → Nat
  | .tup l => dTL l + 1
  | .ftp l => dTL l + 1
  | .ktp l => dTL l + 1
  | _ => 0
def dTL : List D → Nat
  | [] => 0
  | x :: l => max (dT x) (dTL l)
end
theorem calm_tp {n : Nat} {f : Bool} {l : List D} : calm n (tp f l) = true ↔ l.length ≤ n ∧ (∀ x ∈ l, calm n x = true) ∧ (f = true → ∀ x ∈ l, noStr x = true) := by
  cases f
  · show (decide (l.length ≤ n) && calmL n l) = true ↔ _
    rw [Bool.and_eq_true, decide_eq_true_eq, calmL_iff]
    simp
  · show (decide (l.length ≤ n) && calmL n l && l.all noStr) = true ↔ _
    rw [Bool.and_eq_true, Bool.and_eq_true, decide_eq_true_eq, calmL_iff, List.all_eq_true]
    simp [and_assoc]
theorem calm_notup {n : Nat} {d : D} (h : calm n d = true) (k : tupOf d = none) (M : Mem) : ∃ t, tyN M d = some t ∧ isiT "tuple" t = false := by
  cases d <;> first | (cases h; done) | (cases k; done) | exact ⟨_, rfl, by decide +kernel⟩
theorem tup_tq2 {d : D} {l : List D} (h : tupOf d = some l) : ∃ f, d = tq f l := by
  cases d <;> first | (cases h; done) | (cases h; exact ⟨.f, rfl⟩) | (cases h; exact ⟨.t, rfl⟩) | (cases h; exact ⟨.k, rfl⟩)
theorem calm_els {n : Nat} {d : D} {l : List D} (h : calm n d = true) (k : tupOf d = some l) : l.length ≤ n ∧ ∀ x ∈ l, calm n x = true := by
  have key : ∀ f, d = tp f l → l.length ≤ n ∧ ∀ x ∈ l, calm n x = true := fun f e => by
    rw [e, calm_tp] at h
    exact ⟨h.1, h.2.1⟩
  cases d <;> first | (cases k; done) | (cases h; done) | (cases k; first | exact key false rfl | exact key true rfl)
def sgOf (s : Str) : Option Bool := if s = "+" then some true else if s = "-" then some false else none
def litV (ss : List Str) (d : D) : Option Lit := match tupOf d with
  | some [.str n, .str s] => if n ∈ ss then (sgOf s).map fun b => ⟨n, b⟩ else none
  | _ => none
theorem sgOf_some {s : Str} {b : Bool} (h : sgOf s = some b) : s = sg b := by
  unfold sgOf at h
  split at h
  · rename_i e; cases h; exact e
  · split at h
    · rename_i e; cases h; exact e
    · cases h
theorem sgOf_sg (b : Bool) : sgOf (sg b) = some b := by cases b <;> decide +kernel
theorem litV_some {ss : List Str} {d : D} {a : Lit} (h : litV ss d = some a) : (∃ f, d = litF f a) ∧ a.n ∈ ss := by
  unfold litV at h
  split at h
  · rename_i n s e
    split at h
    · rename_i hn
      obtain ⟨b, hb, rfl⟩ := Option.map_eq_some_iff.mp h
      obtain ⟨f, rfl⟩ := tup_tq2 e
      exact ⟨⟨f, by unfold litF; rw [sgOf_some hb]⟩, hn⟩
    · cases h
  · cases h
theorem litV_calm {n : Nat} {ss : List Str} {d : D} {a : Lit} (hc : calm n d = true) (h : litV ss d = some a) : d = litD a ∧ a.n ∈ ss := by
  obtain ⟨⟨f, rfl⟩, hn⟩ := litV_some h
  refine ⟨?_, hn⟩
  cases f with
  | f => rfl
  | t =>
    have := (calm_tp (f := true)).mp hc
    have := this.2.2 rfl (.str a.n) (by simp)
    cases this
  | k => cases hc
theorem litV_litF {ss : List Str} {f : Fg} {a : Lit} (h : a.n ∈ ss) : litV ss (litF f a) = some a := by
  unfold litV litF
  rw [tup_tq]
  simp only [if_pos h, sgOf_sg, Option.map_some]
theorem litV_litD {ss : List Str} {a : Lit} (h : a.n ∈ ss) : litV ss (litD a) = some a := litV_litF (f := .f) h
end FM

namespace FM
open PySem PySem.Spec PyProof.Rows L2 FD
def itemsR : Rule → List (Str ⊕ Lit)
  | .be a => [.inl "be", .inr a]
  | .either a b => [.inl "either", .inr a, .inr b]
  | .needs a b => [.inl "needs", .inr a, .inr b]
  | .bars a b => [.inl "bars", .inr a, .inr b]
  | .same _ x y => [.inl "same", .inl x, .inl y]
  | .unlike _ x y => [.inl "unlike", .inl x, .inl y]
def itT : Str ⊕ Lit → Str
  | .inl s => s
  | .inr a => sg a.s ++ a.n
theorem app_as (a b c : Str) : a ++ b ++ c = a ++ (b ++ c) := Str.append_assoc a b c
theorem ruleT_items (r : Rule) : ruleT r = Txt.join " " ((itemsR r).map itT) := by
  cases r with
  | be a => simp only [ruleT, itemsR, List.map_cons, List.map_nil, itT, litT, em_app]
  | either a b => simp only [ruleT, itemsR, List.map_cons, List.map_nil, itT, litT, em_app]
  | needs a b => simp only [ruleT, itemsR, List.map_cons, List.map_nil, itT, litT, em_app]
  | bars a b => simp only [ruleT, itemsR, List.map_cons, List.map_nil, itT, litT, em_app]
  | same f x y =>
    rw [txj]
    simp only [ruleT, itemsR, List.map_cons, List.map_nil, itT, em_app, Str.join, app_as]
  | unlike f x y =>
    rw [txj]
    simp only [ruleT, itemsR, List.map_cons, List.map_nil, itT, em_app, Str.join, app_as]
end FM

namespace FM
open PySem PySem.Spec PyProof.Rows L2 FD
end FM
namespace FM
open PySem PySem.Spec PyProof.Rows L2 FD
end FM
namespace FM
open PySem PySem.Spec PyProof.Rows L2 FD
theorem litV_bad {ss : List Str} {f : Fg} {l : List D} (h : l.length ≠ 2) : litV ss (tq f l) = none := by
  unfold litV
  rw [tup_tq]
  split
  · rename_i e
    cases e
    exact absurd rfl h
  · rfl
theorem litV_no {ss : List Str} {f : Fg} {y z : D} (h : strOf y = none ∨ strOf z = none) : litV ss (tq f [y, z]) = none := by
  unfold litV
  rw [tup_tq]
  split
  · rename_i e
    cases e
    rcases h with h | h <;> cases h
  · rfl
theorem litV_strs {ss : List Str} {f : Fg} {n s : Str} : litV ss (tq f [.str n, .str s]) = if n ∈ ss then (sgOf s).map fun b => ⟨n, b⟩ else none := by
  unfold litV
  rw [tup_tq]
theorem pm_or {s : Str} : (decide (Str.ofString "+" = s) || decide (Str.ofString "-" = s)) = (sgOf s).isSome := by
  unfold sgOf
  by_cases h : s = "+"
  · subst h; rfl
  · by_cases h2 : s = "-"
    · subst h2; rfl
    · rw [if_neg h, if_neg h2]
      have a : ¬ Str.ofString "+" = s := fun z => h z.symm
      have b : ¬ Str.ofString "-" = s := fun z => h2 z.symm
      simp [a, b]
theorem strOf_some {d : D} {s : Str} (h : strOf d = some s) : d = .str s := by cases d <;> first | (cases h; rfl) | cases h
theorem calm_isstr {n : Nat} {d : D} (h : calm n d = true) (M : Mem) : ∃ t, tyN M d = some t ∧ isiT "str" t = (strOf d).isSome := by
  cases d <;> first | (cases h; done) | exact ⟨_, rfl, by (first | exact (show isiT "str" "NoneType" = false by decide +kernel) | exact (show isiT "str" "bool" = false by decide +kernel) | exact (show isiT "str" "int" = false by decide +kernel) | exact (show isiT "str" "str" = true by decide +kernel) | exact (show isiT "str" "tuple" = false by decide +kernel) | exact (show isiT "str" "list" = false by decide +kernel) | exact (show isiT "str" "dict" = false by decide +kernel))⟩
end FM
namespace FM
open PySem PySem.Spec PyProof.Rows L2 FD
end FM
namespace FD
open PySem PySem.Spec PyProof.Rows L2
end FD

namespace FM
open PySem PySem.Spec PyProof.Rows L2 FD
end FM

namespace FD
open PySem PySem.Spec PyProof.Rows L2
section
variable {prog : Program} {w : World} {A : Around} {E : Value → Shared → Prop} {s : Shared}
end
section
variable {X : Cx} {e : Expr} {we : WE} {k : Nat} {p1 p2 p3 pos : Pos}
def wRevT (w : WE) : WE := fun Γ M post => w Γ M fun d M1 => got (tupOf d) fun l => post (.tup l.reverse) M1
theorem wRevT_e (w : WE) : FD.wRevT w = (fun Γ M post => w Γ M fun d M1 => got (tupOf d) fun l => post (.tup l.reverse) M1 : WE) := rfl
end
end FD
namespace FM
open PySem PySem.Spec PyProof.Rows L2 FD
theorem calm_tpI {n : Nat} {f : Bool} {l : List D} (h : l.length ≤ n) (k : ∀ x ∈ l, calm n x = true) (hf : f = true → ∀ x ∈ l, noStr x = true) : calm n (tp f l) = true := calm_tp.mpr ⟨h, k, hf⟩
theorem calm_tupI {n : Nat} {l : List D} (h : l.length ≤ n) (k : ∀ x ∈ l, calm n x = true) : calm n (.tup l) = true := calm_tpI (f := false) h k fun e => by cases e
end FM
namespace FM
open PySem PySem.Spec PyProof.Rows L2 FD
end FM
namespace FM
open PySem PySem.Spec PyProof.Rows L2 FD
end FM

namespace FM
open PySem PySem.Spec PyProof.Rows L2 FD
def firmR : Rule → Rule
  | .same _ x y => .same true x y
  | .unlike _ x y => .unlike true x y
  | r => r
theorem firm_ok {ss : List Str} {r : Rule} : ruleOk ss (firmR r) = ruleOk ss r := by cases r <;> rfl
theorem firm_T {r : Rule} : ruleT (firmR r) = ruleT r := by cases r <;> rfl
def Pan.firm (p : Pan) : Pan := ⟨p.ss, p.rs.map firmR, p.sw, fun r hr => by
  obtain ⟨q, hq, rfl⟩ := List.mem_map.mp hr
  rw [firm_ok]; exact p.ru q hq, by rw [List.length_map]; exact p.len⟩
theorem firm_rs {p : Pan} : p.firm.rs = p.rs.map firmR := rfl
theorem firm_panT {p : Pan} : panT p.firm.ss p.firm.rs = panT p.ss p.rs := by
  unfold panT
  rw [firm_rs, List.map_map]
  congr 2
  exact List.map_congr_left fun r _ => firm_T
def fr (c : Nat) (s : Str) : Prop := c ∉ s.cps.toList
theorem fr_app {c : Nat} {s t : Str} (h : fr c s) (k : fr c t) : fr c (s ++ t) := fun z => by
  have z : c ∈ (s.cps ++ t.cps).toList := z
  rw [Array.toList_append, List.mem_append] at z
  exact z.elim h k
theorem fr_name {c : Nat} {s : Str} (h : nameOk s = true) (hc : c < 97) : fr c s := fun z => by
  have := (nameOk_iff.mp h).2.2 c z
  omega
theorem jl_notin {c : Nat} {sep : List Nat} (hs : c ∉ sep) : ∀ {p : List (List Nat)}, (∀ x ∈ p, c ∉ x) → c ∉ jl sep p
  | [], _ => by simp [jl]
  | [x], h => h x List.mem_cons_self
  | x :: y :: r, h => by
    rw [jl_cons2]
    simp only [List.mem_append, not_or]
    exact ⟨⟨h x List.mem_cons_self, hs⟩, jl_notin hs fun z hz => h z (List.mem_cons_of_mem _ hz)⟩
theorem fr_join {c : Nat} {sep : Str} {p : List Str} (hs : fr c sep) (h : ∀ s ∈ p, fr c s) : fr c (Str.join sep p) := by
  unfold fr
  rw [join_cps]
  refine jl_notin hs fun x hx => ?_
  obtain ⟨s, hs, rfl⟩ := List.mem_map.mp hx
  exact h s hs
theorem fr_sg {c : Nat} {b : Bool} (h : c < 43 ∨ c = 44) : fr c (sg b) := by
  unfold fr
  rw [sg_eq]
  cases b <;> simp [sgc] <;> omega
theorem fr_word {c : Nat} {s : Str} (h : s ∈ words) (hc : c < 97) : fr c s := by
  have key : ∀ s ∈ words, ∀ d ∈ s.cps.toList, 97 ≤ d := by decide +kernel
  intro z
  have := key s h c z
  omega
theorem fr_item {c : Nat} {ss : List Str} {r : Rule} (hs : ∀ s ∈ ss, nameOk s = true) (k : ruleOk ss r = true) (hc : c < 43) : ∀ x ∈ itemsR r, fr c (itT x) := by
  have nm : ∀ s ∈ ss, fr c s := fun s h => fr_name (hs s h) (by omega)
  have li : ∀ a : Lit, a.n ∈ ss → fr c (itT (.inr a)) := fun a h => fr_app (fr_sg (.inl hc)) (nm _ h)
  have w : ∀ s : Str, s ∈ words → fr c s := fun s h => fr_word h (by omega)
  cases r <;> simp [ruleOk, litOk] at k <;> intro x hx <;> simp only [itemsR, List.mem_cons, List.not_mem_nil, or_false] at hx
  · rcases hx with rfl | rfl
    · exact w _ (by decide +kernel)
    · exact li _ k
  · rcases hx with rfl | rfl | rfl
    · exact w _ (by decide +kernel)
    · exact li _ k.1.1
    · exact li _ k.1.2
  · rcases hx with rfl | rfl | rfl
    · exact w _ (by decide +kernel)
    · exact li _ k.1.1
    · exact li _ k.1.2
  · rcases hx with rfl | rfl | rfl
    · exact w _ (by decide +kernel)
    · exact li _ k.1.1
    · exact li _ k.1.2
  · rcases hx with rfl | rfl | rfl
    · exact w _ (by decide +kernel)
    · exact nm _ k.1.1
    · exact nm _ k.1.2
  · rcases hx with rfl | rfl | rfl
    · exact w _ (by decide +kernel)
    · exact nm _ k.1.1
    · exact nm _ k.1.2
theorem sp_eq : (Str.ofString " ") = ⟨#[32]⟩ := by decide +kernel
theorem nl_eq : (Str.ofString "\n") = ⟨#[10]⟩ := by decide +kernel
theorem split_rule {ss : List Str} {r : Rule} (hs : ∀ s ∈ ss, nameOk s = true) (k : ruleOk ss r = true) : Txt.split (ruleT r) " " = (itemsR r).map itT := by
  rw [ruleT_items, txj, show ((" " : Str)) = ⟨#[32]⟩ from sp_eq]
  refine split_join1 (by cases r <;> simp [itemsR]) fun s h => ?_
  obtain ⟨x, hx, rfl⟩ := List.mem_map.mp h
  exact fr_item hs k (by omega) x hx
def headT (ss : List Str) : Str := Str.ofString "switches " ++ Txt.join ", " ss
theorem fr_head {c : Nat} {ss : List Str} (hs : ∀ s ∈ ss, nameOk s = true) (hc : c < 32) : fr c (headT ss) := by
  unfold headT
  rw [txj]
  refine fr_app ?_ (fr_join ?_ fun s h => fr_name (hs s h) (by omega))
  · have key : ∀ d ∈ (Str.ofString "switches ").cps.toList, 32 ≤ d := by decide +kernel
    intro z; have := key c z; omega
  · rw [comma_eq]; intro z; simp at z; omega
theorem split_panT {p : Pan} : Txt.split (panT p.ss p.rs) "\n" = headT p.ss :: p.rs.map ruleT := by
  unfold panT
  rw [txj, show (("\n" : Str)) = ⟨#[10]⟩ from nl_eq]
  refine split_join1 (by simp) fun s h => ?_
  rcases List.mem_cons.mp h with rfl | h
  · exact fr_head p.sw.2.2.2 (by omega)
  · obtain ⟨r, hr, rfl⟩ := List.mem_map.mp h
    rw [ruleT_items, txj]
    refine fr_join (by rw [sp_eq]; intro z; simp at z) fun t ht => ?_
    obtain ⟨x, hx, rfl⟩ := List.mem_map.mp ht
    exact fr_item p.sw.2.2.2 (p.ru r hr) (by omega) x hx
theorem drop_app {s t : Str} {k : Nat} (h : s.length = k) : cutS (s ++ t) (some (k : Int)) none = t := by
  rw [cutS_drop]
  refine str_ext ?_
  show ((s.cps ++ t.cps).toList.drop k) = t.cps.toList
  rw [Array.toList_append, List.drop_append]
  have e : s.cps.toList.length = k := by simpa [Str.length] using h
  rw [← e]
  simp
theorem take_app {s t : Str} {k : Nat} (h : s.length = k) : cutS (s ++ t) none (some (k : Int)) = s := by
  rw [cutS_take]
  refine str_ext ?_
  show ((s.cps ++ t.cps).toList.take k) = s.cps.toList
  have e : s.cps.toList.length = k := by simpa [Str.length] using h
  rw [Array.toList_append, List.take_append_of_le_length (by omega), List.take_of_length_le (by omega)]
theorem sg_one (b : Bool) : (sg b).length = 1 := by cases b <;> decide +kernel
theorem head_drop {ss : List Str} : cutS (headT ss) (some 9) none = Txt.join ", " ss := drop_app (k := 9) (by decide +kernel)
theorem split_names {p : Pan} : Txt.split (Txt.join ", " p.ss) ", " = p.ss := by
  rw [txj]
  exact split_comma p.sw.1 fun s h => fr_name (p.sw.2.2.2 s h) (by omega)
theorem lit_name {a : Lit} : cutS (itT (.inr a)) (some 1) none = a.n := drop_app (k := 1) (sg_one a.s)
theorem lit_sign {a : Lit} : cutS (itT (.inr a)) none (some 1) = sg a.s := take_app (k := 1) (sg_one a.s)
end FM
namespace FM
open PySem PySem.Spec PyProof.Rows L2 FD
end FM
namespace FM
open PySem PySem.Spec PyProof.Rows L2 FD
theorem two_of {l : List D} (h : l.length = 2) : ∃ x y, l = [x, y] := by
  match l, h with
  | [x, y], _ => exact ⟨x, y, rfl⟩
end FM
namespace FM
open PySem PySem.Spec PyProof.Rows L2 FD
def wOr (p : Pan) (a b : Lit) : D := (((wf p.ss p.rs a).lookup b).map wayD).getD (.tup [])
end FM
namespace FM
open PySem PySem.Spec PyProof.Rows L2 FD
end FM

namespace FM
open PySem PySem.Spec PyProof.Rows L2 FD
end FM
namespace FM
open PySem PySem.Spec PyProof.Rows L2 FD
end FM
namespace FM
open PySem PySem.Spec PyProof.Rows L2 FD
end FM
namespace FM
open PySem PySem.Spec PyProof.Rows L2 FD
end FM
namespace FM
open PySem PySem.Spec PyProof.Rows L2 FD
end FM

namespace FM
open PySem PySem.Spec PyProof.Rows L2 FD
end FM

namespace FD
open PySem PySem.Spec PyProof.Rows L2
def zip2D (l m : List D) : List D := (l.zip m).map fun q => D.tup [q.1, q.2]
def iZipMD (w : WA) : WI := fun Γ M post => w Γ M fun ds M1 => ∃ d m, ds = [d, .lst m] ∧ isT d fun l => l.length = m.length ∧ post (zip2D l m) noG M1
def gZ2 (ds : List D) (M1 : Mem) (post : List D → (Mem → Prop) → Mem → Prop) : Prop := ∃ d m, ds = [d, .lst m] ∧ isT d fun l => l.length = m.length ∧ post (zip2D l m) noG M1
theorem iZipMD_e (w : WA) : FD.iZipMD w = (fun Γ M post => w Γ M fun ds M1 => gZ2 ds M1 post : WI) := rfl
theorem gZ2_eq {d : D} {m : List D} {M : Mem} {post : List D → (Mem → Prop) → Mem → Prop} : gZ2 [d, .lst m] M post = isT d fun l => l.length = m.length ∧ post (zip2D l m) noG M := by
  unfold gZ2
  refine propext ⟨fun ⟨x, y, e, h⟩ => ?_, fun h => ⟨_, _, rfl, h⟩⟩
  simp only [List.cons.injEq, D.lst.injEq, and_true] at e
  rw [e.1, e.2]
  exact h
def t12 (i j l : Nat) : GD := fun d Γ post => isT d fun q => two q fun x e => isT e fun q2 => two q2 fun y z => post (((Γ.set i (some x)).set j (some y)).set l (some z))
theorem t12_e (i j l : Nat) : FD.t12 i j l = (fun d Γ post => isT d fun q => two q fun x e => isT e fun q2 => two q2 fun y z => post (((Γ.set i (some x)).set j (some y)).set l (some z)) : GD) := rfl
end FD

namespace FM
open PySem PySem.Spec PyProof.Rows L2 FD
def ruPair (w : Str) (a b : Lit) : Option Rule := if w = "either" then some (.either a b) else if w = "needs" then some (.needs a b) else if w = "bars" then some (.bars a b) else none
def ruAlike (w : Str) (x y : Str) : Option Rule := if w = "same" then some (.same false x y) else if w = "unlike" then some (.unlike false x y) else none
def litsR (w : Str) : Option Lit → Option Lit → Option Rule
  | some a, some b => if a.n = b.n then none else ruPair w a b
  | _, _ => none
def strsR (ss : List Str) (w : Str) : Option Str → Option Str → Option Rule
  | some s, some t => if s ∈ ss then (if t ∈ ss then (if s = t then none else ruAlike w s t) else none) else none
  | _, _ => none
def ruleW (ss : List Str) (w : Str) (x y : D) : Option Rule := if w ∈ [("either" : Str), "needs", "bars"] then litsR w (litV ss x) (litV ss y)
  else if w ∈ [("same" : Str), "unlike"] then strsR ss w (strOf x) (strOf y)
  else none
def ruleL (ss : List Str) (w : Str) (l : List D) : Option Rule := if w = "be" then (match l with
    | [x] => (litV ss x).map Rule.be
    | _ => none)
  else match l with
    | [x, y] => ruleW ss w x y
    | _ => none
def ruleV (ss : List Str) (d : D) : Option Rule := match tupOf d with
  | some (h :: l) => match strOf h with
    | some w => ruleL ss w l
    | none => none
  | _ => none
def soft : Rule → Bool
  | .same f _ _ => !f
  | .unlike f _ _ => !f
  | _ => true
theorem ruPair_some {ss : List Str} {w : Str} {a b : Lit} {r : Rule} (h : ruPair w a b = some r) (ha : a.n ∈ ss) (hb : b.n ∈ ss) (ne : a.n ≠ b.n) : D.tup [.str w, litD a, litD b] = ruleD r ∧ ruleOk ss r = true ∧ soft r = true := by
  have k : (decide (a.n ∈ ss) && decide (b.n ∈ ss) && !decide (a.n = b.n)) = true := by rw [decide_eq_true ha, decide_eq_true hb, decide_eq_false ne]; rfl
  unfold ruPair at h
  split at h
  · rename_i e; cases h; rw [e]; exact ⟨rfl, k, rfl⟩
  · split at h
    · rename_i e; cases h; rw [e]; exact ⟨rfl, k, rfl⟩
    · split at h
      · rename_i e; cases h; rw [e]; exact ⟨rfl, k, rfl⟩
      · cases h
theorem ruAlike_some {ss : List Str} {w : Str} {a b : Str} {r : Rule} (h : ruAlike w a b = some r) (ha : a ∈ ss) (hb : b ∈ ss) (ne : a ≠ b) : D.tup [.str w, .str a, .str b] = ruleD r ∧ ruleOk ss r = true ∧ soft r = true := by
  have k : (decide (a ∈ ss) && decide (b ∈ ss) && !decide (a = b)) = true := by rw [decide_eq_true ha, decide_eq_true hb, decide_eq_false ne]; rfl
  unfold ruAlike at h
  split at h
  · rename_i e; cases h; rw [e]; exact ⟨rfl, k, rfl⟩
  · split at h
    · rename_i e; cases h; rw [e]; exact ⟨rfl, k, rfl⟩
    · cases h
theorem calm_head {n : Nat} {f : Fg} {w : Str} {l : List D} (hc : calm n (tq f (.str w :: l)) = true) : f = .f := by
  cases f with
  | f => rfl
  | t =>
    have := (calm_tp (f := true)).mp hc
    have := this.2.2 rfl (.str w) (by simp)
    cases this
  | k => cases hc
theorem ruleV_calm {n : Nat} {ss : List Str} {d : D} {r : Rule} (hc : calm n d = true) (h : ruleV ss d = some r) : d = ruleD r ∧ ruleOk ss r = true ∧ soft r = true := by
  unfold ruleV at h
  split at h
  · rename_i hd l et
    split at h
    · rename_i w hw
      cases strOf_some hw
      obtain ⟨f, rfl⟩ := tup_tq2 et
      cases calm_head hc
      obtain ⟨hlen, hl⟩ := calm_els hc (tup_tq (f := .f))
      show D.tup (.str w :: l) = _ ∧ _
      unfold ruleL at h
      split at h
      · rename_i ew
        split at h
        · rename_i x
          obtain ⟨a, ha, rfl⟩ := Option.map_eq_some_iff.mp h
          obtain ⟨rfl, hn⟩ := litV_calm (hl x (by simp)) ha
          rw [ew]
          exact ⟨rfl, decide_eq_true hn, rfl⟩
        · cases h
      · split at h
        · rename_i x y
          unfold ruleW at h
          split at h
          · unfold litsR at h
            split at h
            · rename_i a b ea eb
              obtain ⟨rfl, hna⟩ := litV_calm (hl x (by simp)) ea
              obtain ⟨rfl, hnb⟩ := litV_calm (hl y (by simp)) eb
              split at h
              · cases h
              · rename_i ne
                exact ruPair_some h hna hnb ne
            · cases h
          · split at h
            · unfold strsR at h
              split at h
              · rename_i s t es et2
                cases strOf_some es
                cases strOf_some et2
                split at h
                · rename_i m1
                  split at h
                  · rename_i m2
                    split at h
                    · cases h
                    · rename_i ne
                      exact ruAlike_some h m1 m2 ne
                  · cases h
                · cases h
              · cases h
            · cases h
        · cases h
    · cases h
  · cases h
theorem litV_one {ss : List Str} {a : Lit} : litV ss (litD a) = if a.n ∈ ss then some a else none := by
  by_cases h : a.n ∈ ss
  · rw [litV_litD h, if_pos h]
  · rw [show litD a = tq .f [.str a.n, .str (sg a.s)] from rfl, litV_strs, if_neg h, if_neg h]
theorem ruleV_D {ss : List Str} {r : Rule} (k : soft r = true) : ruleV ss (ruleD r) = if ruleOk ss r = true then some r else none := by
  cases r with
  | be a =>
    show (litV ss (litD a)).map Rule.be = if decide (a.n ∈ ss) = true then _ else _
    rw [litV_one]
    by_cases h : a.n ∈ ss <;> simp [h]
  | same f x y =>
    cases f with
    | true => cases k
    | false =>
      show (if x ∈ ss then (if y ∈ ss then (if x = y then none else some (Rule.same false x y)) else none) else none) = if (decide (x ∈ ss) && decide (y ∈ ss) && !decide (x = y)) = true then _ else _
      by_cases h1 : x ∈ ss <;> by_cases h2 : y ∈ ss <;> by_cases h3 : x = y <;> simp [h1, h2, h3]
  | unlike f x y =>
    cases f with
    | true => cases k
    | false =>
      show (if x ∈ ss then (if y ∈ ss then (if x = y then none else some (Rule.unlike false x y)) else none) else none) = if (decide (x ∈ ss) && decide (y ∈ ss) && !decide (x = y)) = true then _ else _
      by_cases h1 : x ∈ ss <;> by_cases h2 : y ∈ ss <;> by_cases h3 : x = y <;> simp [h1, h2, h3]
  | either a b =>
    show litsR "either" (litV ss (litD a)) (litV ss (litD b)) = if (decide (a.n ∈ ss) && decide (b.n ∈ ss) && !decide (a.n = b.n)) = true then _ else _
    rw [litV_one, litV_one]
    by_cases h1 : a.n ∈ ss <;> by_cases h2 : b.n ∈ ss <;> by_cases h3 : a.n = b.n <;> simp [h1, h2, h3, litsR] <;> first | done | rfl
  | needs a b =>
    show litsR "needs" (litV ss (litD a)) (litV ss (litD b)) = if (decide (a.n ∈ ss) && decide (b.n ∈ ss) && !decide (a.n = b.n)) = true then _ else _
    rw [litV_one, litV_one]
    by_cases h1 : a.n ∈ ss <;> by_cases h2 : b.n ∈ ss <;> by_cases h3 : a.n = b.n <;> simp [h1, h2, h3, litsR] <;> first | done | rfl
  | bars a b =>
    show litsR "bars" (litV ss (litD a)) (litV ss (litD b)) = if (decide (a.n ∈ ss) && decide (b.n ∈ ss) && !decide (a.n = b.n)) = true then _ else _
    rw [litV_one, litV_one]
    by_cases h1 : a.n ∈ ss <;> by_cases h2 : b.n ∈ ss <;> by_cases h3 : a.n = b.n <;> simp [h1, h2, h3, litsR] <;> first | done | rfl
theorem ruleV_none {ss : List Str} {d : D} (h : tupOf d = none) : ruleV ss d = none := by unfold ruleV; rw [h]
theorem ruleV_one {ss : List Str} {f : Fg} {x : D} : ruleV ss (tq f [x]) = none := by
  unfold ruleV
  rw [tup_tq]
  cases h : strOf x with
  | none => simp only [h]
  | some w =>
    simp only [h]
    unfold ruleL
    split <;> rfl
theorem ruleV_nil {ss : List Str} {f : Fg} : ruleV ss (tq f []) = none := by unfold ruleV; rw [tup_tq]
theorem ruleV_nostr {ss : List Str} {f : Fg} {h : D} {l : List D} (k : strOf h = none) : ruleV ss (tq f (h :: l)) = none := by unfold ruleV; rw [tup_tq]; simp only [k]
theorem ruleV_tq {ss : List Str} {f : Fg} {w : Str} {l : List D} : ruleV ss (tq f (.str w :: l)) = ruleL ss w l := by unfold ruleV; rw [tup_tq]; rfl
theorem litsR_some {w : Str} {a b : Lit} (h : w ∈ [("either" : Str), "needs", "bars"]) : (litsR w (some a) (some b)).isSome = !decide (a.n = b.n) := by
  unfold litsR ruPair
  simp only [List.mem_cons, List.not_mem_nil, or_false] at h
  by_cases e : a.n = b.n
  · simp [e]
  · rcases h with rfl | rfl | rfl <;> simp [e] <;> first | done | rfl
theorem strsR_some {ss : List Str} {w : Str} {s t : Str} (h : w ∈ [("same" : Str), "unlike"]) : (strsR ss w (some s) (some t)).isSome = (decide (s ∈ ss) && (decide (t ∈ ss) && !decide (s = t))) := by
  unfold strsR ruAlike
  simp only [List.mem_cons, List.not_mem_nil, or_false] at h
  by_cases m1 : s ∈ ss <;> by_cases m2 : t ∈ ss <;> by_cases e : s = t
  all_goals rcases h with rfl | rfl <;> simp [m1, m2, e] <;> first | done | rfl
theorem pair_word {w : Str} (h : w ∈ [("either" : Str), "needs", "bars"]) : (decide (Str.ofString "either" = w) || (decide (Str.ofString "needs" = w) || decide (Str.ofString "bars" = w))) = true := by
  simp only [List.mem_cons, List.not_mem_nil, or_false] at h
  rcases h with rfl | rfl | rfl <;> simp
theorem pair_noword {w : Str} (h : ¬ w ∈ [("either" : Str), "needs", "bars"]) : (decide (Str.ofString "either" = w) || (decide (Str.ofString "needs" = w) || decide (Str.ofString "bars" = w))) = false := by
  simp only [List.mem_cons, List.not_mem_nil, or_false, not_or] at h
  simp [Ne.symm h.1, Ne.symm h.2.1, Ne.symm h.2.2]
theorem alike_word {w : Str} (h : w ∈ [("same" : Str), "unlike"]) : (decide (Str.ofString "same" = w) || decide (Str.ofString "unlike" = w)) = true := by
  simp only [List.mem_cons, List.not_mem_nil, or_false] at h
  rcases h with rfl | rfl <;> simp
theorem alike_noword {w : Str} (h : ¬ w ∈ [("same" : Str), "unlike"]) : (decide (Str.ofString "same" = w) || decide (Str.ofString "unlike" = w)) = false := by
  simp only [List.mem_cons, List.not_mem_nil, or_false, not_or] at h
  simp [Ne.symm h.1, Ne.symm h.2]
theorem alike_nopair {w : Str} (h : w ∈ [("same" : Str), "unlike"]) : ¬ w ∈ [("either" : Str), "needs", "bars"] := by
  simp only [List.mem_cons, List.not_mem_nil, or_false] at h
  rcases h with rfl | rfl <;> decide +kernel
theorem zip2_cl {l : List D} {cs : List (Lit × Lit)} : zip2D l (cs.map clD) = (l.zip cs).map fun q => D.tup [q.1, clD q.2] := by
  unfold zip2D
  rw [List.zip_map_right, List.map_map]
  rfl
end FM

namespace FD
open PySem PySem.Spec PyProof.Rows L2
def Lk (H H' : F) : Prop := ∀ b o, H.ice b = some o → H'.ice b = some o ∨ (∃ od l, o = .frz od (.dT l) ∧ H'.ice b = some (.dT l)) ∨ ∃ od l, o = .dT l ∧ H'.ice b = some (.frz od (.dT l))
theorem Lk.keep {H H' : F} (e : Lk H H') {b : Addr} {o : HO} (h : H.ice b = some o) (n1 : ∀ od l, o ≠ .frz od (.dT l)) (n2 : ∀ l, o ≠ .dT l) : H'.ice b = some o := by
  rcases e b o h with z | ⟨od, l, z, _⟩ | ⟨od, l, z, _⟩
  · exact z
  · exact absurd z (n1 od l)
  · exact absurd z (n2 l)
theorem Lk.rd {H H' : F} (e : Lk H H') {b : Addr} {l : List (List Key × V)} (h : Rd H.ice b (.dT l)) : Rd H'.ice b (.dT l) := by
  rcases h with h | ⟨o, h⟩
  · rcases e b _ h with z | ⟨od, m, z, _⟩ | ⟨od, m, z, q⟩
    · exact .inl z
    · cases z
    · cases z; exact .inr ⟨od, q⟩
  · rcases e b _ h with z | ⟨od, m, z, q⟩ | ⟨od, m, z, _⟩
    · exact .inr ⟨o, z⟩
    · cases z; exact .inl q
    · cases z
mutual
theorem Rp.lk {K : PySem.W.Frag} {H H' : F} (e : Lk H H') : ∀ {v : V} {d : D}, Rp K H v d → Rp K H' v d
  | _, _, .non => .non
  | _, _, .bl b => .bl b
  | _, _, .int i => .int i
  | _, _, .str s h => .str s h
  | _, _, .tup h ha hz => .tup (e.keep h (fun _ _ z => nomatch z) fun _ z => nomatch z) (RpAll.lk e ha) hz
  | _, _, .ftp h hd ha hz => .ftp (e.keep h (fun _ _ z => nomatch z) fun _ z => nomatch z) hd (RpAll.lk e ha) hz
  | _, _, .ktp h ha hz => .ktp (by
      rcases h with (h | ⟨o, h⟩) | h
      · exact .inl (.inl (e.keep h (fun _ _ z => nomatch z) fun _ z => nomatch z))
      · exact .inl (.inr ⟨o, e.keep h (fun _ _ z => nomatch z) fun _ z => nomatch z⟩)
      · exact .inr h) (RpAll.lk e ha) hz
  | _, _, .lst h ha hz => .lst (e.keep h (fun _ _ z => nomatch z) fun _ z => nomatch z) (RpAll.lk e ha) hz
  | _, _, .scr h ha hz => .scr (by
      rcases h with (h | ⟨o, h⟩) | h
      · exact .inl (.inl (e.keep h (fun _ _ z => nomatch z) fun _ z => nomatch z))
      · exact .inl (.inr ⟨o, e.keep h (fun _ _ z => nomatch z) fun _ z => nomatch z⟩)
      · exact .inr h) (RpAll.lk e ha) hz
  | _, _, .ptr a => .ptr a
  | _, _, .obj h hk ha => .obj (e.keep h (fun _ _ z => nomatch z) fun _ z => nomatch z) hk (RpAll.lk e ha)
  | _, _, .dcK h hk ha => .dcK (e.keep h (fun _ _ z => nomatch z) fun _ z => nomatch z) hk (RpAll.lk e ha)
  | _, _, .dcT h hk ha => .dcT (e.rd h) hk (RpAll.lk e ha)
  | _, _, .exc0 => .exc0
  | _, _, .exc1 h hk ha => .exc1 (e.keep h (fun _ _ z => nomatch z) fun _ z => nomatch z) hk (RpAll.lk e ha)
theorem RpAll.lk {K : PySem.W.Frag} {H H' : F} (e : Lk H H') : ∀ {vs : List V} {ds : List D}, RpAll K H vs ds → RpAll K H' vs ds
  | _, _, .nil => .nil
  | _, _, .cons h t => .cons (Rp.lk e h) (RpAll.lk e t)
end
theorem RpKV.lk {κ : Type} {K : PySem.W.Frag} {H H' : F} (e : Lk H H') : ∀ {a : List (κ × V)} {b : List (κ × D)}, RpKV K H a b → RpKV K H' a b
  | _, _, .nil => .nil
  | _, _, .cons h t => .cons ⟨h.1, h.2.lk e⟩ (RpKV.lk e t)
theorem RpO.lk {K : PySem.W.Frag} {H H' : F} (e : Lk H H') {m : MO} {o : HO} (h : RpO K H m o) : RpO K H' m o := by
  cases h with
  | lst h hz => exact .lst (h.lk e) hz
  | dK h => exact .dK (h.lk e)
  | dT h => exact .dT (h.lk e)
  | ins h => exact .ins (h.lk e)
  | tab ht hc => exact .tab ht fun pos cv z => let ⟨c, e1, e2⟩ := hc pos cv z; ⟨c, e1, e.keep e2 (fun _ _ y => nomatch y) fun _ y => nomatch y⟩
theorem RpE.lk {K : PySem.W.Frag} {H H' : F} (e : Lk H H') {σ : L2.St} {Γ : Env} (r : RpE K H σ Γ) : RpE K H' σ Γ := ⟨r.len, fun i d h => let ⟨v, h1, h2⟩ := r.at_ i d h; ⟨v, h1, h2.lk e⟩⟩
def keyL (l : List (List Key × D)) : List D := l.map fun p => .tup (p.1.map keyD)
def ForKT (d : D) (M : Mem) (Γ : Env) (g : WG) (tb : WS) (E : DEnds) : Prop := ∃ l, d = .dcT l ∧ keysOk l ∧ l.length ≤ 16777216 ∧ ForI (keyL l) noG g tb E Γ M
def sForKT (i : Nat) (g : WG) (tb : WS) : WS := fun E Γ M => look Γ i fun d => ForKT d M Γ g tb E
theorem sForKT_e (i : Nat) (g : WG) (tb : WS) : FD.sForKT i g tb = (fun E Γ M => look Γ i fun d => ForKT d M Γ g tb E : WS) := rfl
end FD

namespace FM
open PySem PySem.Spec PyProof.Rows L2 FD
end FM

namespace FM
open PySem PySem.Spec PyProof.Rows L2 FD
end FM

namespace FM
open PySem PySem.Spec PyProof.Rows L2 FD
end FM

namespace FM
open PySem PySem.Spec PyProof.Rows L2 FD
def rowL (p : Pan) : List D → List Bool → Option (List Bool)
  | [], t => some t
  | d :: l, t => match strOf d with
    | some s => if s ∈ p.ss ∧ good p.ss p.rs (flip t (p.ss.idxOf s)) = true then rowL p l (flip t (p.ss.idxOf s)) else none
    | none => none
theorem rowL_cons {p : Pan} {d : D} {l : List D} {t : List Bool} : rowL p (d :: l) t = match strOf d with
    | some s => if s ∈ p.ss ∧ good p.ss p.rs (flip t (p.ss.idxOf s)) = true then rowL p l (flip t (p.ss.idxOf s)) else none
    | none => none := rfl
end FM

namespace FD
open PySem PySem.Spec PyProof.Rows L2
section
variable {X : Cx}
end
end FD
namespace FM
open PySem PySem.Spec PyProof.Rows L2 FD
structure Pw (p : Pan) (t : List Bool) (n : Nat) (ps : List (List Bool)) : Prop where
  nd : ps.Nodup
  st : t ∈ ps
  rf : ∀ u ∈ ps, RF p.ss p.rs t u
  cl : ∀ i v, i < n → ps[i]? = some v → ∀ s ∈ p.ss, good p.ss p.rs (flip v (p.ss.idxOf s)) = true → flip v (p.ss.idxOf s) ∈ ps
theorem Pw.start {p : Pan} {t : List Bool} : Pw p t 0 [t] := ⟨by simp, by simp, fun u hu => by rw [List.mem_singleton.mp hu]; exact .refl, fun i v hi => absurd hi (by omega)⟩
theorem Pw.le {p : Pan} {t : List Bool} {n : Nat} {ps : List (List Bool)} (lt : t.length = p.ss.length) (gt : good p.ss p.rs t = true) (h : Pw p t n ps) : ps.length ≤ (goodsL p.ss p.rs).length :=
  sub_len h.nd fun u hu => by
    obtain ⟨a, b, _⟩ := (h.rf u hu).ok lt gt
    exact mem_goods.mpr ⟨a, b⟩
def freshL (p : Pan) (ps : List (List Bool)) (v : List Bool) : List (List Bool) := ((p.ss.map fun s => flip v (p.ss.idxOf s)).filter fun u => decide (u ∈ goodsL p.ss p.rs) && !decide (u ∈ ps))
theorem flip_inj {v : List Bool} {i j : Nat} (hi : i < v.length) (hj : j < v.length) (h : flip v i = flip v j) : i = j := by
  by_cases e : i = j
  · exact e
  · have a := congrArg (fun l : List Bool => l.getD i false) h
    simp only [flip_get hi, flip_get hj, if_true] at a
    rw [if_neg e] at a
    cases q : v.getD i false <;> rw [q] at a <;> simp at a
theorem idx_inj {l : List Str} {x y : Str} (hx : x ∈ l) (hy : y ∈ l) (e : l.idxOf x = l.idxOf y) : x = y := by
  rw [← getD_idx hx, ← getD_idx hy, e]
theorem nodup_map_on {α β : Type} {f : α → β} : ∀ {l : List α}, (∀ a ∈ l, ∀ b ∈ l, f a = f b → a = b) → l.Nodup → (l.map f).Nodup
  | [], _, _ => by simp
  | a :: l, h, nd => by
    rw [List.nodup_cons] at nd
    rw [List.map_cons, List.nodup_cons]
    refine ⟨fun z => ?_, nodup_map_on (fun x hx y hy => h x (List.mem_cons_of_mem _ hx) y (List.mem_cons_of_mem _ hy)) nd.2⟩
    obtain ⟨b, hb, e⟩ := List.mem_map.mp z
    have := h b (List.mem_cons_of_mem _ hb) a (by simp) e
    rw [this] at hb
    exact nd.1 hb
theorem Pw.step {p : Pan} {t v : List Bool} {n : Nat} {ps : List (List Bool)} (lt : t.length = p.ss.length) (gt : good p.ss p.rs t = true) (h : Pw p t n ps) (hv : ps[n]? = some v) : Pw p t (n + 1) (ps ++ freshL p ps v) := by
  have mv := List.mem_of_getElem? hv
  obtain ⟨lv, gv, _⟩ := (h.rf v mv).ok lt gt
  have ix : ∀ s ∈ p.ss, p.ss.idxOf s < v.length := fun s hs => by rw [lv]; exact List.idxOf_lt_length_iff.mpr hs
  have mf : ∀ u, u ∈ freshL p ps v ↔ (∃ s ∈ p.ss, flip v (p.ss.idxOf s) = u) ∧ u ∈ goodsL p.ss p.rs ∧ u ∉ ps := fun u => by
    unfold freshL
    rw [List.mem_filter, List.mem_map, Bool.and_eq_true, decide_eq_true_eq, Bool.not_eq_true', decide_eq_false_iff_not]
  refine ⟨?_, List.mem_append_left _ h.st, fun u hu => ?_, fun i w hi hw s hs g => ?_⟩
  · refine List.nodup_append.mpr ⟨h.nd, ?_, fun a ha b hb e => ((mf b).mp hb).2.2 (e ▸ ha)⟩
    refine List.Pairwise.filter _ ?_
    refine nodup_map_on (fun a ha b hb e => ?_) p.sw.2.2.1
    have := flip_inj (ix a ha) (ix b hb) e
    exact idx_inj ha hb this
  · rcases List.mem_append.mp hu with hu | hu
    · exact h.rf u hu
    · obtain ⟨⟨s, hs, rfl⟩, hg, _⟩ := (mf u).mp hu
      exact .step (h.rf v mv) (List.idxOf_lt_length_iff.mpr hs) (mem_goods.mp hg).2
  · by_cases e : i = n
    · subst e
      have e2 : w = v := by
        rw [List.getElem?_append_left (List.getElem?_eq_some_iff.mp hv).1, hv] at hw
        exact (Option.some.inj hw).symm
      subst e2
      by_cases hm : flip w (p.ss.idxOf s) ∈ ps
      · exact List.mem_append_left _ hm
      · refine List.mem_append_right _ ((mf _).mpr ⟨⟨s, hs, rfl⟩, mem_goods.mpr ⟨?_, g⟩, hm⟩)
        rw [flip_len (ix s hs)]; exact lv
    · have hi2 : i < n := by omega
      have hl := (List.getElem?_eq_some_iff.mp hv).1
      rw [List.getElem?_append_left (by omega)] at hw
      exact List.mem_append_left _ (h.cl i w hi2 hw s hs g)
theorem Pw.all {p : Pan} {t : List Bool} {n : Nat} {ps : List (List Bool)} (lt : t.length = p.ss.length) (gt : good p.ss p.rs t = true) (h : Pw p t n ps) (hn : ps.length ≤ n) {u : List Bool} : u ∈ ps ↔ RF p.ss p.rs t u := by
  refine ⟨h.rf u, fun r => ?_⟩
  induction r with
  | refl => exact h.st
  | @step v k hr hk g ih =>
    obtain ⟨i, hi, e⟩ := List.mem_iff_getElem.mp ih
    have := h.cl i v (by omega) (by rw [List.getElem?_eq_getElem hi, e]) (p.ss.getD k "") (getD_mem _ hk)
    rw [idx_getD p.sw.2.2.1 "" hk] at this
    exact this g
end FM

namespace FM
open PySem PySem.Spec PyProof.Rows L2 FD
end FM

namespace L2
open PySem PySem.Spec PyProof.Rows
def ValO (a r : Addr) : HO := .ext fun h => h.IsValuesView r a
def tVals (td : TE) : TE := fun σ H Q => td σ H fun x H1 => ∃ a kvs, x = V.ref a ∧ H1 a = some (.dK kvs) ∧ ∀ r, H1 r = none → Q (.ref r) (upd H1 r (ValO a r))
theorem vals_at : ∀ {us : List Value} {kvs : List (Key × V)} {vs : List (Key × Value)}, KV kvs vs → us.length = vs.length → (∀ (j : Nat) (v : Value), us[j]? = some v → ∃ k : Key, vs[j]? = some (k, v)) → Vals (kvs.map (·.2)) us
  | [], [], [], _, _, _ => .nil
  | u :: us, q :: kvs, w :: vs, r, hl, h => by
    obtain ⟨k, e1⟩ := h 0 u rfl
    have e1' : w = (k, u) := Option.some.inj e1
    subst e1'
    cases r with
    | cons r t =>
      rw [List.map_cons]
      exact .cons r.2 (vals_at t (by simpa using hl) fun j v e => by
        obtain ⟨k, a⟩ := h (j + 1) v (by simpa using e)
        exact ⟨k, by simpa using a⟩)
  | [], _, _ :: _, _, hl, _ => by simp at hl
  | _ :: _, _, [], _, hl, _ => by simp at hl
  | [], _ :: _, [], r, _, _ => by cases r
  | _ :: _, [], _ :: _, r, _, _ => by cases r
section
variable {X : Cx} {o : Expr} {apos mpos : Pos} {td : TE}
theorem valO_new {P : Program} {w : World} {H : Hp} {h : Heap} {a r : Addr} (x : h.IsValuesView r a) : ObjOk P w H h r (ValO a r) := by
  have ⟨o, ho, y⟩ := x
  exact ⟨x, ⟨o, ho⟩, fun h1 h2 p k => let ⟨o, ho, y⟩ := p; ⟨o, k o ho, y⟩⟩
theorem pe_vals (hd : PE X o td) (hbase : attributeBase o "values" X.env (eval o X.env) = eval o X.env := by rfl) (hline : (apos.endLine == mpos.line) = true := by rfl) :
    PE X (.Call (.Attribute o "values" apos) [] [] mpos) (tVals td) := by
  refine ⟨fun pins s σ H Q I h => ?_⟩
  refine wpAny_Call_method0_late hbase hline (thn (hd.run pins s σ H _ I h) fun v s1 ⟨x, H1, I1, r1, a, kvs, ex, ha, q⟩ => ?_)
  subst ex
  obtain rfl : v = Value.ref a := r1
  obtain ⟨_, hsys, vs, rel, dof⟩ := dk_of I1.hok ha
  obtain ⟨ep, dat⟩ := dof.dictAt
  obtain ⟨ob, es, ho, ex, hdat, hko, hpr, hnd⟩ := dat
  refine ⟨"dict", "dict.values", F.plainAttrs_dict, F.slot_dict_values, F.type_dict_values, ⟨ob, ho, ex.1⟩, fun b e => ?_, Calls.callWith_builtin rfl (PySem.evalArgs_none ?_)⟩
  · cases e
    exact ⟨ob, ho, ex.2.1⟩
  refine call_meetsIn F.slot_dict_values ⟨ob, ho, ex.1⟩ F.entry_dict_values (F.args_dict_values_1 _) (meets_dict_values (mixKind X.prog X.w) a hsys) ⟨⟨vs, dof⟩, ?_⟩
  exact ⟨.ref s1.heap.objs.size, upd H1 s1.heap.objs.size (ValO a s1.heap.objs.size), I1.laid (t' := s1.toks) (fun b u e => Heap.get?_push_of_some _ e) (Nat.le_refl _)
    (valO_new ⟨_, Heap.get?_push_size _ rfl, rfl, rfl⟩), rfl, q _ (I1.hok.fresh (Nat.le_refl _))⟩
theorem call_listV (hcalm : X.calm = true) : CallR X (.type "list") (fun xs H Q => ∃ (r a : Addr) (kvs : List (Key × V)), xs = [.ref r] ∧ H r = some (ValO a r) ∧ H a = some (.dK kvs) ∧ ∀ p, H p = none → Q (.ref p) (upd H p (.lst (kvs.map (·.2))))) := by
  intro pins s σ H xs us Q I r q
  obtain ⟨rr, a, kvs, ex, hr, hd, q⟩ := q
  subst ex
  obtain ⟨u, eu, rx⟩ := vals1 r
  subst eu
  cases rx
  obtain ⟨z, lo, vs, rel, dd⟩ := dk_of I.hok hd
  obtain ⟨ep, hat⟩ := dd.dictAt
  have view : s.heap.IsValuesView rr a := (I.hok rr _ hr).1
  refine PySem.W.kdl_call (PySem.W.kdl_values (knd := mixKind X.prog X.w) (d := a) (r := rr) (kvs := vs) (ep := ep)) (I.ok.hd hcalm) ⟨view, hat⟩ (by rw [← rel.length]; exact z) fun h' tk acc c' hk hD hacc => ?_
  have hv : Vals (kvs.map (·.2)) acc.toList := vals_at rel (by rw [Array.length_toList]; exact hacc.1) fun j v e => hacc.2 j v (by rw [← Array.getElem?_toList]; exact e)
  refine ⟨.ref s.heap.objs.size, upd H s.heap.objs.size (.lst (kvs.map (·.2))), I.laid (t' := tk) hk (Nat.le_refl _)
    (show ObjOk X.prog X.w _ _ _ (.lst (kvs.map (·.2))) from ⟨by rw [List.length_map]; exact z, acc.toList, c', hv, by rw [Array.toArray_toList]; exact hD⟩), rfl, q _ (I.hok.fresh (Nat.le_refl _))⟩
end
end L2
namespace FD
open PySem PySem.Spec PyProof.Rows L2
section
variable {X : Cx} {o e f : Expr} {apos cpos : Pos} {wo wi wx : WE}
def dSetd (M : Mem) (d y z : D) (post : WK) : Prop := match d with
  | .ptr a => match M a with
    | some (.dK l) => got (keyK y) fun k => l.length < 16777216 ∧ (∀ v, valD l k = some v → post v M) ∧ (valD l k = none → post z (M.upd a (.dK (putD l k z))))
    | _ => False
  | _ => False
def wDSetd (wo wi wx : WE) : WE := fun Γ M post => wo Γ M fun d M1 => isDc M1 d ∧ wi Γ M1 fun y M2 => wx Γ M2 fun z M3 => dSetd M3 d y z post
theorem wDSetd_e (wo wi wx : WE) : FD.wDSetd wo wi wx = (fun Γ M post => wo Γ M fun d M1 => isDc M1 d ∧ wi Γ M1 fun y M2 => wx Γ M2 fun z M3 => dSetd M3 d y z post : WE) := rfl
def dVals (M : Mem) (d : D) (post : WK) : Prop := match d with
  | .ptr a => match M a with
    | some (.dK l) => l.length ≤ 16777216 ∧ ∀ p, M p = none → post (.ptr p) (M.upd p (.lst (l.map (·.2))))
    | _ => False
  | _ => False
def wVals (wo : WE) : WE := fun Γ M post => wo Γ M fun d M1 => dVals M1 d post
theorem wVals_e (wo : WE) : FD.wVals wo = (fun Γ M post => wo Γ M fun d M1 => dVals M1 d post : WE) := rfl
end
end FD

namespace FM
open PySem PySem.Spec PyProof.Rows L2 FD
def sigL (p : Pan) (t : List Bool) : List Bool := (lockS p).map (val p.ss t)
section
variable {κ α : Type} [DecidableEq κ]
def gl : List (κ × List α) → κ → List α
  | [], _ => []
  | (j, l) :: r, k => if j = k then l else gl r k
end
abbrev GA := List (List Bool × Addr × List (List Bool))
def prA (L : GA) : List (List Bool × List (List Bool)) := L.map fun g => (g.1, g.2.2)
def dkA (L : GA) : List (Key × D) := L.map fun g => (.inr (setS g.1), .ptr g.2.1)
def putA : GA → List Bool → Addr → List Bool → GA
  | [], k, q, x => [(k, q, [x])]
  | (j, b, l) :: r, k, q, x => if j = k then (j, b, l ++ [x]) :: r else (j, b, l) :: putA r k q x
def lkA : GA → List Bool → Option (Addr × List (List Bool))
  | [], _ => none
  | (j, b, l) :: r, k => if j = k then some (b, l) else lkA r k
theorem lkA_mem {k : List Bool} {z : Addr × List (List Bool)} : ∀ {L : GA}, lkA L k = some z → (k, z.1, z.2) ∈ L
  | [], h => by cases h
  | (j, b, l) :: r, h => by
    unfold lkA at h
    by_cases e : j = k
    · rw [if_pos e] at h; cases h; subst e; exact List.mem_cons_self
    · rw [if_neg e] at h; exact List.mem_cons_of_mem _ (lkA_mem h)
theorem dk_putA_old {k x : List Bool} {q : Addr} : ∀ {L : GA} {z : Addr × List (List Bool)}, lkA L k = some z → dkA (putA L k q x) = dkA L
  | [], _, h => by cases h
  | (j, b, l) :: r, z, h => by
    unfold lkA at h
    unfold putA
    by_cases e : j = k
    · rw [if_pos e]; rfl
    · rw [if_neg e] at h ⊢
      show (_, _) :: dkA (putA r k q x) = (_, _) :: dkA r
      rw [dk_putA_old h]
theorem putA_ad {k x : List Bool} {q : Addr} : ∀ {L : GA} {z : Addr × List (List Bool)}, lkA L k = some z → (putA L k q x).map (·.2.1) = L.map (·.2.1)
  | [], _, h => by cases h
  | (j, b, l) :: r, z, h => by
    unfold lkA at h
    unfold putA
    by_cases e : j = k
    · rw [if_pos e]; rfl
    · rw [if_neg e] at h ⊢
      rw [List.map_cons, putA_ad h]; rfl
theorem putA_mem {k x : List Bool} {q : Addr} : ∀ {L : GA} {z : Addr × List (List Bool)}, lkA L k = some z → (L.map (·.2.1)).Nodup → ∀ g ∈ putA L k q x, g = (k, z.1, z.2 ++ [x]) ∨ g ∈ L ∧ g.2.1 ≠ z.1
  | [], _, h, _ => by cases h
  | (j, b, l) :: r, z, h, nd => by
    rw [List.map_cons, List.nodup_cons] at nd
    unfold lkA at h
    unfold putA
    by_cases e : j = k
    · rw [if_pos e] at h ⊢
      cases h
      intro g hg
      rcases List.mem_cons.mp hg with hg | hg
      · subst e; exact .inl hg
      · exact .inr ⟨List.mem_cons_of_mem _ hg, fun y => nd.1 (List.mem_map.mpr ⟨g, hg, y⟩)⟩
    · rw [if_neg e] at h ⊢
      intro g hg
      rcases List.mem_cons.mp hg with hg | hg
      · subst hg
        exact .inr ⟨List.mem_cons_self, fun y => nd.1 (List.mem_map.mpr ⟨_, lkA_mem h, y.symm⟩)⟩
      · rcases putA_mem h nd.2 g hg with y | ⟨y1, y2⟩
        · exact .inl y
        · exact .inr ⟨List.mem_cons_of_mem _ y1, y2⟩
structure Gr (M M' : Mem) (a : Addr) (L : GA) : Prop where
  dict : M' a = some (.dK (dkA L))
  cell : ∀ g ∈ L, M' g.2.1 = some (.lst (g.2.2.map setD))
  nd : (L.map (·.2.1)).Nodup
  na : ∀ g ∈ L, g.2.1 ≠ a
  le : M.le M'
  fa : M a = none
  fr : ∀ g ∈ L, M g.2.1 = none
theorem le_off {M M' : Mem} {b : Addr} {o : MO} (h : M.le M') (hb : M b = none) : M.le (M'.upd b o) := fun c u e => by
  have n : c ≠ b := fun z => by rw [z, hb] at e; cases e
  rw [Mem.upd_ne n]; exact h c u e
theorem le_none {M M' : Mem} {b : Addr} (h : M.le M') (hb : M' b = none) : M b = none := by
  cases e : M b with
  | none => rfl
  | some o => rw [h b o e] at hb; cases hb
theorem Gr.new {M : Mem} {a : Addr} (h : M a = none) : Gr M (M.upd a (.dK [])) a [] :=
  ⟨Mem.upd_same, (fun g hg => nomatch hg), List.nodup_nil, (fun g hg => nomatch hg), Mem.le_upd h, h, (fun g hg => nomatch hg)⟩
theorem Gr.off {M M' : Mem} {a : Addr} {L : GA} (G : Gr M M' a L) {q : Addr} (hq : M' q = none) : q ≠ a ∧ ∀ g ∈ L, g.2.1 ≠ q :=
  ⟨(fun z => by rw [z, G.dict] at hq; cases hq), (fun g hg z => by have := G.cell g hg; rw [z, hq] at this; cases this)⟩
theorem Gr.old {M M' : Mem} {a q : Addr} {L : GA} (G : Gr M M' a L) (hq : M' q = none) {k x : List Bool} {z : Addr × List (List Bool)} (h : lkA L k = some z) :
    (M'.upd q (.lst [])) z.1 = some (.lst (z.2.map setD)) ∧ Gr M ((M'.upd q (.lst [])).upd z.1 (.lst ((z.2 ++ [x]).map setD))) a (putA L k q x) := by
  obtain ⟨qa, qg⟩ := G.off hq
  have hz := lkA_mem h
  have zq : z.1 ≠ q := qg _ hz
  refine ⟨by rw [Mem.upd_ne zq]; exact G.cell _ hz, ?_, ?_, ?_, ?_, ?_, G.fa, ?_⟩
  · rw [Mem.upd_ne (Ne.symm (G.na _ hz)), Mem.upd_ne (Ne.symm qa), dk_putA_old h]; exact G.dict
  · intro g hg
    rcases putA_mem h G.nd g hg with e | ⟨hg, ne⟩
    · subst e; exact Mem.upd_same
    · rw [Mem.upd_ne ne, Mem.upd_ne (qg g hg)]; exact G.cell g hg
  · rw [putA_ad h]; exact G.nd
  · intro g hg
    rcases putA_mem h G.nd g hg with e | ⟨hg, _⟩
    · subst e; exact G.na (k, z.1, z.2) hz
    · exact G.na g hg
  · exact le_off (le_off G.le (le_none G.le hq)) (G.fr _ hz)
  · intro g hg
    rcases putA_mem h G.nd g hg with e | ⟨hg, _⟩
    · subst e; exact G.fr (k, z.1, z.2) hz
    · exact G.fr g hg
theorem Gr.fz {M M' : Mem} {a p : Addr} {L : GA} (G : Gr M M' a L) (hp : M' p = none) : Fz (M'.upd p (.lst ((dkA L).map (·.2)))) M (.ptr p) (.lst ((prA L).map fun g => .lst (g.2.map setD))) := by
  refine .lst Mem.upd_same (le_none G.le hp) ?_
  have key : ∀ L2 : GA, (∀ g ∈ L2, g ∈ L) → FzAll (M'.upd p (.lst ((dkA L).map (·.2)))) M ((dkA L2).map (·.2)) ((prA L2).map fun g => .lst (g.2.map setD)) := by
    intro L2
    induction L2 with
    | nil => intro _; exact .nil
    | cons g r ih =>
      intro h
      have hg := h g List.mem_cons_self
      refine .cons (.lst ?_ (G.fr g hg) fzAll_same) (ih fun x hx => h x (List.mem_cons_of_mem _ hx))
      have ne : g.2.1 ≠ p := (G.off hp).2 g hg
      rw [Mem.upd_ne ne]; exact G.cell g hg
  exact key L fun _ h => h
def pieceL (p : Pan) (t : List Bool) : List (List Bool) := (goodsL p.ss p.rs).filter fun u => decide (sigL p u = sigL p t)
end FM

namespace FM
open PySem PySem.Spec PyProof.Rows L2 FD
theorem every_nodup (n : Nat) : (every n).Nodup := (every_sorted n).imp fun {a b} h e => by subst e; exact absurd h (List.lt_irrefl _)
theorem mem_pieceL {p : Pan} {t u : List Bool} : u ∈ pieceL p t ↔ u ∈ goodsL p.ss p.rs ∧ sigL p u = sigL p t := by
  unfold pieceL; rw [List.mem_filter]; simp
def Cl (ss : List Str) (rs : List Rule) (ts : List (List Bool × Nat)) (v : List Bool) : Prop := ∀ k < ss.length, good ss rs (flip v k) = true → flip v k ∈ ts.map (·.1)
theorem Cl.mono {ss : List Str} {rs : List Rule} {ts xs : List (List Bool × Nat)} {v : List Bool} (h : Cl ss rs ts v) : Cl ss rs (ts ++ xs) v := fun k hk g => by
  rw [List.map_append]; exact List.mem_append_left _ (h k hk g)
section
variable {κ α : Type} [DecidableEq κ]
end
def hdist : List Bool → List Bool → Nat
  | a :: t, b :: u => (if a = b then 0 else 1) + hdist t u
  | _, _ => 0
theorem hdist_snoc : ∀ {t u : List Bool} {a b : Bool}, t.length = u.length → hdist (t ++ [a]) (u ++ [b]) = hdist t u + if a = b then 0 else 1
  | [], [], a, b, _ => by simp [hdist]
  | x :: t, y :: u, a, b, h => by
    have := hdist_snoc (t := t) (u := u) (a := a) (b := b) (by simpa using h)
    simp only [List.cons_append, hdist, this]; omega
  | [], _ :: _, _, _, h => by simp at h
  | _ :: _, [], _, _, h => by simp at h
def Wide (p : Pan) (t : List Bool) (w : Nat) : Prop := (∀ u ∈ pieceL p t, ∀ v ∈ pieceL p t, hdist u v ≤ w) ∧ (w = 0 ∨ ∃ u ∈ pieceL p t, ∃ v ∈ pieceL p t, hdist u v = w)
end FM

namespace FD
open PySem PySem.Spec PyProof.Rows L2
section
variable {X : Cx} {tg : Expr} {a b c : Expr} {w : WA} {pos : Pos}
def dwn (hi : Int) (n : Nat) : List D := (List.range n).map fun (i : Nat) => .int (hi + (i : Int) * (-1))
def iRng3 (w : WA) : WI := fun Γ M post => w Γ M fun ds M1 => match ds with
  | [.int i, .int j, .int c] => (c = -1 ∧ i ≤ 16777216 ∧ 0 ≤ j ∧ j ≤ i) ∧ post (dwn i (i - j).toNat) noG M1
  | _ => False
theorem iRng3_e (w : WA) : FD.iRng3 w = (fun Γ M post => w Γ M fun ds M1 => match ds with
  | [.int i, .int j, .int c] => (c = -1 ∧ i ≤ 16777216 ∧ 0 ≤ j ∧ j ≤ i) ∧ post (dwn i (i - j).toNat) noG M1
  | _ => False : WI) := rfl
end
section
variable {α : Type} (enc : α → D) (py : α → PyData)
variable {enc py}
variable {X : Cx}
end
section
variable {α : Type} {le : α → α → Bool}
end
end FD

namespace FD
open PySem PySem.Spec PyProof.Rows L2
section
variable {X : Cx}
open PySem.W in
end
end FD
namespace FM
open PySem PySem.Spec PyProof.Rows L2 FD
end FM

namespace FD
open PySem PySem.Spec PyProof.Rows L2
section
variable {X : Cx}
end
end FD
namespace FM
open PySem PySem.Spec PyProof.Rows L2 FD
section
variable {κ α : Type} [DecidableEq κ]
end
def Whole (p : Pan) (l : List (List Bool)) : Prop := ∃ S : List Bool → Bool, l = (goodsL p.ss p.rs).filter fun u => S (sigL p u)
theorem Whole.in_ {p : Pan} {l : List (List Bool)} (h : Whole p l) : ∀ u ∈ l, u ∈ goodsL p.ss p.rs := by
  obtain ⟨S, rfl⟩ := h
  exact fun u hu => (List.mem_filter.mp hu).1
theorem Whole.rest {p : Pan} {l : List (List Bool)} (h : Whole p l) {t : List Bool} (ht : t ∈ l) : (l.filter fun u => !decide (u ∈ pieceL p t)) = l.filter fun u => !decide (sigL p u = sigL p t) := by
  refine List.filter_congr fun u hu => ?_
  by_cases e : sigL p u = sigL p t
  · have z : u ∈ pieceL p t := mem_pieceL.mpr ⟨h.in_ u hu, e⟩
    simp [z, e]
  · have z : u ∉ pieceL p t := fun z => e (mem_pieceL.mp z).2
    simp [z, e]
theorem Whole.next {p : Pan} {l : List (List Bool)} (h : Whole p l) {t : List Bool} (ht : t ∈ l) : Whole p (l.filter fun u => !decide (u ∈ pieceL p t)) := by
  rw [h.rest ht]
  obtain ⟨S, rfl⟩ := h
  exact ⟨fun k => S k && !decide (k = sigL p t), by rw [List.filter_filter]; exact List.filter_congr fun u _ => by rw [Bool.and_comm]⟩
theorem Whole.all {p : Pan} : Whole p (goodsL p.ss p.rs) := ⟨fun _ => true, (List.filter_eq_self.mpr fun _ _ => rfl).symm⟩
end FM

namespace FD
open PySem PySem.Spec PyProof.Rows L2
open AutoSeq1 (wpAny_loadPart')
section
variable {X : Cx} {e tg : Expr} {we : WE} {pos p tpos : Pos} {elts : List Expr} {kk : Nat} {w : WA}
def iEnS (w : WA) : WI := fun Γ M post => w Γ M fun ds M1 => one ds fun d => isS d fun z => post (enumD 0 (signs z)) noG M1
theorem iEnS_e (w : WA) : FD.iEnS w = (fun Γ M post => w Γ M fun ds M1 => one ds fun d => isS d fun z => post (enumD 0 (signs z)) noG M1 : WI) := rfl
end
end FD

namespace FM
open PySem PySem.Spec PyProof.Rows L2 FD
def stepB (a : Bool) (r : Nat) (q : List Bool × Nat) (b : Bool) : List (List Bool × Nat) :=
  if b = a then (if q.2 < r then [(q.1 ++ [b], q.2)] else []) else (if 1 ≤ q.2 ∧ q.2 - 1 < r then [(q.1 ++ [b], q.2 - 1)] else [])
def stepQ (a : Bool) (r : Nat) (q : List Bool × Nat) : List (List Bool × Nat) := [true, false].flatMap (stepB a r q)
structure Oth (t : List Bool) (m i : Nat) (fs : List (List Bool × Nat)) : Prop where
  mem : ∀ w n, (w, n) ∈ fs ↔ w.length = i ∧ hdist (t.take i) w + n = m ∧ n + i ≤ t.length
  few : fs.length ≤ 2 ^ i
theorem Oth.start {t : List Bool} {m : Nat} (h : m ≤ t.length) : Oth t m 0 [([], m)] := by
  refine ⟨fun w n => ?_, by simp⟩
  simp only [List.mem_singleton, Prod.mk.injEq, List.take_zero]
  constructor
  · rintro ⟨rfl, rfl⟩; exact ⟨rfl, by simp [hdist], by omega⟩
  · rintro ⟨h1, h2, h3⟩
    have e := List.length_eq_zero_iff.mp h1
    subst e
    simp [hdist] at h2
    exact ⟨rfl, h2⟩
theorem stepB_mem {a : Bool} {r : Nat} {q : List Bool × Nat} {b : Bool} {w : List Bool} {n : Nat} : (w, n) ∈ stepB a r q b ↔ w = q.1 ++ [b] ∧ n + (if b = a then 0 else 1) = q.2 ∧ n < r := by
  unfold stepB
  by_cases e : b = a
  · rw [if_pos e, if_pos e]
    by_cases c : q.2 < r
    · rw [if_pos c]; simp only [List.mem_singleton, Prod.mk.injEq]; constructor
      · rintro ⟨rfl, rfl⟩; exact ⟨rfl, rfl, c⟩
      · rintro ⟨h1, h2, _⟩; exact ⟨h1, by omega⟩
    · rw [if_neg c]; simp; intro _ h; omega
  · rw [if_neg e, if_neg e]
    by_cases c : 1 ≤ q.2 ∧ q.2 - 1 < r
    · rw [if_pos c]; simp only [List.mem_singleton, Prod.mk.injEq]; constructor
      · rintro ⟨rfl, rfl⟩; exact ⟨rfl, by omega, c.2⟩
      · rintro ⟨h1, h2, _⟩; exact ⟨h1, by omega⟩
    · rw [if_neg c]; simp; intro _ h; omega
theorem stepB_len {a : Bool} {r : Nat} {q : List Bool × Nat} {b : Bool} : (stepB a r q b).length ≤ 1 := by
  unfold stepB; split <;> split <;> simp
theorem stepQ_len {a : Bool} {r : Nat} {q : List Bool × Nat} : (stepQ a r q).length ≤ 2 := by
  unfold stepQ
  simp only [List.flatMap_cons, List.flatMap_nil, List.append_nil, List.length_append]
  have h1 := stepB_len (a := a) (r := r) (q := q) (b := true)
  have h2 := stepB_len (a := a) (r := r) (q := q) (b := false)
  omega
theorem flat_len {a : Bool} {r : Nat} : ∀ (fs : List (List Bool × Nat)), (fs.flatMap (stepQ a r)).length ≤ 2 * fs.length
  | [] => by simp
  | q :: fs => by
    have h1 := flat_len (a := a) (r := r) fs
    have h2 := stepQ_len (a := a) (r := r) (q := q)
    rw [List.flatMap_cons, List.length_append, List.length_cons]; omega
theorem Oth.step {t : List Bool} {m i : Nat} {fs : List (List Bool × Nat)} (O : Oth t m i fs) {a : Bool} (ha : t[i]? = some a) : Oth t m (i + 1) (fs.flatMap (stepQ a (t.length - i))) := by
  obtain ⟨hi, ea⟩ := List.getElem?_eq_some_iff.mp ha
  have et : t.take (i + 1) = t.take i ++ [a] := by rw [List.take_succ, ha]; rfl
  have lt : (t.take i).length = i := by rw [List.length_take]; omega
  refine ⟨fun w n => ?_, ?_⟩
  · rw [List.mem_flatMap, et]
    constructor
    · rintro ⟨⟨v, k⟩, hq, h⟩
      obtain ⟨h1, h2, h3⟩ := (O.mem v k).mp hq
      obtain ⟨b, _, h⟩ := List.mem_flatMap.mp h
      obtain ⟨rfl, e, c⟩ := stepB_mem.mp h
      have c : n < t.length - i := c
      have e : n + (if b = a then 0 else 1) = k := e
      have h1 : v.length = i := h1
      have h2 : hdist (t.take i) v + k = m := h2
      show (v ++ [b]).length = i + 1 ∧ hdist (t.take i ++ [a]) (v ++ [b]) + n = m ∧ n + (i + 1) ≤ t.length
      rw [hdist_snoc (by omega), List.length_append, List.length_singleton]
      refine ⟨by omega, ?_, by omega⟩
      by_cases z : a = b
      · subst z; simp at e ⊢; omega
      · rw [if_neg z]; rw [if_neg (Ne.symm z)] at e; omega
    · rintro ⟨h1, h2, h3⟩
      have hne : w ≠ [] := fun z => by rw [z] at h1; simp at h1
      obtain ⟨v, b, rfl⟩ : ∃ v b, w = v ++ [b] := ⟨w.dropLast, w.getLast hne, (List.dropLast_concat_getLast hne).symm⟩
      have lv : v.length = i := by rw [List.length_append, List.length_singleton] at h1; omega
      rw [hdist_snoc (by omega)] at h2
      refine ⟨(v, n + if b = a then 0 else 1), (O.mem _ _).mpr ⟨lv, ?_, ?_⟩, List.mem_flatMap.mpr ⟨b, by cases b <;> simp, stepB_mem.mpr ⟨rfl, rfl, by omega⟩⟩⟩
      · by_cases z : a = b
        · subst z; simp at h2 ⊢; omega
        · rw [if_neg z] at h2; rw [if_neg (Ne.symm z)]; omega
      · split <;> omega
  · have h1 := flat_len (a := a) (r := t.length - i) fs
    have h2 := O.few
    rw [Nat.pow_succ]; omega
theorem Oth.fin {t : List Bool} {m : Nat} {fs : List (List Bool × Nat)} (O : Oth t m t.length fs) (v : List Bool) : v ∈ (fs.filter fun q => decide (q.2 = 0)).map (·.1) ↔ v.length = t.length ∧ hdist t v = m := by
  rw [List.mem_map]
  constructor
  · rintro ⟨⟨w, n⟩, h, rfl⟩
    rw [List.mem_filter] at h
    obtain ⟨h1, h2, _⟩ := (O.mem w n).mp h.1
    have e : n = 0 := by simpa using h.2
    rw [List.take_length] at h2
    show w.length = t.length ∧ hdist t w = m
    exact ⟨h1, by omega⟩
  · rintro ⟨h1, h2⟩
    refine ⟨(v, 0), List.mem_filter.mpr ⟨(O.mem v 0).mpr ⟨h1, by rw [List.take_length]; omega, by omega⟩, by simp⟩, rfl⟩
end FM

namespace FM
open PySem PySem.Spec PyProof.Rows L2 FD
inductive Wish where
  | loose (x : Str)
  | one
  | many (n : Nat)
section
open PySem.W
end
end FM
namespace FM
open PySem PySem.Spec PyProof.Rows L2 FD
theorem Jw.out {j : Addr} {M M1 : Mem} (h : Jw j M M1) : ∃ M2, Mem.le M2 M1 ∧ Jm j M M2 := by
  obtain ⟨⟨a, b, c, e⟩, k⟩ := h
  refine ⟨M.upd j (FM.jg a b c), fun x o hx => ?_, a, b, c, rfl⟩
  by_cases n : x = j
  · subst n; rw [Mem.upd_same] at hx; rw [e]; exact hx
  · rw [Mem.upd_ne n] at hx; exact k x o n hx
end FM

namespace FM
open PySem PySem.Spec PyProof.Rows L2 FD
end FM

namespace FM
open PySem PySem.Spec PyProof.Rows L2 FD
theorem row_leads {p : Pan} : ∀ {S : List Str} {t : List Bool}, (∀ s ∈ S, s ∈ p.ss) → rowL p (S.map D.str) t = leadsL p.ss p.rs t S
  | [], t, _ => rfl
  | s :: S, t, h => by
    rw [List.map_cons, rowL_cons]
    show (if s ∈ p.ss ∧ good p.ss p.rs (flip t (p.ss.idxOf s)) = true then rowL p (S.map D.str) (flip t (p.ss.idxOf s)) else none) = leadsL p.ss p.rs t (s :: S)
    unfold leadsL
    have hs := h s (by simp)
    by_cases g : good p.ss p.rs (flip t (p.ss.idxOf s)) = true
    · rw [if_pos ⟨hs, g⟩, if_pos g]
      exact row_leads fun x hx => h x (by simp [hx])
    · rw [if_neg (fun z => g z.2), if_neg g]
structure Rwo (p : Pan) (t u : List Bool) (S : List Str) : Prop where
  nd : S.Nodup
  un : ∀ x ∈ S, x ∈ unlikeL p.ss t u
  ld : leadsL p.ss p.rs t S = some (flips p.ss t S)
  gd : good p.ss p.rs (flips p.ss t S) = true
theorem Rwo.nil {p : Pan} {t u : List Bool} (gt : good p.ss p.rs t = true) : Rwo p t u [] := ⟨by simp, by simp, rfl, gt⟩
theorem Rwo.snoc {p : Pan} {t u : List Bool} {S : List Str} {y : Str} (h : Rwo p t u S) (hy : y ∈ unlikeL p.ss t u) (ny : y ∉ S) (g : good p.ss p.rs (flip (flips p.ss t S) (p.ss.idxOf y)) = true) : Rwo p t u (S ++ [y]) := by
  refine ⟨?_, fun x hx => ?_, ?_, by rw [flips_app]; exact g⟩
  · rw [List.nodup_append]
    exact ⟨h.nd, by simp, fun a ha b hb => by simp at hb; subst hb; exact fun e => ny (e ▸ ha)⟩
  · rw [List.mem_append, List.mem_singleton] at hx
    rcases hx with hx | rfl
    · exact h.un x hx
    · exact hy
  · rw [leads_app, h.ld, flips_app]
    show (if good p.ss p.rs (flip (flips p.ss t S) (p.ss.idxOf y)) = true then some (flip (flips p.ss t S) (p.ss.idxOf y)) else none) = _
    rw [if_pos g]
theorem Rwo.all {p : Pan} {t u : List Bool} {S : List Str} (lt : t.length = p.ss.length) (lu : u.length = p.ss.length) (h : Rwo p t u S) (hl : S.length = (unlikeL p.ss t u).length) : rowL p (S.map D.str) t = some u := by
  rw [row_leads fun x hx => ((mem_unlike p.sw.2.2.1 lt lu).mp (h.un x hx)).1, h.ld, flips_all lt lu h.nd h.un hl]
theorem Rwo.len {p : Pan} {t u : List Bool} {S : List Str} (h : Rwo p t u S) : S.length ≤ (unlikeL p.ss t u).length := sub_len h.nd h.un
end FM
namespace FD
open PySem PySem.Spec PyProof.Rows L2
inductive Rel2 {α : Type} (R : α → D → Prop) : List α → List D → Prop
  | nil : Rel2 R [] []
  | cons {a : α} {d : D} {l : List α} {m : List D} (h : R a d) (t : Rel2 R l m) : Rel2 R (a :: l) (d :: m)
theorem Rel2.snoc {α : Type} {R : α → D → Prop} {a : α} {d : D} (h : R a d) : ∀ {l : List α} {m : List D}, Rel2 R l m → Rel2 R (l ++ [a]) (m ++ [d])
  | _, _, .nil => .cons h .nil
  | _, _, .cons h1 t => .cons h1 (t.snoc h)
end FD
namespace FM
open PySem PySem.Spec PyProof.Rows L2 FD
end FM

set_option maxHeartbeats 4000000
namespace L2
open PySem PySem.Spec PyProof.Rows
theorem tuple_mulE (l : Addr) (items : Array Value) (n : Nat) (dd : Option Addr) (sl : Array (Option Value)) (x : Int) (u : Tok) (c0 : (decide (x < -(2 ^ 63)) || decide (x ≥ 2 ^ 63)) = false) (c1 : (items.isEmpty || x == 1) = true) :
    Meets (Builtin.«tuple.__mul__» ⟨[.ref l, .int x u], []⟩) (fun _ R s => s.heap.get? l = some { cls := .type "tuple", dict := dd, data := .seq items n, slots := sl } ∧ R (.ok (.ret (.ref l))) s) :=
  .of_wp fun prog w A R s h => by
    obtain ⟨hp, g, d, tk, os⟩ := s
    obtain ⟨hl, h⟩ := h
    have f1 := AutoSeq1.idx_int
    wp_walk using wpAny_loadPart' hl
    repeat (first
      | (refine wpAny_ite_false (decide_eq_false (by rw [c0]; exact Bool.false_ne_true)) ?_; wp_walk using wpAny_loadPart' hl)
      | (refine wpAny_ite_true (decide_eq_true (by rw [c1])) ?_; wp_walk using wpAny_loadPart' hl))
    exact ⟨_, rfl, h⟩
def rRepE (K : PySem.W.Frag) : R2 := fun x y H Q => ∃ l k, x = .ref l ∧ y = .int k ∧ SqT K H l [] ∧ 2 ≤ k ∧ k ≤ 1000 ∧ Q (.ref l) H
section
variable {X : Cx}
theorem op_repE : OpR X (binaryOp .Mult) (rRepE X.K) := by
  intro pins s σ H x y v u Q I rx ry h
  obtain ⟨l, k, rfl, rfl, hT, h1, h2, q⟩ := h
  cases rx
  obtain ⟨t, rfl⟩ := ry
  obtain ⟨its, r, ⟨⟨cls, dd, data, sl⟩, ho, hc, n, hd⟩, hs⟩ := I.tuple hT
  simp only at hc hd
  subst hc hd
  have hn : its = [] := List.eq_nil_of_length_eq_zero r.length.symm
  subst hn
  have c0 : (decide (k < -(2 ^ 63)) || decide (k ≥ 2 ^ 63)) = false := by
    rw [decide_eq_false (by omega), decide_eq_false (by omega)] <;> rfl
  refine wpAny_binaryOp_repeat_ref (T := "tuple") (U := "int") (by decide) ⟨_, ho, rfl⟩ (fun s' => typeIs_int s' k t) noFill_tuple_mul F.fills_int_mul F.slot_int_rmul repeat_tuple F.slot_int_index.lookup
    (call_meets F.slot_int_rmul (typeIs_int s k t) F.entry_int_rmul (F.args_int_rmul_2 _ _) (int_rmul_tuple k t l _ n dd sl)
      ⟨ho, rfl, ⟨_, ho, rfl⟩, call_meets F.slot_tuple_mul ⟨_, ho, rfl⟩ F.entry_tuple_mul (F.args_tuple_mul_2 _ _) (tuple_mulE l _ n dd sl k t c0 rfl) ⟨ho, ?_⟩⟩)
  exact ⟨.ref l, H, I, rfl, q⟩
end
end L2
namespace FD
open PySem PySem.Spec PyProof.Rows L2
section
variable {X : Cx}
end
end FD

set_option maxHeartbeats 1000000
namespace FM
open PySem PySem.Spec PyProof.Rows L2 FD
end FM

namespace FM
open PySem PySem.Spec PyProof.Rows L2 FD
end FM

namespace FM
open PySem PySem.Spec PyProof.Rows L2 FD
section
variable {nm bk : Str → Str} {T : Str → Bool}
def dl (nm : Str → Str) (T : Str → Bool) (a : Lit) : Lit := ⟨nm a.n, Bool.xor a.s (T a.n)⟩
def dressR (nm : Str → Str) (T : Str → Bool) : Rule → Rule
  | .be a => .be (dl nm T a)
  | .either a b => .either (dl nm T a) (dl nm T b)
  | .needs a b => .needs (dl nm T a) (dl nm T b)
  | .bars a b => .bars (dl nm T a) (dl nm T b)
  | .same _ x y => if T x = T y then .same false (nm x) (nm y) else .unlike false (nm x) (nm y)
  | .unlike _ x y => if T x = T y then .unlike false (nm x) (nm y) else .same false (nm x) (nm y)
theorem dl_op {a : Lit} : dl nm T a.op = (dl nm T a).op := by
  obtain ⟨n, s⟩ := a
  simp only [dl, Lit.op]
  cases s <;> cases T n <;> rfl
theorem mem_dress {r : Rule} {c : Lit × Lit} : c ∈ clauses (dressR nm T r) ↔ ∃ d ∈ clauses r, c = (dl nm T d.1, dl nm T d.2) := by
  cases r with
  | be a => simp [dressR, clauses]
  | either a b => simp [dressR, clauses]
  | needs a b => simp [dressR, clauses, dl_op]
  | bars a b => simp [dressR, clauses, dl_op]
  | same f x y =>
    simp only [dressR]
    cases hx : T x <;> cases hy : T y <;> simp [clauses, dl, hx, hy] <;> first | exact Or.comm | done
  | unlike f x y =>
    simp only [dressR]
    cases hx : T x <;> cases hy : T y <;> simp [clauses, dl, hx, hy] <;> first | exact Or.comm | done
theorem step_dress {rs : List Rule} {x y : Lit} : StepP (rs.map (dressR nm T)) x y ↔ ∃ a b, StepP rs a b ∧ x = dl nm T a ∧ y = dl nm T b := by
  constructor
  · rintro ⟨r, hr, h⟩
    obtain ⟨r0, m0, rfl⟩ := List.mem_map.mp hr
    obtain ⟨c, hc, q⟩ := steps_iff.mp h
    obtain ⟨d, hd, rfl⟩ := mem_dress.mp hc
    rcases q with ⟨q1, q2⟩ | ⟨q1, q2⟩
    · exact ⟨d.1.op, d.2, ⟨r0, m0, steps_iff.mpr ⟨d, hd, .inl ⟨rfl, rfl⟩⟩⟩, by rw [dl_op]; exact q1, q2⟩
    · exact ⟨d.2.op, d.1, ⟨r0, m0, steps_iff.mpr ⟨d, hd, .inr ⟨rfl, rfl⟩⟩⟩, by rw [dl_op]; exact q1, q2⟩
  · rintro ⟨a, b, ⟨r, hr, h⟩, rfl, rfl⟩
    obtain ⟨c, hc, q⟩ := steps_iff.mp h
    refine ⟨dressR nm T r, List.mem_map.mpr ⟨r, hr, rfl⟩, steps_iff.mpr ⟨_, mem_dress.mpr ⟨c, hc, rfl⟩, ?_⟩⟩
    rcases q with ⟨q1, q2⟩ | ⟨q1, q2⟩
    · exact .inl ⟨by rw [q1, dl_op], by rw [q2]⟩
    · exact .inr ⟨by rw [q1, dl_op], by rw [q2]⟩
structure Dr (p q : Pan) (nm bk : Str → Str) (T : Str → Bool) : Prop where
  bk : ∀ x ∈ p.ss, bk (nm x) = x
  ss : ∀ z, z ∈ q.ss ↔ ∃ x ∈ p.ss, nm x = z
  ln : q.ss.length = p.ss.length
  rs : q.rs = p.rs.map (dressR nm T)
variable {p q : Pan}
theorem Dr.inj (d : Dr p q nm bk T) {x y : Str} (hx : x ∈ p.ss) (hy : y ∈ p.ss) (h : nm x = nm y) : x = y := by rw [← d.bk x hx, ← d.bk y hy, h]
theorem Dr.dinj (d : Dr p q nm bk T) {a b : Lit} (hx : a.n ∈ p.ss) (hy : b.n ∈ p.ss) (h : dl nm T a = dl nm T b) : a = b := by
  obtain ⟨n, s⟩ := a
  obtain ⟨m, r⟩ := b
  simp only [dl, Lit.mk.injEq] at h
  have e := d.inj hx hy h.1
  simp only at e
  subst e
  have := h.2
  simp only [Lit.mk.injEq, true_and]
  revert this
  cases s <;> cases r <;> cases T n <;> simp
theorem Dr.need (d : Dr p q nm bk T) {a : Lit} {x : Lit} (ha : a.n ∈ p.ss) (h : Need q.rs (dl nm T a) x) : ∃ b, b.n ∈ p.ss ∧ x = dl nm T b ∧ Need p.rs a b := by
  induction h with
  | refl => exact ⟨a, ha, rfl, .refl _⟩
  | tail _ st ih =>
    obtain ⟨b, hb, rfl, nb⟩ := ih
    rw [d.rs] at st
    obtain ⟨a', c, st', e1, rfl⟩ := step_dress.mp st
    obtain ⟨m1, m2⟩ := step_in p.ru st'
    have := d.dinj hb m1 e1
    subst this
    exact ⟨c, m2, rfl, .tail nb st'⟩
theorem Dr.need_to (d : Dr p q nm bk T) {a b : Lit} (h : Need p.rs a b) : Need q.rs (dl nm T a) (dl nm T b) := by
  induction h with
  | refl => exact .refl _
  | tail _ st ih => exact .tail ih (by rw [d.rs]; exact step_dress.mpr ⟨_, _, st, rfl, rfl⟩)
theorem Dr.need_iff (d : Dr p q nm bk T) {a b : Lit} (ha : a.n ∈ p.ss) (hb : b.n ∈ p.ss) : Need q.rs (dl nm T a) (dl nm T b) ↔ Need p.rs a b := by
  refine ⟨fun h => ?_, d.need_to⟩
  obtain ⟨c, hc, e, n⟩ := d.need ha h
  rw [d.dinj hb hc e]
  exact n
def dt (p q : Pan) (bk : Str → Str) (T : Str → Bool) (t : List Bool) : List Bool := q.ss.map fun z => Bool.xor (val p.ss t (bk z)) (T (bk z))
theorem dt_len {t : List Bool} : (dt p q bk T t).length = q.ss.length := by unfold dt; rw [List.length_map]
theorem val_list {ss : List Str} {f : Str → Bool} {z : Str} (h : z ∈ ss) : val ss (ss.map f) z = f z := by
  unfold val
  have hi := List.idxOf_lt_length_of_mem h
  rw [List.getD_eq_getElem?_getD, List.getElem?_map, List.getElem?_eq_getElem hi]
  simp
theorem Dr.val (d : Dr p q nm bk T) {t : List Bool} {x : Str} (hx : x ∈ p.ss) : val q.ss (dt p q bk T t) (nm x) = Bool.xor (FM.val p.ss t x) (T x) := by
  unfold dt
  rw [val_list ((d.ss _).mpr ⟨x, hx, rfl⟩), d.bk x hx]
theorem Dr.has (d : Dr p q nm bk T) {t : List Bool} {a : Lit} (ha : a.n ∈ p.ss) : hasL q.ss (dt p q bk T t) (dl nm T a) = hasL p.ss t a := by
  unfold hasL
  rw [show (dl nm T a).n = nm a.n from rfl, d.val ha]
  show (Bool.xor (FM.val p.ss t a.n) (T a.n) == Bool.xor a.s (T a.n)) = _
  cases FM.val p.ss t a.n <;> cases a.s <;> cases T a.n <;> rfl
theorem Dr.keeps (d : Dr p q nm bk T) {t : List Bool} {r : Rule} (hr : ruleOk p.ss r = true) : keepsR q.ss (dt p q bk T t) (dressR nm T r) = keepsR p.ss t r := by
  unfold keepsR
  rw [Bool.eq_iff_iff, List.all_eq_true, List.all_eq_true]
  constructor
  · intro h c hc
    have := h _ (mem_dress.mpr ⟨c, hc, rfl⟩)
    obtain ⟨m1, m2⟩ := cl_in hr hc
    unfold keepsC at this ⊢
    rw [d.has m1, d.has m2] at this
    exact this
  · intro h c hc
    obtain ⟨c0, hc0, rfl⟩ := mem_dress.mp hc
    obtain ⟨m1, m2⟩ := cl_in hr hc0
    have := h c0 hc0
    unfold keepsC at this ⊢
    rw [d.has m1, d.has m2]
    exact this
theorem Dr.good (d : Dr p q nm bk T) {t : List Bool} : FM.good q.ss q.rs (dt p q bk T t) = FM.good p.ss p.rs t := by
  unfold FM.good
  rw [d.rs, Bool.eq_iff_iff, List.all_eq_true, List.all_eq_true]
  constructor
  · intro h r hr
    have := h _ (List.mem_map.mpr ⟨r, hr, rfl⟩)
    rw [d.keeps (p.ru r hr)] at this
    exact this
  · intro h r hr
    obtain ⟨r0, m0, rfl⟩ := List.mem_map.mp hr
    rw [d.keeps (p.ru r0 m0)]
    exact h r0 m0
theorem Dr.map_nodup (d : Dr p q nm bk T) {l : List Str} (hl : ∀ x ∈ l, x ∈ p.ss) (nd : l.Nodup) : (l.map nm).Nodup := nodup_map_on (fun a ha b hb e => d.inj (hl a ha) (hl b hb) e) nd
theorem perm_flat {α β : Type} {f g : α → List β} : ∀ {l : List α}, (∀ a ∈ l, (f a).Perm (g a)) → (l.flatMap f).Perm (l.flatMap g)
  | [], _ => .refl _
  | a :: l, h => by
    rw [List.flatMap_cons, List.flatMap_cons]
    exact (h a (by simp)).append (perm_flat fun b hb => h b (by simp [hb]))
theorem perm_mem {l m : List Str} (h1 : l.Nodup) (h2 : m.Nodup) (h : ∀ x, x ∈ l ↔ x ∈ m) : l.Perm m := (List.perm_ext_iff_of_nodup h1 h2).mpr h
theorem Dr.mem_unlike (d : Dr p q nm bk T) {t u : List Bool} (lt : t.length = p.ss.length) (lu : u.length = p.ss.length) {z : Str} : z ∈ unlikeL q.ss (dt p q bk T t) (dt p q bk T u) ↔ ∃ x ∈ unlikeL p.ss t u, nm x = z := by
  rw [FM.mem_unlike q.sw.2.2.1 dt_len dt_len, d.ss]
  have key : ∀ x ∈ p.ss, (FM.val q.ss (dt p q bk T t) (nm x) ≠ FM.val q.ss (dt p q bk T u) (nm x)) ↔ FM.val p.ss t x ≠ FM.val p.ss u x := fun x hx => by
    rw [d.val hx, d.val hx]
    cases FM.val p.ss t x <;> cases FM.val p.ss u x <;> cases T x <;> simp
  constructor
  · rintro ⟨⟨x, hx, rfl⟩, h⟩
    exact ⟨x, (FM.mem_unlike p.sw.2.2.1 lt lu).mpr ⟨hx, (key x hx).mp h⟩, rfl⟩
  · rintro ⟨x, hx, rfl⟩
    obtain ⟨a, b⟩ := (FM.mem_unlike p.sw.2.2.1 lt lu).mp hx
    exact ⟨⟨x, a, rfl⟩, (key x a).mpr b⟩
theorem Dr.unlike_perm (d : Dr p q nm bk T) {t u : List Bool} (lt : t.length = p.ss.length) (lu : u.length = p.ss.length) : (unlikeL q.ss (dt p q bk T t) (dt p q bk T u)).Perm ((unlikeL p.ss t u).map nm) := by
  refine perm_mem (unlike_nodup q.sw.2.2.1 dt_len dt_len) (d.map_nodup (fun x hx => ((FM.mem_unlike p.sw.2.2.1 lt lu).mp hx).1) (unlike_nodup p.sw.2.2.1 lt lu)) fun z => ?_
  rw [d.mem_unlike lt lu, List.mem_map]
def nm2 (nm : Str → Str) (q : Str × Str) : Str × Str := (nm q.1, nm q.2)
theorem Dr.mem_pairs (d : Dr p q nm bk T) {t u : List Bool} (lt : t.length = p.ss.length) (lu : u.length = p.ss.length) {z : Str × Str} : z ∈ pairsL q (dt p q bk T t) (dt p q bk T u) ↔ ∃ x ∈ pairsL p t u, nm2 nm x = z := by
  have mu := fun {x} => FM.mem_unlike p.sw.2.2.1 lt lu (x := x)
  have key : ∀ x y, x ∈ p.ss → y ∈ p.ss → (inW q.ss q.rs ⟨nm y, FM.val q.ss (dt p q bk T u) (nm y)⟩ ⟨nm x, FM.val q.ss (dt p q bk T u) (nm x)⟩ = true ↔ inW p.ss p.rs ⟨y, FM.val p.ss u y⟩ ⟨x, FM.val p.ss u x⟩ = true) := fun x y hx hy => by
    rw [inW_iff q.ru (a := ⟨nm y, _⟩) ((d.ss _).mpr ⟨y, hy, rfl⟩), inW_iff p.ru (a := ⟨y, _⟩) hy, d.val hx, d.val hy]
    exact d.need_iff (a := ⟨y, FM.val p.ss u y⟩) (b := ⟨x, FM.val p.ss u x⟩) hy hx
  rw [FM.mem_pairs]
  constructor
  · rintro ⟨a, b, c, e⟩
    obtain ⟨x, hx, ex⟩ := (d.mem_unlike lt lu).mp a
    obtain ⟨y, hy, ey⟩ := (d.mem_unlike lt lu).mp b
    rw [← ex, ← ey] at e c
    exact ⟨(x, y), FM.mem_pairs.mpr ⟨hx, hy, fun z => c (congrArg nm z), (key x y (mu.mp hx).1 (mu.mp hy).1).mp e⟩, by unfold nm2; rw [ex, ey]⟩
  · rintro ⟨⟨x, y⟩, h, rfl⟩
    obtain ⟨a, b, c, e⟩ := FM.mem_pairs.mp h
    refine ⟨(d.mem_unlike lt lu).mpr ⟨x, a, rfl⟩, (d.mem_unlike lt lu).mpr ⟨y, b, rfl⟩, fun z => c (d.inj (mu.mp a).1 (mu.mp b).1 z), (key x y (mu.mp a).1 (mu.mp b).1).mpr e⟩
theorem Dr.pairs_perm (d : Dr p q nm bk T) {t u : List Bool} (lt : t.length = p.ss.length) (lu : u.length = p.ss.length) : (pairsL q (dt p q bk T t) (dt p q bk T u)).Perm ((pairsL p t u).map (nm2 nm)) := by
  have mu := fun {x} => FM.mem_unlike p.sw.2.2.1 lt lu (x := x)
  refine (List.perm_ext_iff_of_nodup (pairs_nodup dt_len dt_len) ?_).mpr fun z => by rw [d.mem_pairs lt lu, List.mem_map]
  refine nodup_map_on (fun a ha b hb e => ?_) (pairs_nodup lt lu)
  obtain ⟨a1, a2, _, _⟩ := FM.mem_pairs.mp ha
  obtain ⟨b1, b2, _, _⟩ := FM.mem_pairs.mp hb
  unfold nm2 at e
  rw [Prod.mk.injEq] at e
  exact Prod.ext (d.inj (mu.mp a1).1 (mu.mp b1).1 e.1) (d.inj (mu.mp a2).1 (mu.mp b2).1 e.2)
theorem lv_map {U U' : List Str} {P P' : List (Str × Str)} {f : Str → Str} (inj : ∀ x ∈ U, ∀ y ∈ U, f x = f y → x = y) (hU : U'.Perm (U.map f)) (hP : P'.Perm (P.map (nm2 f))) (hPU : ∀ q ∈ P, q.1 ∈ U ∧ q.2 ∈ U) : ∀ n, (lv U' P' n).Perm ((lv U P n).map (List.map f))
  | 0 => by simp [lv]
  | n + 1 => by
    have ih := lv_map inj hU hP hPU n
    show ((lv U' P' n).flatMap fun S => (nxt U' P' S).map fun y => S ++ [y]).Perm (((lv U P n).flatMap fun S => (nxt U P S).map fun y => S ++ [y]).map (List.map f))
    refine (ih.flatMap_right _).trans ?_
    rw [List.map_flatMap, List.flatMap_map]
    refine perm_flat fun S hS => ?_
    obtain ⟨_, _, sU⟩ := lv_mem hS
    rw [List.map_map]
    have e : (nxt U' P' (S.map f)).Perm ((nxt U P S).map f) := by
      unfold nxt
      refine (hU.filter _).trans ?_
      rw [List.filter_map]
      refine List.Perm.of_eq (congrArg _ (List.filter_congr fun y hy => ?_))
      have m1 : ∀ x ∈ U, (f x ∈ S.map f ↔ x ∈ S) := fun x hx => by
        rw [List.mem_map]
        exact ⟨fun ⟨z, hz, e⟩ => by rw [← inj z (sU z hz) x hx e]; exact hz, fun h => ⟨x, h, rfl⟩⟩
      have a1 : (P'.all fun q => !decide (q.2 = f y) || decide (q.1 ∈ S.map f)) = (P.map (nm2 f)).all fun q => !decide (q.2 = f y) || decide (q.1 ∈ S.map f) := by
        rw [Bool.eq_iff_iff, List.all_eq_true, List.all_eq_true]
        exact ⟨fun h q hq => h q (hP.mem_iff.mpr hq), fun h q hq => h q (hP.mem_iff.mp hq)⟩
      show (!decide (f y ∈ S.map f) && P'.all fun q => !decide (q.2 = f y) || decide (q.1 ∈ S.map f)) = _
      rw [a1, List.all_map]
      simp only [m1 y hy]
      congr 1
      rw [Bool.eq_iff_iff, List.all_eq_true, List.all_eq_true]
      have eqv : ∀ q ∈ P, ((fun q : Str × Str => !decide (q.2 = f y) || decide (q.1 ∈ S.map f)) (nm2 f q)) = (!decide (q.2 = y) || decide (q.1 ∈ S)) := fun q hq => by
        obtain ⟨u1, u2⟩ := hPU q hq
        show (!decide (f q.2 = f y) || decide (f q.1 ∈ S.map f)) = _
        have e2 : (f q.2 = f y) ↔ q.2 = y := ⟨fun e => inj _ u2 _ hy e, fun e => by rw [e]⟩
        simp only [m1 _ u1, e2]
      exact ⟨fun h q hq => by rw [← eqv q hq]; exact h q hq, fun h q hq => by have := h q hq; rw [← eqv q hq] at this; exact this⟩
    refine (e.map _).trans ?_
    rw [List.map_map]
    refine List.Perm.of_eq (List.map_congr_left fun y _ => ?_)
    simp
theorem Dr.many (d : Dr p q nm bk T) {t u : List Bool} (lt : t.length = p.ss.length) (lu : u.length = p.ss.length) : manyL q (dt p q bk T t) (dt p q bk T u) = manyL p t u := by
  unfold manyL
  have mu := fun {x} => FM.mem_unlike p.sw.2.2.1 lt lu (x := x)
  have e := d.unlike_perm lt lu
  rw [show (unlikeL q.ss (dt p q bk T t) (dt p q bk T u)).length = (unlikeL p.ss t u).length by rw [e.length_eq, List.length_map]]
  have := lv_map (fun x hx y hy h => d.inj (mu.mp hx).1 (mu.mp hy).1 h) e (d.pairs_perm lt lu) (fun z hz => ⟨(FM.mem_pairs.mp hz).1, (FM.mem_pairs.mp hz).2.1⟩) (unlikeL p.ss t u).length
  rw [this.length_eq, List.length_map]
end
end FM

namespace FD
open PySem PySem.Spec PyProof.Rows L2
end FD
namespace FM
open PySem PySem.Spec PyProof.Rows L2 FD
theorem add_tf {x : D} {l : List D} {k : D → Prop} (hl : l.length ≤ 16777215) : got (addD (.tup [x]) (.ftp l)) k = k (.tup (x :: l)) := by
  have e : addD (.tup [x]) (.ftp l) = some (.tup (x :: l)) := by
    show (if [x].length + l.length ≤ 16777216 then some (if [x] = [] then D.ftp l else if l = [] then .tup [x] else .tup ([x] ++ l)) else none) = _
    rw [if_pos (by simp; omega), if_neg (by simp)]
    cases l with
    | nil => rfl
    | cons a l => rw [if_neg (by simp)]; rfl
  rw [e]
  rfl
end FM

namespace FM
open PySem PySem.Spec PyProof.Rows L2 FD
def pairsU : List Str → List (Str × Str)
  | [] => []
  | x :: r => r.map (fun y => (x, y)) ++ pairsU r
def beR (s : Str) : List Rule := [.be ⟨s, true⟩, .be ⟨s, false⟩]
def eitherR (q : Str × Str) : List Rule := [.either ⟨q.1, true⟩ ⟨q.2, true⟩, .either ⟨q.1, true⟩ ⟨q.2, false⟩, .either ⟨q.1, false⟩ ⟨q.2, true⟩, .either ⟨q.1, false⟩ ⟨q.2, false⟩]
def allR (ss : List Str) : List Rule := ss.flatMap beR ++ (pairsU ss).flatMap eitherR
def tightR (ss : List Str) (vs : List (List Bool)) : List Rule := (allR ss).filter fun r => vs.all fun t => keepsR ss t r
theorem pairsU_all : ∀ {ss : List Str} {x y : Str}, x ∈ ss → y ∈ ss → x ≠ y → (x, y) ∈ pairsU ss ∨ (y, x) ∈ pairsU ss
  | a :: r, x, y, hx, hy, ne => by
    rcases List.mem_cons.mp hx with e1 | hx2
    · rcases List.mem_cons.mp hy with e2 | hy2
      · exact absurd (e1.trans e2.symm) ne
      · exact .inl (List.mem_append_left _ (List.mem_map.mpr ⟨y, hy2, by rw [e1]⟩))
    · rcases List.mem_cons.mp hy with e2 | hy2
      · exact .inr (List.mem_append_left _ (List.mem_map.mpr ⟨x, hx2, by rw [e2]⟩))
      · rcases pairsU_all hx2 hy2 ne with h | h
        · exact .inl (List.mem_append_right _ h)
        · exact .inr (List.mem_append_right _ h)
def mid1 (a b c : Bool) : Bool := if a = b ∨ a = c then a else b
def midL (a b c : List Bool) : List Bool := (List.range a.length).map fun k => mid1 (a.getD k false) (b.getD k false) (c.getD k false)
theorem mid_len {a b c : List Bool} : (midL a b c).length = a.length := by unfold midL; simp
theorem mid_val {ss : List Str} {a b c : List Bool} (la : a.length = ss.length) {x : Str} (hx : x ∈ ss) : val ss (midL a b c) x = mid1 (val ss a x) (val ss b x) (val ss c x) := by
  unfold val midL
  have hi := List.idxOf_lt_length_of_mem hx
  rw [List.getD_eq_getElem?_getD, List.getElem?_map, List.getElem?_range (by omega)]
  rfl
theorem two_places {ss : List Str} {t : List Bool} {C : List Bool → Prop} (hl : ∀ u, C u → u.length = ss.length) (cm : ∀ a b c, C a → C b → C c → C (midL a b c)) (ne : ∃ u, C u) (h2 : ∀ x ∈ ss, ∀ y ∈ ss, ∃ u, C u ∧ val ss u x = val ss t x ∧ val ss u y = val ss t y) :
    ∀ n (S : List Str), S.length ≤ n → (∀ x ∈ S, x ∈ ss) → ∃ u, C u ∧ ∀ x ∈ S, val ss u x = val ss t x
  | _, [], _, _ => by obtain ⟨u, hu⟩ := ne; exact ⟨u, hu, by simp⟩
  | _, [x], _, hS => by
    obtain ⟨u, hu, e, _⟩ := h2 x (hS x (by simp)) x (hS x (by simp))
    exact ⟨u, hu, by simpa using e⟩
  | _, [x, y], _, hS => by
    obtain ⟨u, hu, e1, e2⟩ := h2 x (hS x (by simp)) y (hS y (by simp))
    refine ⟨u, hu, fun z hz => ?_⟩
    simp only [List.mem_cons, List.not_mem_nil, or_false] at hz
    rcases hz with rfl | rfl
    · exact e1
    · exact e2
  | 0, _ :: _ :: _ :: _, h, _ => by simp at h
  | n + 1, x :: y :: z :: R, h, hS => by
    simp only [List.length_cons] at h
    obtain ⟨a, ha, ea⟩ := two_places hl cm ne h2 n (y :: z :: R) (by simp; omega) fun w hw => hS w (by simp at hw ⊢; grind)
    obtain ⟨b, hb, eb⟩ := two_places hl cm ne h2 n (x :: z :: R) (by simp; omega) fun w hw => hS w (by simp at hw ⊢; grind)
    obtain ⟨c, hc, ec⟩ := two_places hl cm ne h2 n (x :: y :: R) (by simp; omega) fun w hw => hS w (by simp at hw ⊢; grind)
    refine ⟨midL a b c, cm a b c ha hb hc, fun w hw => ?_⟩
    rw [mid_val (hl a ha) (hS w hw)]
    unfold mid1
    simp only [List.mem_cons] at hw
    rcases hw with rfl | rfl | rfl | hw
    · have e1 := eb w (by simp)
      have e2 := ec w (by simp)
      rw [e1, e2]
      cases val ss a w <;> cases val ss t w <;> simp
    · have e1 := ea w (by simp)
      have e2 := ec w (by simp)
      rw [e1, e2]; simp
    · have e1 := ea w (by simp)
      have e2 := eb w (by simp)
      rw [e1, e2]; simp
    · have e1 := ea w (by simp [hw])
      have e2 := eb w (by simp [hw])
      rw [e1, e2]; simp
theorem tight_closed {ss : List Str} {vs : List (List Bool)} {t : List Bool} {C : List Bool → Prop} (nd : ss.Nodup) (hne : vs ≠ []) (hv : ∀ v ∈ vs, C v) (hl : ∀ u, C u → u.length = ss.length) (cm : ∀ a b c, C a → C b → C c → C (midL a b c)) (lt : t.length = ss.length) (gt : good ss (tightR ss vs) t = true) : C t := by
  have key : ∀ r ∈ allR ss, (∀ v ∈ vs, keepsR ss v r = true) → keepsR ss t r = true := fun r hr h => by
    unfold good at gt
    rw [List.all_eq_true] at gt
    refine gt r ?_
    unfold tightR
    rw [List.mem_filter, List.all_eq_true]
    exact ⟨hr, h⟩
  have h2 : ∀ x ∈ ss, ∀ y ∈ ss, ∃ u, C u ∧ val ss u x = val ss t x ∧ val ss u y = val ss t y := fun x hx y hy => by
    apply Classical.byContradiction
    intro no
    have miss : ∀ v ∈ vs, ¬ (val ss v x = val ss t x ∧ val ss v y = val ss t y) := fun v m e => no ⟨v, hv v m, e⟩
    by_cases e : x = y
    · subst e
      have hr : (Rule.be ⟨x, !val ss t x⟩) ∈ allR ss := List.mem_append_left _ (List.mem_flatMap.mpr ⟨x, hx, by cases val ss t x <;> simp [beR]⟩)
      have := key _ hr fun v m => by
        have := miss v m
        simp only [and_self] at this
        simp [keepsR, clauses, keepsC, hasL]
        cases h1 : val ss v x <;> cases h2 : val ss t x <;> simp_all
      simp [keepsR, clauses, keepsC, hasL] at this
    · have pick : ∀ x y : Str, (x, y) ∈ pairsU ss → (∀ v ∈ vs, ¬ (val ss v x = val ss t x ∧ val ss v y = val ss t y)) → False := fun x y hq miss => by
        have hr : (Rule.either ⟨x, !val ss t x⟩ ⟨y, !val ss t y⟩) ∈ allR ss := List.mem_append_right _ (List.mem_flatMap.mpr ⟨(x, y), hq, by cases val ss t x <;> cases val ss t y <;> simp [eitherR]⟩)
        have := key _ hr fun v m => by
          have := miss v m
          simp [keepsR, clauses, keepsC, hasL]
          cases h1 : val ss v x <;> cases h2 : val ss t x <;> cases h3 : val ss v y <;> cases h4 : val ss t y <;> simp_all
        simp [keepsR, clauses, keepsC, hasL] at this
      rcases pairsU_all hx hy e with h | h
      · exact pick x y h miss
      · exact pick y x h fun v m z => miss v m ⟨z.2, z.1⟩
  obtain ⟨v, r, e⟩ := List.exists_cons_of_ne_nil hne
  obtain ⟨u, hu, eu⟩ := two_places hl cm ⟨v, hv v (by rw [e]; simp)⟩ h2 _ ss (Nat.le_refl _) fun x h => h
  rw [← ext_val nd (hl u hu) lt eu]
  exact hu
theorem tight_own {ss : List Str} {vs : List (List Bool)} {v : List Bool} (h : v ∈ vs) : good ss (tightR ss vs) v = true := by
  unfold good tightR
  rw [List.all_eq_true]
  intro r hr
  rw [List.mem_filter, List.all_eq_true] at hr
  exact hr.2 v h
end FM

namespace FM
open PySem PySem.Spec PyProof.Rows L2 FD
end FM

set_option maxHeartbeats 3200000
namespace FD
open PySem PySem.Spec PyProof.Rows L2 PySem.Froz
def txV (v : Value) : Str := match v with | .str k _ => k | _ => Str.empty
def TxS (P : Program) (w : World) (h : Heap) (a : Addr) (l : List Str) : Prop :=
  ∃ D : SD, h.get? a = some (sObj "set" D) ∧ TxOk P w D l ∧ (∀ e ∈ D.1.toList, ∃ k u, e.2 = Value.str k u) ∧ (D.1.toList.map fun e => txV e.2).Perm l ∧ Ris D.2.2.place.toList ∧ (w.params.followText "set-order" = true ∨ D.2.2.led = true)
section
variable {P : Program} {w : World} {A : Around} {E : Value → Shared → Prop} {s : Shared} {a : Addr} {l : List Str}
theorem TxS.at {h h' : Heap} (R : TxS P w h a l) (k : ∀ o, h.get? a = some o → h'.get? a = some o) : TxS P w h' a l := by
  obtain ⟨D, ho, r⟩ := R
  exact ⟨D, k _ ho, r⟩
end
section
variable {prog : Program} {w : World} {A : Around} {R : Result → Shared → Prop} {I : Addr} {fp wr : List Addr} {G : Array GenState → Array GenState → Prop} {n : Nat} {P : Nat → Value → Prop} {St : Nat → Shared → Prop}
end
section
variable {prog : Program} {w : World} {A : Around} {E : Value → Shared → Prop} {s : Shared}
end
end FD

namespace FD
open PySem PySem.Spec PyProof.Rows L2 PySem.Froz
section
variable {X : Cx} {e : Expr} {we : WE} {ta : TE} {p p2 q pos : Pos}
def wSetSort (we : WE) : WE := fun Γ M post => we Γ M fun d M1 => ∃ xs : List Str, d = .tup (xs.map D.str) ∧ xs.length < 64 ∧ ∀ ys : List Str, ys.Perm (ddp xs) → sortedS ys = true → post (.lst (ys.map D.str)) M1
theorem wSetSort_e (we : WE) : FD.wSetSort we = (fun Γ M post => we Γ M fun d M1 => ∃ xs : List Str, d = .tup (xs.map D.str) ∧ xs.length < 64 ∧ ∀ ys : List Str, ys.Perm (ddp xs) → sortedS ys = true → post (.lst (ys.map D.str)) M1 : WE) := rfl
end
end FD

set_option maxHeartbeats 1000000
namespace FM
open PySem PySem.Spec PyProof.Rows L2 FD
theorem mid_at {a b c : List Bool} {k : Nat} (h : k < a.length) : (midL a b c)[k]? = some (mid1 (a.getD k false) (b.getD k false) (c.getD k false)) := by
  unfold midL
  rw [List.getElem?_map, List.getElem?_range h]
  rfl
theorem mid_ext {a b c d : List Bool} (l : d.length = a.length) (h : ∀ k, k < a.length → mid1 (a.getD k false) (b.getD k false) (c.getD k false) = d.getD k false) : midL a b c = d := by
  apply List.ext_getElem?
  intro k
  by_cases hk : k < a.length
  · rw [mid_at hk, h k hk, List.getD_eq_getElem?_getD, List.getElem?_eq_getElem (by omega)]
    rfl
  · rw [List.getElem?_eq_none (by rw [mid_len]; omega), List.getElem?_eq_none (by omega)]
theorem mid_aab {a b : List Bool} : midL a a b = a := mid_ext rfl fun k _ => by simp [mid1]
theorem mid_aba {a b : List Bool} : midL a b a = a := mid_ext rfl fun k _ => by simp [mid1]
theorem mid_abb {a b : List Bool} (l : b.length = a.length) : midL a b b = b := mid_ext l fun k _ => by
  unfold mid1
  generalize a.getD k false = x
  generalize b.getD k false = y
  revert x y; decide
theorem mid_sw {a b c : List Bool} (l : b.length = a.length) : midL a b c = midL b a c := mid_ext (by rw [mid_len, l]) fun k hk => by
  rw [List.getD_eq_getElem?_getD (l := midL b a c), mid_at (by omega), Option.getD_some]
  unfold mid1
  generalize a.getD k false = x
  generalize b.getD k false = y
  generalize c.getD k false = z
  revert x y z; decide
theorem mid_sw2 {a b c : List Bool} : midL a b c = midL a c b := mid_ext (by rw [mid_len]) fun k hk => by
  rw [List.getD_eq_getElem?_getD (l := midL a c b), mid_at hk, Option.getD_some]
  unfold mid1
  generalize a.getD k false = x
  generalize b.getD k false = y
  generalize c.getD k false = z
  revert x y z; decide
def midF (F : List (List Bool)) (k j i : Nat) : List Bool := midL (F.getD k []) (F.getD j []) (F.getD i [])
theorem mid_closed {F : List (List Bool)} {n : Nat} (hl : ∀ u ∈ F, u.length = n) (h : ∀ k j i, i < j → j < k → k < F.length → midF F k j i ∈ F) (a b c : List Bool) (ha : a ∈ F) (hb : b ∈ F) (hc : c ∈ F) : midL a b c ∈ F := by
  have pos : ∀ u ∈ F, ∃ k, k < F.length ∧ F.getD k [] = u := fun u hu => by
    obtain ⟨k, hk, e⟩ := List.mem_iff_getElem.mp hu
    exact ⟨k, hk, by rw [List.getD_eq_getElem?_getD, List.getElem?_eq_getElem hk, e]; rfl⟩
  obtain ⟨x, hx, ex⟩ := pos a ha
  obtain ⟨y, hy, ey⟩ := pos b hb
  obtain ⟨z, hz, ez⟩ := pos c hc
  have la := hl a ha
  have lb := hl b hb
  have lc := hl c hc
  have key := fun k j i h1 h2 h3 => h k j i h1 h2 h3
  unfold midF at key
  rcases Nat.lt_trichotomy x y with h1 | h1 | h1
  · rcases Nat.lt_trichotomy y z with h2 | h2 | h2
    · have := key z y x h1 h2 hz
      rw [ex, ey, ez] at this
      rw [mid_sw (by omega), mid_sw2, mid_sw (by omega), mid_sw2]
      rw [mid_sw2, mid_sw (by omega)]
      first | exact this | (rw [mid_sw2]; exact this) | (rw [mid_sw (by omega)]; exact this)
    · rw [show c = b by rw [← ey, ← ez, h2], mid_abb (by omega)]; exact hb
    · rcases Nat.lt_trichotomy x z with h3 | h3 | h3
      · have := key y z x h3 h2 hy
        rw [ex, ey, ez] at this
        rw [mid_sw (by omega), mid_sw2]; exact this
      · rw [show c = a by rw [← ex, ← ez, h3], mid_aba]; exact ha
      · have := key y x z h3 h1 hy
        rw [ex, ey, ez] at this
        rw [mid_sw (by omega)]; exact this
  · rw [show b = a by rw [← ex, ← ey, h1], mid_aab]; exact ha
  · rcases Nat.lt_trichotomy x z with h2 | h2 | h2
    · have := key z x y h1 h2 hz
      rw [ex, ey, ez] at this
      rw [mid_sw2, mid_sw (by omega)]; exact this
    · rw [show c = a by rw [← ex, ← ez, h2], mid_aba]; exact ha
    · rcases Nat.lt_trichotomy y z with h3 | h3 | h3
      · have := key x z y h3 h2 hx
        rw [ex, ey, ez] at this
        rw [mid_sw2]; exact this
      · rw [show c = b by rw [← ey, ← ez, h3], mid_abb (by omega)]; exact hb
      · have := key x y z h3 h1 hx
        rw [ex, ey, ez] at this
        exact this
theorem lift_mapF {α β : Type} {f : α → β} : ∀ {ys : List β}, (∀ y ∈ ys, ∃ x, y = f x) → ∃ F : List α, ys = F.map f
  | [], _ => ⟨[], rfl⟩
  | y :: ys, h => by
    obtain ⟨x, rfl⟩ := h y (by simp)
    obtain ⟨F, rfl⟩ := lift_mapF (ys := ys) fun z hz => h z (by simp [hz])
    exact ⟨x :: F, rfl⟩
theorem map_injF {α β : Type} {f : α → β} (hf : ∀ {x y}, f x = f y → x = y) : ∀ {l m : List α}, l.map f = m.map f → l = m
  | [], [], _ => rfl
  | [], _ :: _, h => by simp at h
  | _ :: _, [], h => by simp at h
  | a :: l, b :: m, h => by
    simp only [List.map_cons, List.cons.injEq] at h
    rw [hf h.1, map_injF hf h.2]
theorem mem_setS {F : List (List Bool)} {u : List Bool} : setS u ∈ F.map setS ↔ u ∈ F := by
  rw [List.mem_map]
  constructor
  · rintro ⟨x, hx, e⟩
    rw [← setS_inj.mp e]; exact hx
  · exact fun h => ⟨u, h, rfl⟩
theorem setS_nodup {F : List (List Bool)} : (F.map setS).Nodup ↔ F.Nodup := by
  constructor
  · intro h
    unfold List.Nodup at *
    rw [List.pairwise_map] at h
    exact h.imp fun hab e => hab (by rw [e])
  · intro h
    unfold List.Nodup at *
    rw [List.pairwise_map]
    exact h.imp fun hab e => hab (setS_inj.mp e)
structure Fnd (ss : List Str) (vs F : List (List Bool)) : Prop where
  up : sortedS (F.map setS) = true
  nd : F.Nodup
  own : ∀ v ∈ vs, v ∈ F
  ok : ∀ u ∈ F, u.length = ss.length ∧ good ss (tightR ss vs) u = true
theorem ev_nodup {n : Nat} (h : n ≤ 6) : (ev n).Nodup := ((ev_perm ⟨n, by omega⟩).nodup_iff).mpr (every_nodup _)
theorem Fnd.small {ss : List Str} {vs F : List (List Bool)} (sl : ss.length ≤ 5) (nd : F.Nodup) (ok : ∀ u ∈ F, u.length = ss.length ∧ good ss (tightR ss vs) u = true) : F.length ≤ 32 := by
  have h1 : (goodsL ss (tightR ss vs)).length ≤ 32 := by
    refine Nat.le_trans (List.length_filter_le _ _) ?_
    rw [every_len]
    exact Nat.pow_le_pow_right (by omega) sl
  have h2 := sub_len (l := F.map setS) (m := (goodsL ss (tightR ss vs)).map setS) (setS_nodup.mpr nd) fun x hx => by
    obtain ⟨u, hu, rfl⟩ := List.mem_map.mp hx
    exact mem_setS.mpr (mem_goods.mpr (ok u hu))
  rw [List.length_map, List.length_map] at h2
  exact Nat.le_trans h2 h1
theorem Fnd.done {ss : List Str} {vs F : List (List Bool)} (f : Fnd ss vs F) (nd : ss.Nodup) (sl : ss.length ≤ 5) (hne : vs ≠ []) (h : ∀ k j i, i < j → j < k → k < F.length → midF F k j i ∈ F) : F = goodsL ss (tightR ss vs) := by
  have cm := mid_closed (fun u hu => (f.ok u hu).1) h
  have all : ∀ t, t ∈ F ↔ t ∈ (ev ss.length).filter (good ss (tightR ss vs)) := fun t => by
    rw [List.mem_filter, mem_ev]
    constructor
    · exact f.ok t
    · rintro ⟨a, b⟩
      exact tight_closed (C := fun u => u ∈ F) nd hne f.own (fun u hu => (f.ok u hu).1) (fun a b c => cm a b c) a b
  have pm : F.Perm ((ev ss.length).filter (good ss (tightR ss vs))) := (List.perm_ext_iff_of_nodup f.nd ((ev_nodup (by omega)).filter _)).mpr fun t => all t
  exact map_injF (fun e => setS_inj.mp e) (goods_sorted (by omega) (pm.map setS) f.up)
theorem Fnd.start {ss : List Str} {vs : List (List Bool)} {ys : List Str} (hv : ∀ v ∈ vs, v.length = ss.length) (pm : ys.Perm (ddp (vs.map setS))) (so : sortedS ys = true) : ∃ F, ys = F.map setS ∧ Fnd ss vs F := by
  have mem : ∀ y, y ∈ ys ↔ y ∈ vs.map setS := fun y => by
    rw [pm.mem_iff]
    unfold ddp
    rw [ddp_mem]; simp
  obtain ⟨F, rfl⟩ := lift_mapF (f := setS) (ys := ys) fun y hy => by
    obtain ⟨u, _, rfl⟩ := List.mem_map.mp ((mem y).mp hy)
    exact ⟨u, rfl⟩
  refine ⟨F, rfl, so, setS_nodup.mp (pm.nodup_iff.mpr (ddp_nodup (by simp))), fun v hv => mem_setS.mp ((mem _).mpr (mem_setS.mpr hv)), fun u hu => ?_⟩
  have m := mem_setS.mp ((mem _).mp (mem_setS.mpr hu))
  exact ⟨hv u m, tight_own m⟩
theorem Fnd.pos {ss : List Str} {vs F : List (List Bool)} (f : Fnd ss vs F) (hne : vs ≠ []) : 0 < F.length := by
  obtain ⟨v, r, e⟩ := List.exists_cons_of_ne_nil hne
  exact List.length_pos_of_mem (f.own v (by rw [e]; simp))
structure Frs (ss : List Str) (vs F G : List (List Bool)) (K J I : Nat) : Prop where
  nd : (F ++ G).Nodup
  ok : ∀ u ∈ F ++ G, u.length = ss.length ∧ good ss (tightR ss vs) u = true
  tld : ∀ k j i, i < j → j < k → k < F.length → (k < K ∨ k = K ∧ (j < J ∨ j = J ∧ i < I)) → midF F k j i ∈ F ++ G
section
variable {ss : List Str} {vs F G : List (List Bool)} {K J I : Nat}
theorem Frs.new (f : Fnd ss vs F) : Frs ss vs F [] 0 0 0 := ⟨by rw [List.append_nil]; exact f.nd, by rw [List.append_nil]; exact f.ok, fun k j i h1 h2 h3 h4 => by omega⟩
theorem Frs.inner (f : Frs ss vs F G K J J) : Frs ss vs F G K (J + 1) 0 := ⟨f.nd, f.ok, fun k j i h1 h2 h3 h4 => f.tld k j i h1 h2 h3 (by omega)⟩
theorem Frs.outer (f : Frs ss vs F G K K 0) : Frs ss vs F G (K + 1) 0 0 := ⟨f.nd, f.ok, fun k j i h1 h2 h3 h4 => f.tld k j i h1 h2 h3 (by omega)⟩
theorem Frs.len (f : Frs ss vs F G K J I) (sl : ss.length ≤ 5) : F.length + G.length ≤ 32 := by
  rw [← List.length_append]; exact Fnd.small sl f.nd f.ok
theorem Frs.done (f : Frs ss vs F [] F.length 0 0) : ∀ k j i, i < j → j < k → k < F.length → midF F k j i ∈ F := fun k j i h1 h2 h3 => by
  have := f.tld k j i h1 h2 h3 (.inl h3)
  rwa [List.append_nil] at this
theorem Frs.next (f0 : Fnd ss vs F) (f : Frs ss vs F G K J I) {ys : List Str} (pm : ys.Perm ((F ++ G).map setS)) (so : sortedS ys = true) : ∃ F', ys = F'.map setS ∧ Fnd ss vs F' ∧ F'.length = F.length + G.length := by
  obtain ⟨F', rfl⟩ := lift_mapF (f := setS) (ys := ys) fun y hy => by
    obtain ⟨u, _, rfl⟩ := List.mem_map.mp (pm.mem_iff.mp hy)
    exact ⟨u, rfl⟩
  have mem : ∀ u, u ∈ F' ↔ u ∈ F ++ G := fun u => by rw [← mem_setS, pm.mem_iff, mem_setS]
  refine ⟨F', rfl, ⟨so, setS_nodup.mp (pm.nodup_iff.mpr (setS_nodup.mpr f.nd)), fun v hv => (mem v).mpr (List.mem_append_left _ (f0.own v hv)), fun u hu => f.ok u ((mem u).mp hu)⟩, ?_⟩
  have := pm.length_eq
  simpa using this
end
end FM

namespace FM
open PySem PySem.Spec PyProof.Rows L2 FD
def litW (x : Str) : D := .tup [.str (cutS x (some 1) none), .str (cutS x none (some 1))]
def rowD (w : Str) (ws : List Str) : D := if w ∈ [("same" : Str), "unlike"] then .ftp ((w :: ws).map D.str) else .tup (.str w :: ws.map litW)
def wordsD : List Str → D
  | [] => .tup []
  | w :: ws => rowD w ws
theorem jl_count {sep : List Nat} (h : 1 ≤ sep.length) : ∀ p : List (List Nat), p.length ≤ (jl sep p).length + 1
  | [] => by simp
  | [x] => by simp
  | x :: y :: r => by
    have := jl_count h (y :: r)
    rw [jl_cons2, List.length_append, List.length_append]
    simp only [List.length_cons] at this ⊢
    omega
theorem split_count {s y : Str} (h : 1 ≤ y.length := by decide) : (Txt.split s y).length ≤ s.length + 1 := by
  have e := congrArg (fun s : Str => s.cps.toList) (StrLaws.join_split s y)
  simp only [join_cps] at e
  have := jl_count (sep := y.cps.toList) h ((Txt.split s y).map fun s => s.cps.toList)
  rw [e, List.length_map] at this
  exact this
def RowOk (d : D) : Prop := (∃ r, d = ruleD r) ∨ (∃ n, calm n d = true) ∨ ∃ w ws, d = .ftp ((w :: ws).map D.str) ∧ w ∈ [("same" : Str), "unlike"]
theorem RowOk.words {s : Str} (hs : s.length ≤ 16777000) : RowOk (wordsD (Txt.split s " ")) := by
  cases e : Txt.split s " " with
  | nil => exact absurd e split_ne
  | cons w ws =>
    show RowOk (rowD w ws)
    unfold rowD
    split
    · rename_i m
      exact .inr (.inr ⟨w, ws, rfl, m⟩)
    · have pl : ∀ x ∈ w :: ws, x.length ≤ s.length := fun x hx => (split_part (x := s) (y := " ") (by rw [e]; exact hx)).2
      refine .inr (.inl ⟨ws.length + s.length + 5, calm_tupI (by simp; omega) fun x hx => ?_⟩)
      rcases List.mem_cons.mp hx with rfl | hx
      · exact decide_eq_true (by have := pl w (by simp); omega)
      · obtain ⟨y, hy, rfl⟩ := List.mem_map.mp hx
        have ly := pl y (List.mem_cons_of_mem _ hy)
        refine calm_tupI (by simp <;> omega) fun z hz => ?_
        simp only [List.mem_cons, List.not_mem_nil, or_false] at hz
        rcases hz with rfl | rfl
        · exact decide_eq_true (by have := cutS_length y (some 1) none; omega)
        · exact decide_eq_true (by have := cutS_length y none (some 1); omega)
theorem ruleV_firm {ss : List Str} {w : Str} {l : List D} : ruleV ss (.ftp (.str w :: l)) = ruleL ss w l := ruleV_tq (f := .t)
theorem ruleV_all {ss : List Str} {r : Rule} : (ruleV ss (ruleD r)).isSome = ruleOk ss r := by
  have so : ∀ r : Rule, soft r = true → (ruleV ss (ruleD r)).isSome = ruleOk ss r := fun r h => by
    rw [ruleV_D h]
    cases k : ruleOk ss r <;> rfl
  cases r with
  | same f x y =>
    cases f with
    | false => exact so _ rfl
    | true =>
      rw [show ruleOk ss (.same true x y) = ruleOk ss (.same false x y) from rfl, ← so (.same false x y) rfl]
      rfl
  | unlike f x y =>
    cases f with
    | false => exact so _ rfl
    | true =>
      rw [show ruleOk ss (.unlike true x y) = ruleOk ss (.unlike false x y) from rfl, ← so (.unlike false x y) rfl]
      rfl
  | be _ => exact so _ rfl
  | either _ _ => exact so _ rfl
  | needs _ _ => exact so _ rfl
  | bars _ _ => exact so _ rfl
def wrongRw (ss : List Str) : Nat → List D → Option Nat
  | _, [] => none
  | i, d :: l => if i = 240 ∨ (ruleV ss d).isNone = true then some i else wrongRw ss (i + 1) l
theorem wrongRw_cons {ss : List Str} {i : Nat} {d : D} {l : List D} : wrongRw ss i (d :: l) = if i = 240 ∨ (ruleV ss d).isNone = true then some i else wrongRw ss (i + 1) l := rfl
theorem wrongRw_none {ss : List Str} : ∀ {l : List D} {i : Nat}, wrongRw ss i l = none → i ≤ 240 → i + l.length ≤ 240 ∧ ∀ d ∈ l, (ruleV ss d).isSome = true
  | [], i, _, hi => ⟨by simpa using hi, by simp⟩
  | d :: l, i, h, hi => by
    rw [wrongRw_cons] at h
    split at h
    · cases h
    · rename_i c
      rw [not_or] at c
      obtain ⟨a, b⟩ := wrongRw_none h (by omega)
      refine ⟨by rw [List.length_cons]; omega, fun x hx => ?_⟩
      rcases List.mem_cons.mp hx with rfl | hx
      · cases q : ruleV ss x with
        | some _ => rfl
        | none => rw [q] at c; exact absurd rfl c.2
      · exact b x hx
theorem wrongRw_find {ss : List Str} : ∀ {rs : List Rule} {i : Nat}, wrongRw ss i (rs.map ruleD) = ((rs.zipIdx i).find? fun p => decide (p.2 = 240) || !ruleOk ss p.1).map (·.2)
  | [], i => rfl
  | r :: rs, i => by
    rw [List.map_cons, wrongRw_cons, List.zipIdx_cons, List.find?_cons]
    have e := ruleV_all (ss := ss) (r := r)
    by_cases h : i = 240 ∨ (ruleV ss (ruleD r)).isNone = true
    · rw [if_pos h]
      have : (decide (i = 240) || !ruleOk ss r) = true := by
        rw [← e]
        rcases h with h | h
        · simp [h]
        · cases q : ruleV ss (ruleD r) <;> rw [q] at h <;> simp at h ⊢
      rw [this]
      rfl
    · rw [if_neg h, wrongRw_find]
      have : (decide (i = 240) || !ruleOk ss r) = false := by
        rw [← e]
        rw [not_or] at h
        cases q : ruleV ss (ruleD r) <;> rw [q] at h <;> simp at h ⊢
        exact h
      rw [this]
theorem wrongRw_eq {ss : List Str} {rs : List Rule} : wrongRw ss 0 (rs.map ruleD) = wrongRu ss rs := wrongRw_find
theorem len_bnd : ∀ l : List Str, ∃ n, ∀ x ∈ l, x.length ≤ n
  | [] => ⟨0, by simp⟩
  | x :: l => by
    obtain ⟨n, h⟩ := len_bnd l
    refine ⟨n + x.length, fun y hy => ?_⟩
    rcases List.mem_cons.mp hy with rfl | hy
    · omega
    · have := h y hy; omega
theorem words_rule {ss : List Str} {w : Str} {ws : List Str} (h : (ruleV ss (rowD w ws)).isSome = true) : ∃ r, rowD w ws = ruleD r ∧ ruleOk ss r = true := by
  obtain ⟨r, hr⟩ := Option.isSome_iff_exists.mp h
  unfold rowD at hr ⊢
  split at hr
  · rename_i m
    rw [if_pos m, List.map_cons, ruleV_firm] at *
    unfold ruleL at hr
    rw [if_neg (fun z => by rw [z] at m; revert m; decide +kernel)] at hr
    match ws, hr with
    | [x, y], hr =>
      have hr : ruleW ss w (.str x) (.str y) = some r := hr
      unfold ruleW at hr
      rw [if_neg (alike_nopair m), if_pos m] at hr
      have hr : (if x ∈ ss then (if y ∈ ss then (if x = y then none else ruAlike w x y) else none) else none) = some r := hr
      split at hr
      · rename_i m1
        split at hr
        · rename_i m2
          split at hr
          · cases hr
          · rename_i ne
            simp only [List.mem_cons, List.not_mem_nil, or_false] at m
            have k : (decide (x ∈ ss) && decide (y ∈ ss) && !decide (x = y)) = true := by rw [decide_eq_true m1, decide_eq_true m2, decide_eq_false ne]; rfl
            rcases m with rfl | rfl
            · exact ⟨.same true x y, rfl, k⟩
            · exact ⟨.unlike true x y, rfl, k⟩
        · cases hr
      · cases hr
    | [], hr => cases hr
    | [x], hr => cases hr
    | _ :: _ :: _ :: _, hr => cases hr
  · rename_i m
    rw [if_neg m]
    obtain ⟨n, hc⟩ : ∃ n, calm n (.tup (.str w :: ws.map litW)) = true := by
      obtain ⟨n, hn⟩ := len_bnd (w :: ws)
      refine ⟨n + ws.length + 5, calm_tupI (by simp; omega) fun x hx => ?_⟩
      rcases List.mem_cons.mp hx with rfl | hx
      · exact decide_eq_true (by have := hn w (by simp); omega)
      · obtain ⟨y, hy, rfl⟩ := List.mem_map.mp hx
        have ly := hn y (List.mem_cons_of_mem _ hy)
        refine calm_tupI (by simp <;> omega) fun z hz => ?_
        simp only [List.mem_cons, List.not_mem_nil, or_false] at hz
        rcases hz with rfl | rfl
        · exact decide_eq_true (by have := cutS_length y (some 1) none; omega)
        · exact decide_eq_true (by have := cutS_length y none (some 1); omega)
    obtain ⟨a, b, _⟩ := ruleV_calm hc hr
    exact ⟨r, a, b⟩
theorem rows_rules {ss : List Str} : ∀ {rows : List Str}, (∀ d ∈ rows.map fun r => wordsD (Txt.split r " "), (ruleV ss d).isSome = true) → ∃ rs : List Rule, (rows.map fun r => wordsD (Txt.split r " ")) = rs.map ruleD ∧ InS ss rs
  | [], _ => ⟨[], rfl, fun r hr => by cases hr⟩
  | r :: rows, h => by
    obtain ⟨rs, e, i⟩ := rows_rules (rows := rows) fun d hd => h d (by rw [List.map_cons]; exact List.mem_cons_of_mem _ hd)
    have h0 := h (wordsD (Txt.split r " ")) (by simp)
    cases q : Txt.split r " " with
    | nil => exact absurd q split_ne
    | cons w ws =>
      rw [q] at h0
      obtain ⟨x, ex, ok⟩ := words_rule (ss := ss) (w := w) (ws := ws) h0
      refine ⟨x :: rs, ?_, fun y hy => ?_⟩
      · rw [List.map_cons, List.map_cons, e, q]
        exact congrArg (· :: _) ex
      · rcases List.mem_cons.mp hy with rfl | hy
        · exact ok
        · exact i y hy
theorem wrongSw_ok {ss : List Str} (h : wrongSw ss = none) (ne : ss ≠ []) : swOk ss := by
  unfold wrongSw at h
  rw [Option.map_eq_none_iff, List.find?_eq_none] at h
  have at_ : ∀ i (hi : i < ss.length), i ≠ 10 ∧ nameOk ss[i] = true ∧ ss[i] ∉ ss.take i := fun i hi => by
    have := h (ss[i], i) (List.mem_iff_getElem.mpr ⟨i, by simpa using hi, by simp⟩)
    simp only [Bool.or_eq_true, decide_eq_true_eq, Bool.not_eq_true', not_or] at this
    exact ⟨this.1.1, by simpa using this.1.2, this.2⟩
  refine ⟨ne, ?_, ?_, fun s hs => ?_⟩
  · refine Nat.le_of_not_lt fun z => ?_
    exact (at_ 10 z).1 rfl
  · refine List.pairwise_iff_getElem.mpr fun i j hi hj hij e => ?_
    exact (at_ j hj).2.2 (List.mem_take_iff_getElem.mpr ⟨i, by omega, e⟩)
  · obtain ⟨i, hi, rfl⟩ := List.mem_iff_getElem.mp hs
    exact (at_ i hi).2.1
theorem litW_it {a : Lit} : litW (itT (.inr a)) = litD a := by unfold litW; rw [lit_name, lit_sign]; rfl
theorem words_ruleT {ss : List Str} {r : Rule} (hs : ∀ s ∈ ss, nameOk s = true) (hk : ruleOk ss r = true) : wordsD (Txt.split (ruleT r) " ") = ruleD (firmR r) := by
  rw [split_rule hs hk]
  have no : ∀ w : Str, w ∈ [("be" : Str), "either", "needs", "bars"] → w ∉ [("same" : Str), "unlike"] := by decide +kernel
  cases r with
  | be a =>
    show rowD "be" [itT (.inr a)] = _
    unfold rowD
    rw [if_neg (no _ (by simp)), List.map_cons, List.map_nil, litW_it]
    rfl
  | either a b =>
    show rowD "either" [itT (.inr a), itT (.inr b)] = _
    unfold rowD
    rw [if_neg (no _ (by simp)), List.map_cons, List.map_cons, List.map_nil, litW_it, litW_it]
    rfl
  | needs a b =>
    show rowD "needs" [itT (.inr a), itT (.inr b)] = _
    unfold rowD
    rw [if_neg (no _ (by simp)), List.map_cons, List.map_cons, List.map_nil, litW_it, litW_it]
    rfl
  | bars a b =>
    show rowD "bars" [itT (.inr a), itT (.inr b)] = _
    unfold rowD
    rw [if_neg (no _ (by simp)), List.map_cons, List.map_cons, List.map_nil, litW_it, litW_it]
    rfl
  | same f x y =>
    show rowD "same" [x, y] = _
    unfold rowD
    rw [if_pos (by simp)]
    rfl
  | unlike f x y =>
    show rowD "unlike" [x, y] = _
    unfold rowD
    rw [if_pos (by simp)]
    rfl
theorem one_of {l : List D} (h : l.length = 1) : ∃ x, l = [x] := by
  match l, h with
  | [x], _ => exact ⟨x, rfl⟩
end FM

namespace FM
open PySem PySem.Spec PyProof.Rows L2 FD
theorem panT_inj {p q : Pan} (h : panT p.ss p.rs = panT q.ss q.rs) : p.firm = q.firm := by
  have h1 := split_panT (p := p)
  rw [h, split_panT (p := q), List.cons.injEq] at h1
  obtain ⟨e1, e2⟩ := h1
  have s1 : p.ss = q.ss := by
    have := congrArg (fun s => Txt.split (cutS s (some 9) none) ", ") e1
    simp only [head_drop, split_names] at this
    exact this.symm
  have e3 : q.rs.map (fun r => ruleD (firmR r)) = p.rs.map fun r => ruleD (firmR r) := by
    have a : q.rs.map (fun r => ruleD (firmR r)) = (q.rs.map ruleT).map fun t => wordsD (Txt.split t " ") := by
      rw [List.map_map]
      exact List.map_congr_left fun r hr => (words_ruleT q.sw.2.2.2 (q.ru r hr)).symm
    have b : p.rs.map (fun r => ruleD (firmR r)) = (p.rs.map ruleT).map fun t => wordsD (Txt.split t " ") := by
      rw [List.map_map]
      exact List.map_congr_left fun r hr => (words_ruleT p.sw.2.2.2 (p.ru r hr)).symm
    rw [a, b, e2]
  refine Pan.ext' s1 ?_
  show p.rs.map firmR = q.rs.map firmR
  have e4 : (p.rs.map firmR).map ruleD = (q.rs.map firmR).map ruleD := by
    rw [List.map_map, List.map_map]
    exact e3.symm
  exact rules_inj.mp e4
def mkPan (ss : List Str) (rs : List Rule) (h : (decide (ss ≠ []) && (decide (ss.length ≤ 10) && (decide ss.Nodup && (ss.all nameOk && (rs.all (ruleOk ss) && decide (rs.length ≤ 240)))))) = true) : Pan :=
  have h := (by simpa only [Bool.and_eq_true, decide_eq_true_eq, List.all_eq_true] using h : ss ≠ [] ∧ ss.length ≤ 10 ∧ ss.Nodup ∧ (∀ s ∈ ss, nameOk s = true) ∧ (∀ r ∈ rs, ruleOk ss r = true) ∧ rs.length ≤ 240)
  ⟨ss, rs, ⟨h.1, h.2.1, h.2.2.1, h.2.2.2.1⟩, h.2.2.2.2.1, h.2.2.2.2.2⟩
def L (n : Str) (b : Bool) : D := litD ⟨n, b⟩
def S (k : Int) (d : D) : D := .tup [.int k, d]
end FM

set_option maxHeartbeats 4000000
namespace FD
open PySem PySem.Spec PyProof.Rows L2 PySem.SeqAt
section
variable {X : Cx}
end
end FD

set_option maxHeartbeats 1000000
namespace FM
open PySem PySem.Spec PyProof.Rows L2 FD
section
variable {l : List D} {d : D} {x : D} {a : Nat}
end
section
variable {l : List D} {d : D} {x : D} {a : Nat}
end
theorem seq_gen {t u : WS} {E : DEnds} {Γ : FD.Env} {M : Mem} (h : ∀ T2 : WS, u = T2 → FD.sSeq t T2 E Γ M) : FD.sSeq t u E Γ M := h u rfl
end FM

namespace FD
open PySem PySem.Spec PyProof.Rows L2
section
variable {X : Cx} {e : Expr} {we : WE} {ta : TE} {p p2 q pos : Pos}
def gSplitN : GM := fun M d ds post => isS d fun x => one ds fun e => isS e fun y => y.length ≠ 0 ∧ x.length + 2 ≤ 16777216 ∧ ∀ p, M p = none → post (.ptr p) (M.upd p (.lst ((Txt.split x y).map D.str)))
theorem gSplitN_e : FD.gSplitN = (fun M d ds post => isS d fun x => one ds fun e => isS e fun y => y.length ≠ 0 ∧ x.length + 2 ≤ 16777216 ∧ ∀ p, M p = none → post (.ptr p) (M.upd p (.lst ((Txt.split x y).map D.str))) : GM) := rfl
def wSetLenT (we : WE) : WE := fun Γ M post => we Γ M fun d M1 => ∃ xs : List Str, tupOf d = some (xs.map D.str) ∧ xs.length < 64 ∧ post (.int (ddp xs).length) M1
theorem wSetLenT_e (we : WE) : FD.wSetLenT we = (fun Γ M post => we Γ M fun d M1 => ∃ xs : List Str, tupOf d = some (xs.map D.str) ∧ xs.length < 64 ∧ post (.int (ddp xs).length) M1 : WE) := rfl
end
end FD

namespace FM
open PySem PySem.Spec PyProof.Rows L2 FD
end FM

namespace FM
open PySem PySem.Spec PyProof.Rows L2 FD
def aS (s : Str) : Prop := ∀ c ∈ s.cps.toList, c < 128
theorem aS.app {s t : Str} (h : aS s) (k : aS t) : aS (s ++ t) := fun c hc => by
  have hc : c ∈ (s.cps ++ t.cps).toList := hc
  rw [Array.toList_append, List.mem_append] at hc
  exact hc.elim (h c) (k c)
theorem aS.cut {s : Str} (h : aS s) {lo hi : Option Int} : aS (cutS s lo hi) := fun c hc => by
  unfold cutS at hc
  simp only [List.toList_toArray] at hc
  exact h c (List.mem_of_mem_drop (List.mem_of_mem_take hc))
theorem jl_in {sep : List Nat} : ∀ {p : List (List Nat)} {c : Nat}, c ∈ jl sep p → c ∈ sep ∨ ∃ x ∈ p, c ∈ x
  | [x], c, h => .inr ⟨x, by simp, h⟩
  | x :: y :: r, c, h => by
    rw [jl_cons2, List.mem_append, List.mem_append] at h
    rcases h with (h | h) | h
    · exact .inr ⟨x, by simp, h⟩
    · exact .inl h
    · rcases jl_in h with h | ⟨z, hz, hc⟩
      · exact .inl h
      · exact .inr ⟨z, List.mem_cons_of_mem _ hz, hc⟩
theorem aS.join {sep : Str} {l : List Str} (hs : aS sep) (h : ∀ s ∈ l, aS s) : aS (Txt.join sep l) := fun c hc => by
  rw [txj, join_cps] at hc
  rcases jl_in hc with hc | ⟨x, hx, hc⟩
  · exact hs c hc
  · obtain ⟨s, hm, rfl⟩ := List.mem_map.mp hx
    exact h s hm c hc
theorem aS.cOk {s : Str} (h : aS s) : cOk s := fun c hc => Nat.lt_trans (h c hc) (by decide)
def wt (l : List Str) : Nat := (l.map fun s => s.length + 1).sum
section
variable {M : Mem} {sep : Str} {ss : List Str} {post : WK}
end
def bentIn (s : Str) : Prop := aS s ∧ (s.length ≤ 1300 ∨ (241 ≤ (Txt.split s ⟨#[10]⟩).length ∧ s.length ≤ 160000))
theorem bentIn.le {s : Str} (h : bentIn s) : s.length ≤ 160000 := by rcases h.2 with h | h <;> omega
theorem for_gen {wi : WI} {g : WG} {tb u : WS} {E : DEnds} {Γ : FD.Env} {M : Mem} (h : ∀ B : WS, tb = B → FD.sSeq (FD.sFor wi g B) u E Γ M) : FD.sSeq (FD.sFor wi g tb) u E Γ M := h tb rfl
def lateD (x : D) : Prop := calm 900000 x = true ∧ ((∃ s, x = .str s ∧ s.length ≤ 900000) ∨ ∀ s, x ≠ .str s)
theorem lateD.kind {x : D} (h : lateD x) : (∃ s, x = .str s ∧ s.length ≤ 900000) ∨ ∃ n, calm n x = true ∧ ∀ s, x ≠ .str s := h.2.imp id fun z => ⟨_, h.1, z⟩
section
variable {x : D} {v : List Bool} {b : Bool}
end
end FM

namespace FM
open PySem PySem.Spec PyProof.Rows L2 FD
section
variable {p : Pan} {n0 : Str} {ss' : List Str}
end
section
variable {ss : List Str} {y : D}
end
section
variable {ss : List Str} {n0 : Str} {t : List Str}
end
end FM

set_option maxHeartbeats 4000000
namespace L2
open PySem PySem.Spec PyProof.Rows
def rRep1 (K : PySem.W.Frag) : R2 := fun x y H Q => ∃ l xs, x = .ref l ∧ y = .int 1 ∧ SqT K H l xs ∧ Q (.ref l) H
section
variable {X : Cx}
theorem op_rep1 : OpR X (binaryOp .Mult) (rRep1 X.K) := by
  intro pins s σ H x y v u Q I rx ry h
  obtain ⟨l, xs, rfl, rfl, hT, q⟩ := h
  cases rx
  obtain ⟨t, rfl⟩ := ry
  obtain ⟨its, r, ⟨⟨cls, dd, data, sl⟩, ho, hc, n, hd⟩, hs⟩ := I.tuple hT
  simp only at hc hd
  subst hc hd
  have c0 : (decide ((1 : Int) < -(2 ^ 63)) || decide ((1 : Int) ≥ 2 ^ 63)) = false := by decide
  have c1 : ((its.toArray).isEmpty || (1 : Int) == 1) = true := by simp
  refine wpAny_binaryOp_repeat_ref (T := "tuple") (U := "int") (by decide) ⟨_, ho, rfl⟩ (fun s' => typeIs_int s' 1 t) noFill_tuple_mul F.fills_int_mul F.slot_int_rmul repeat_tuple F.slot_int_index.lookup
    (call_meets F.slot_int_rmul (typeIs_int s 1 t) F.entry_int_rmul (F.args_int_rmul_2 _ _) (int_rmul_tuple 1 t l _ n dd sl)
      ⟨ho, rfl, ⟨_, ho, rfl⟩, call_meets F.slot_tuple_mul ⟨_, ho, rfl⟩ F.entry_tuple_mul (F.args_tuple_mul_2 _ _) (tuple_mulE l _ n dd sl 1 t c0 c1) ⟨ho, ?_⟩⟩)
  exact ⟨.ref l, H, I, rfl, q⟩
end
end L2
namespace FD
open PySem PySem.Spec PyProof.Rows L2
section
variable {X : Cx}
end
def wMethKC (C : Addr) (m : Str) (dsp : DSpX) (k : Nat) (ix : List Nat) (wo : WE) (wk : WA) : WE := fun Γ M post => wo Γ M fun d M1 => insR M1 C d fun fs => fs.lookup m = none ∧ wk Γ M1 fun es M3 => es.length = k ∧ dsp (pick ix ([d] ++ es)) M3 post fun _ _ _ => False
theorem wMethKC_e (C : Addr) (m : Str) (dsp : DSpX) (k : Nat) (ix : List Nat) (wo : WE) (wk : WA) : FD.wMethKC C m dsp k ix wo wk = (fun Γ M post => wo Γ M fun d M1 => insR M1 C d fun fs => fs.lookup m = none ∧ wk Γ M1 fun es M3 => es.length = k ∧ dsp (pick ix ([d] ++ es)) M3 post fun _ _ _ => False : WE) := rfl
section
variable {X : Cx} {k : Nat} {C : Addr} {ps ks : List Str} {ix : List Nat} {dsp : DSpX} {m : Str} {pos apos : Pos} {o : Expr} {wo : WE} {kws : List Keyword} {wk : WA}
end
end FD
namespace FM
open PySem PySem.Spec PyProof.Rows L2 FD
end FM

set_option maxHeartbeats 1000000
namespace FD
open PySem PySem.Spec PyProof.Rows L2
section
variable {P : Program} {w : World} {K : PySem.W.Frag} {mg : Str → Option Value} {base : Heap}
structure PubCM (P : Program) (w : World) (K : PySem.W.Frag) (mg : Str → Option Value) (base : Heap) (k : Nat) (C : Addr) (m : Str) (ps : List Str) (dsp : DSp) : Prop where
  ex : ∃ (q f : Addr) (fd : FuncData), ClX.CRead K C (.type "type") ∧ ClX.CMet K C (.type "type") m q f ∧ Binds K fd ps [] ∧ FnG P w K mg base k f fd ps dsp
structure PubCMK (P : Program) (w : World) (K : PySem.W.Frag) (mg : Str → Option Value) (base : Heap) (k : Nat) (C : Addr) (m : Str) (ks : List Str) (ix : List Nat) (ps : List Str) (dsp : DSp) : Prop where
  ex : ∃ (q f : Addr) (fd : FuncData), ClX.CRead K C (.type "type") ∧ ClX.CMet K C (.type "type") m q f ∧ (∀ (s : Shared) (us ws : List Value), us.length = 1 → ws.length = ks.length → BindsTo s fd ⟨us, ks.zip ws⟩ (ps.zip (pick ix (us ++ ws)))) ∧ FnG P w K mg base k f fd ps dsp
section
variable {k : Nat} {C q f : Addr} {m qual : Str} {st : Stmt} {N ps : List Str}
def FnA (P : Program) (w : World) (K : PySem.W.Frag) (mg : Str → Option Value) (base : Heap) (k : Nat) (m qual : Str) (st : Stmt) (f : Addr) (ps : List Str) (dsp : DSp) : Prop := ∃ fd, FunD K m qual (defArgs st) (defBody st) (defScope st) [] [] f fd ∧ FnG P w K mg base k f fd ps dsp
theorem fnA_of {dsp : DSp} (h : ∃ fd, FunD K m qual (defArgs st) (defBody st) (defScope st) [] [] f fd) (S : FnScope N ps (defScope st))
    (l : ∀ ds M post, dsp ds M post → ds.length = ps.length)
    (hb : ∀ (f : Addr) (cdv : Value) (A : Around) (outer : List PySem.Env) (s : Shared) (H : Hp), (A.deeper (envOfC qual (defScope st) s.heap.objs.size f cdv)).guards = some [] → Room k (A.deeper (envOfC qual (defScope st) s.heap.objs.size f cdv)) →
      ∃ ws, DSs (bx P w K mg base N qual (defScope st) f cdv A outer s H) (defBody st) ws ∧ ∀ ds M post, dsp ds M post → ws { nx := fun _ M' => post .non M', rt := post } (startD N ds) M) :
    FnA P w K mg base (k + 1) m qual st f ps dsp := by
  obtain ⟨fd, D⟩ := h
  refine ⟨fd, D, ?_⟩
  obtain ⟨oc, od, dV, kV, doc, pm, an, cdv, ct, osl, rfl, lk, hcd, _, _⟩ := D.ex
  exact g_of lk hcd S l fun A outer s H => hb _ cdv A outer s H
theorem FnA.cm {dsp : DSp} (F : FnA P w K mg base k m qual st f ps dsp) (c : ClX.CRead K C (.type "type") ∧ ClX.CMet K C (.type "type") m q f)
    (bd : ∀ (kV doc pm : Value) (an : Option Addr) (cdv ct : Value) (us : List Value), us.length = ps.length → bindArgs (PySem.W.fnOf m qual (defArgs st) (defBody st) (defScope st) .none kV doc pm an cdv ct) ⟨us, []⟩ = pure (ps.zip us)) :
    PubCM P w K mg base k C m ps dsp :=
  let ⟨fd, D, G⟩ := F
  ⟨q, f, fd, c.1, c.2, D.bindsN bd, G⟩
theorem FnA.cmk {dsp : DSp} (F : FnA P w K mg base k m qual st f ps dsp) (c : ClX.CRead K C (.type "type") ∧ ClX.CMet K C (.type "type") m q f) (ks : List Str) (ix : List Nat)
    (bd : ∀ (kV doc pm : Value) (an : Option Addr) (cdv ct : Value) (us ws : List Value), us.length = 1 → ws.length = ks.length → bindArgs (PySem.W.fnOf m qual (defArgs st) (defBody st) (defScope st) .none kV doc pm an cdv ct) ⟨us, ks.zip ws⟩ = pure (ps.zip (pick ix (us ++ ws)))) :
    PubCMK P w K mg base k C m ks ix ps dsp := by
  obtain ⟨fd, D, G⟩ := F
  refine ⟨q, f, fd, c.1, c.2, fun s us ws l1 l2 => ?_, G⟩
  obtain ⟨oc, od, dV, kV, doc, pm, an, cdv, ct, osl, rfl, lk, hcd, hD, _⟩ := D.ex
  rcases hD with ⟨_, rfl⟩ | ⟨e, _⟩
  · exact .of_eq (bd kV doc pm an cdv ct us ws l1 l2)
  · exact absurd rfl e
end
end
section
variable {X : Cx} {k : Nat} {C q f : Addr} {fd : FuncData} {ps ks : List Str} {ix : List Nat} {dds : List D} {dsp : DSp} {x y m : Str} {p pos apos : Pos} {e o : Expr} {es : List Expr} {w wk : WA} {kws : List Keyword}
theorem run_cm {pins : List (Addr × Obj)} {σ : L2.St} {H : Hp} {s : Shared} {Q : VK} {us : List Value} {vs : List V} (G : FnG X.prog X.w X.K X.mg X.base k f fd ps dsp) (room : Room k X.A) (gd : X.A.guards = some []) (bd : Binds X.K fd ps [])
    (I : Inv X ((q, PySem.W.methodObj (.ref f) (.ref C)) :: pins) σ H s) (r : Vals vs us) (h : toSp X.K dsp (.ref C :: vs) H Q) : wpAny (model X.prog X.w) X.A (call (.ref q) us) (EP X pins σ Q) X.xe s := by
  have rr : Vals (V.ref C :: vs) (Value.ref C :: us) := .cons rfl r
  have ll : (Value.ref C :: us).length = ps.length := by rw [← rr.length]; exact h.len G.len
  have b := bd s (Value.ref C :: us) I.kIn (by rw [List.append_nil]; exact ll)
  rw [List.append_nil] at b
  refine thn (Q := EP X ((q, PySem.W.methodObj (.ref f) (.ref C)) :: pins) σ Q) (wpAny_call (PySem.W.method_call (ClX.pin_at I) (codeAny_mono (G.go X.A X.stack s H ⟨Value.ref C :: us, []⟩ (Value.ref C :: us) (.ref C :: vs) Q gd room I.env0 b rr h) fun res s' hq => ?_))) fun _ _ z => ClX.unpinE z
  match res, hq with
  | .ok (.ret u), hq => exact I.after hq
  | .ok .next, hq => exact hq.elim
  | .ok .brk, hq => exact hq.elim
  | .ok .cont, hq => exact hq.elim
  | .error e, hq => exact hq.elim
theorem run_cmk {pins : List (Addr × Obj)} {σ : L2.St} {H : Hp} {s : Shared} {Q : VK} {ws : List Value} {zs : List V} (G : FnG X.prog X.w X.K X.mg X.base k f fd ps dsp) (room : Room k X.A) (gd : X.A.guards = some [])
    (bd : BindsTo s fd ⟨[.ref C], ks.zip ws⟩ (ps.zip (pick ix ([.ref C] ++ ws)))) (I : Inv X ((q, PySem.W.methodObj (.ref f) (.ref C)) :: pins) σ H s) (rz : Vals zs ws) (h : toSp X.K dsp (pick ix ([.ref C] ++ zs)) H Q) : wpAny (model X.prog X.w) X.A (call (.ref q) [] (ks.zip ws)) (EP X pins σ Q) X.xe s := by
  have r : Vals [V.ref C] [Value.ref C] := .cons rfl .nil
  refine thn (Q := EP X ((q, PySem.W.methodObj (.ref f) (.ref C)) :: pins) σ Q) (wpAny_call (PySem.W.method_call (ClX.pin_at I) (codeAny_mono (G.go X.A X.stack s H ⟨[Value.ref C], ks.zip ws⟩ (pick ix ([.ref C] ++ ws)) (pick ix ([.ref C] ++ zs)) Q gd room I.env0 bd (pick_vals (r.append rz) ix) h) fun res s' hq => ?_))) fun _ _ z => ClX.unpinE z
  match res, hq with
  | .ok (.ret u), hq => exact I.after hq
  | .ok .next, hq => exact hq.elim
  | .ok .brk, hq => exact hq.elim
  | .ok .cont, hq => exact hq.elim
  | .error e, hq => exact hq.elim
def wCM (C : Addr) (dsp : DSp) (w : WA) : WE := fun Γ M post => w Γ M fun ds M1 => dsp (.ptr C :: ds) M1 post
theorem wCM_e (C : Addr) (dsp : DSp) (w : WA) : FD.wCM C dsp w = (fun Γ M post => w Γ M fun ds M1 => dsp (.ptr C :: ds) M1 post : WE) := rfl
theorem de_cm {pl : Sem Bool} (G : PubCM X.prog X.w X.K X.mg X.base k C m ps dsp) (room : Room k X.A) (gd : X.A.guards = some []) (hm : X.mg x = some (.ref C)) (ha : DA X (e :: es) w) (hg : Gl X x := by rfl) (hdb : (x == ("__debug__" : Str)) = false := by decide)
    (hst : starEach (e :: es) X.env = (false, eval e X.env) :: starEach es X.env := by rfl) (hpl : (backTo pos (starEach es X.env)).any (·.1) = false := by rfl)
    (ht : eval (.Call (.Attribute (.Name x p) m apos) (e :: es) [] pos) X.env = (do
      let ov ← eval (.Name x p) X.env
      standAt apos.atName
      let (f, first) ← holding [ov] (getMethod ov m pl)
      callWith pos f first (backTo pos (starEach (e :: es) X.env)) (backToKw pos (keywordEach [] X.env))) := by rfl) : DE X (.Call (.Attribute (.Name x p) m apos) (e :: es) [] pos) (wCM C dsp w) := by
  obtain ⟨q, f, fd, r, c, hb, G⟩ := G.ex
  refine ⟨fun pins s σ H Q I h => PySem.W.methodCall_KW (pl := pl) (ld_glob I hg hm ?_ hdb) ht⟩
  refine ClX.getmethcm_ok I r c fun s2 I2 => ?_
  refine ClX.callwith_cm I2 (ClX.base_none I (Nat.le_refl _)) c.fi (thn (ha.run pos _ s2 σ H (fun vs H2 => toSp X.K dsp (.ref C :: vs) H2 Q) I2 ?_) fun us s3 ⟨vs, H2, I3, rv, q2⟩ => ⟨⟨ClX.pin_at I3, I3.kIn⟩, ?_⟩) hst hpl
  · exact upA_bind (k := fun ds _ M post => dsp (.ptr C :: ds) M post) h fun vs ds H1 H0 Γ M post f e r q p => ⟨H0, M, _, post, f, .cons (.ptr C) r, q, p⟩
  · exact run_cm G room gd hb I3 rv q2
def wCMK (C : Addr) (n : Nat) (ix : List Nat) (dsp : DSp) (wk : WA) : WE := fun Γ M post => wk Γ M fun es M1 => es.length = n ∧ dsp (pick ix ([.ptr C] ++ es)) M1 post
theorem wCMK_e (C : Addr) (n : Nat) (ix : List Nat) (dsp : DSp) (wk : WA) : FD.wCMK C n ix dsp wk = (fun Γ M post => wk Γ M fun es M1 => es.length = n ∧ dsp (pick ix ([.ptr C] ++ es)) M1 post : WE) := rfl
theorem de_cmk {pl : Sem Bool} (G : PubCMK X.prog X.w X.K X.mg X.base k C m ks ix ps dsp) (room : Room k X.A) (gd : X.A.guards = some []) (hm : X.mg x = some (.ref C)) (hk : DKw X kws wk) (hg : Gl X x := by rfl) (hdb : (x == ("__debug__" : Str)) = false := by decide)
    (hall : (backToKw pos (keywordEach kws X.env)).all (·.1.isSome) = true := by rfl) (hks : (backToKw pos (keywordEach kws X.env)).filterMap (·.1) = ks := by rfl)
    (hpl : ((backTo pos (starEach [] X.env)).any (·.1) || (backToKw pos (keywordEach kws X.env)).any (·.1.isNone)) = false := by rfl)
    (ht : eval (.Call (.Attribute (.Name x p) m apos) [] kws pos) X.env = (do
      let ov ← eval (.Name x p) X.env
      standAt apos.atName
      let (f, first) ← holding [ov] (getMethod ov m pl)
      callWith pos f first (backTo pos (starEach [] X.env)) (backToKw pos (keywordEach kws X.env))) := by rfl) : DE X (.Call (.Attribute (.Name x p) m apos) [] kws pos) (wCMK C ks.length ix dsp wk) := by
  obtain ⟨q, f, fd, r, c, hb, G⟩ := G.ex
  refine ⟨fun pins s σ H Q I h => PySem.W.methodCall_KW (pl := pl) (ld_glob I hg hm ?_ hdb) ht⟩
  refine ClX.getmethcm_ok I r c fun s2 I2 => ?_
  refine PySem.W.callWith_of (P := PySem.W.MethP X.K s.heap.objs.size f (.ref C)) hpl (PySem.W.keeps_M c.fi) (evalArgs_kw2_nil hall (thn (hk.run pos _ s2 σ H (fun zs H2 => zs.length = ks.length ∧ toSp X.K dsp (pick ix ([.ref C] ++ zs)) H2 Q) I2 ?_) fun ws s3 ⟨zs, H2, I3, rz, l2, q2⟩ => ⟨⟨ClX.pin_at I3, I3.kIn⟩, ?_⟩))
  · exact upA_bind (k := fun (es : List D) _ M post => es.length = ks.length ∧ dsp (pick ix ([D.ptr C] ++ es)) M post) h fun vs ds H1 H0 Γ M post f e r q p => ⟨r.length.trans q.1, H0, M, _, post, f, pick_rp (.cons (.ptr C) r) ix, q.2, p⟩
  · rw [hks]
    exact run_cmk G room gd (hb s3 [.ref C] ws rfl (rz.length.symm.trans l2)) I3 rz q2
def wMakeV (i : Nat) (C : Addr) (dds : List D) (dsp : DSp) (w : WA) : WE := fun Γ M post => look Γ i fun c => c = .ptr C ∧ w Γ M fun ds M1 => ∀ a, M1 a = none → dsp (.ptr a :: (ds ++ dds)) (M1.upd a (.ins C [])) fun d M3 => d = .non ∧ post (.ptr a) M3
theorem wMakeV_e (i : Nat) (C : Addr) (dds : List D) (dsp : DSp) (w : WA) : FD.wMakeV i C dds dsp w = (fun Γ M post => look Γ i fun c => c = .ptr C ∧ w Γ M fun ds M1 => ∀ a, M1 a = none → dsp (.ptr a :: (ds ++ dds)) (M1.upd a (.ins C [])) fun d M3 => d = .non ∧ post (.ptr a) M3 : WE) := rfl
theorem de_makeV {i : Nat} (G : PubC X.prog X.w X.K X.mg X.base k y C ps dds dsp) (room : Room (k + 1) X.A) (gd : X.A.guards = some []) (hv : DE X (.Name x p) (wVar i)) (ha : DA X (e :: es) w)
    (he : starEach (e :: es) X.env = (false, eval e X.env) :: starEach es X.env := by rfl) (hpl : (backTo pos (starEach es X.env)).any (·.1) = false := by rfl) : DE X (.Call (.Name x p) (e :: es) [] pos) (wMakeV i C dds dsp w) := by
  obtain ⟨f, fd, dvs, ds, hm, M, hb, dv, rd, G⟩ := G.ex
  refine ⟨fun pins s σ H Q I h => wpAny_Call_Name_kw (thn (hv.run pins s σ H (fun v H1 => v = .ref C ∧ upA X.K w σ H1 fun vs H1 => ∀ a dx, H1 a = none → H1 dx = none → dx ≠ a → toSp X.K dsp (.ref a :: (vs ++ dvs)) (upd (upd H1 dx (.own a)) a (.ins C dx [])) fun v H2 => v = .non ∧ Q (.ref a) H2) I ?_) fun u s0 ⟨v0, H9, I0, rv0, ev0, h0⟩ => ?_)⟩
  · refine up_bind (k := fun c Γ M post => c = .ptr C ∧ w Γ M fun ds M1 => ∀ a, M1 a = none → dsp (.ptr a :: (ds ++ dds)) (M1.upd a (.ins C [])) fun d M3 => d = .non ∧ post (.ptr a) M3) h fun v d H1 H0 Γ M post fr en r q p => ?_
    obtain ⟨rfl, q⟩ := q
    cases r
    refine ⟨rfl, H0, Γ, M, _, fr, en, q, fun vs ds H1 H01 M1 q f1 s1 ra a dx ha hdx hne => ?_⟩
    have ha2 : upd H1 dx (.own a) a = none := by rw [upd_ne (Ne.symm hne)]; exact ha
    refine ⟨H01, M1.upd a (.ins C []), .ptr a :: (ds ++ dds), _, (f1.waste hdx).new ha2 (.ins .nil), .cons (.ptr a) (ra.append (rd H01)), q a (f1.fresh ha).2, fun v d H' H0' M' q' f' s' r' => ?_⟩
    obtain ⟨rfl, q'⟩ := q'
    cases r'
    exact ⟨rfl, p _ _ H' H0' M' q' f' (s1.trans s') (.ptr a)⟩
  · subst ev0
    obtain rfl : u = Value.ref C := rv0
    refine PySem.W.callWith_K (h₀ := X.base) I0.ok.mod.kin M.kp (thn (ha.run pos pins s0 σ H9 _ I0 h0) fun us s1 ⟨vs, H1, I1, r, q⟩ => ⟨I1.kIn, ?_⟩) he hpl
    have fa : H1 (s1.heap.objs.size + 1) = none := I1.hok.fresh (Nat.le_succ _)
    have fdx : H1 s1.heap.objs.size = none := I1.hok.fresh (Nat.le_refl _)
    have sp := q (s1.heap.objs.size + 1) s1.heap.objs.size fa fdx (Nat.ne_of_lt (Nat.lt_succ_self _))
    have J := Inv.made (C := C) I1
    have r2 : Vals (V.ref (s1.heap.objs.size + 1) :: (vs ++ dvs)) (Value.ref (s1.heap.objs.size + 1) :: (us ++ ds)) := .cons rfl (r.append dv)
    have ll : (Value.ref (s1.heap.objs.size + 1) :: us ++ ds).length = ps.length := by
      have e1 := r2.length
      rw [sp.len G.len] at e1
      exact e1.symm
    refine wpAny_call (make_map (f := f) I1.kIn M.makes M.init (beq_iff_eq.mp M.fn) (codeAny_mono (G.go _ X.stack _ _ ⟨Value.ref (s1.heap.objs.size + 1) :: us, []⟩ (Value.ref (s1.heap.objs.size + 1) :: (us ++ ds)) _ _ ?_ (room.make C us []) (J.env0.make C us [])
      (hb _ (Value.ref (s1.heap.objs.size + 1) :: us) J.kIn ll) r2 sp) fun res s' hq => ?_))
    · first | exact gd | simpa [Around.under, pushGuards, Code.guards, Code.isGuard, guardIds] using gd
    · match res, hq with
      | .ok (.ret u), hq =>
        obtain ⟨v, H', J3, rv, ev, q3⟩ := J.after hq
        subst ev
        exact ⟨rv, ⟨V.ref (s1.heap.objs.size + 1), H', J3, rfl, q3⟩⟩
      | .ok .next, hq => exact hq.elim
      | .ok .brk, hq => exact hq.elim
      | .ok .cont, hq => exact hq.elim
      | .error e, hq => exact hq.elim
end
end FD

namespace FM
open PySem PySem.Spec PyProof.Rows L2 FD
theorem jn_tq {fg : Fg} {M : Mem} {sep : Str} {ss : List Str} {m k : Nat} {post : WK} (hs : tOk k sep) (h : ∀ s ∈ ss, tOk m s) (hb : ss.length * (m + k) ≤ 16777216) : gJn M (.str sep) [tq fg (ss.map D.str)] post = post (.str (Txt.join sep ss)) M := by
  unfold gJn
  rw [one_one, isS_str, seq_tq, got_so, txs_map, got_so]
  exact propext ⟨fun z => z.2, fun z => ⟨jn_core hs h hb, z⟩⟩
theorem tp_fg : ∀ (f : Bool) (l : List D), tp f l = tq (if f = true then .t else .f) l := fun f l => by cases f <;> rfl
theorem ruleT_join {ss : List Str} {r : Rule} {l : List Str} (hs : ∀ s ∈ ss, nameOk s = true) (hk : ruleOk ss r = true) (e : Txt.split (ruleT r) " " = l) : Txt.join " " l = ruleT r := by
  rw [← e, txj]
  exact StrLaws.join_split _ " "
theorem py_firm {r : Rule} : (ruleD (firmR r)).py = (ruleD r).py := by
  cases r with
  | same f x y => cases f <;> simp [firmR, ruleD, tp, D.py]
  | unlike f x y => cases f <;> simp [firmR, ruleD, tp, D.py]
  | _ => rfl
theorem pyAll_firm : ∀ rs : List Rule, pyAll ((rs.map firmR).map ruleD) = pyAll (rs.map ruleD)
  | [] => rfl
  | r :: rs => by
    show (ruleD (firmR r)).py :: pyAll ((rs.map firmR).map ruleD) = (ruleD r).py :: pyAll (rs.map ruleD)
    rw [py_firm, pyAll_firm rs]
theorem sh_firm {p : Pan} : shD (.lst [strsF p.ss, .ftp (p.firm.rs.map ruleD)]) = shD (.lst [strsF p.ss, .ftp (p.rs.map ruleD)]) := by
  have e : (D.lst [strsF p.ss, .ftp (p.firm.rs.map ruleD)]).py = (D.lst [strsF p.ss, .ftp (p.rs.map ruleD)]).py := by
    simp only [D.py, pyAll, firm_rs, pyAll_firm]
  unfold shD
  rw [e]
def ruleLs : Rule → List D
  | .be a => [.str "be", litD a]
  | .either a b => [.str "either", litD a, litD b]
  | .needs a b => [.str "needs", litD a, litD b]
  | .bars a b => [.str "bars", litD a, litD b]
  | .same _ x y => [.str "same", .str x, .str y]
  | .unlike _ x y => [.str "unlike", .str x, .str y]
theorem ruleLs_of {r : Rule} : tupOf (ruleD r) = some (ruleLs r) := by
  cases r with
  | same f x y => cases f <;> rfl
  | unlike f x y => cases f <;> rfl
  | _ => rfl
theorem eqd_rule2 {a b : Rule} : eqd (ruleD a) (ruleD b) = decide (firmR a = firmR b) := by
  rw [eqd_tups ruleLs_of ruleLs_of]
  cases a <;> cases b <;> simp only [ruleLs, firmR, eqs_cons, eqs_nil, eqd_str, eqd_lit, nq_0_1, nq_0_2, nq_0_3, nq_0_4, nq_0_5, nq_1_0, nq_1_2, nq_1_3, nq_1_4, nq_1_5, nq_2_0, nq_2_1, nq_2_3, nq_2_4, nq_2_5, nq_3_0, nq_3_1, nq_3_2, nq_3_4, nq_3_5, nq_4_0, nq_4_1, nq_4_2, nq_4_3, nq_4_5, nq_5_0, nq_5_1, nq_5_2, nq_5_3, nq_5_4, decide_true, decide_false, Bool.true_and, Bool.false_and, Bool.and_true, Rule.be.injEq, Rule.either.injEq, Rule.needs.injEq, Rule.bars.injEq, Rule.same.injEq, Rule.unlike.injEq, reduceCtorEq, true_and, Bool.decide_and]
theorem eqs_rules2 : ∀ rs qs : List Rule, eqs (rs.map ruleD) (qs.map ruleD) = decide (rs.map firmR = qs.map firmR)
  | [], [] => rfl
  | [], _ :: _ => rfl
  | _ :: _, [] => rfl
  | r :: rs, q :: qs => by
    rw [List.map_cons, List.map_cons, eqs_cons, eqd_rule2, eqs_rules2 rs qs, List.map_cons, List.map_cons]
    simp only [List.cons.injEq, Bool.decide_and]
theorem rsEq_iff {rs qs : List Rule} : rsEq rs qs = decide (rs.map firmR = qs.map firmR) := by
  unfold rsEq
  rw [eqd_tups (l := rs.map ruleD) (m := qs.map ruleD) rfl rfl, eqs_rules2]
theorem firm_idem {r : Rule} : firmR (firmR r) = firmR r := by cases r <;> rfl
theorem rsEq_firm {p : Pan} : rsEq p.firm.rs p.rs = true := by
  rw [rsEq_iff, firm_rs, List.map_map]
  exact decide_eq_true (List.map_congr_left fun r _ => firm_idem)
theorem text_eq {p q : Pan} : decide (panT p.ss p.rs = panT q.ss q.rs) = (decide (p.ss = q.ss) && rsEq p.rs q.rs) := by
  rw [rsEq_iff, Bool.eq_iff_iff, Bool.and_eq_true, decide_eq_true_eq, decide_eq_true_eq, decide_eq_true_eq]
  refine ⟨fun h => ?_, fun h => ?_⟩
  · have e := panT_inj h
    have e1 : p.firm.ss = q.firm.ss := by rw [e]
    have e2 : p.firm.rs = q.firm.rs := by rw [e]
    exact ⟨e1, e2⟩
  · rw [← firm_panT (p := p), ← firm_panT (p := q)]
    show panT p.ss (p.rs.map firmR) = panT q.ss (q.rs.map firmR)
    rw [h.1, h.2]
end FM

namespace LW
open PySem PySem.Spec PyProof.Rows L2 FD
structure Tx (P : Program) (w : World) (K : PySem.W.Frag) (mg : Str → Option Value) (base : Heap) : Prop where
  c : He.SaysD fa fn K
  cc : He5.SaysA [] fc K
  t : ft K = true
  x : ∃ h, K.In h ∧ h.Ns mainGlobals mg
  b : ∀ p ∈ tf, LamX.TabB base mg (He.cT K p).1 (He.cT K p).2
section
variable {P : Program} {w : World} {K : PySem.W.Frag} {mg : Str → Option Value} {base : Heap}
theorem Tx.eq_Panel (T : Tx P w K mg base) : EqC K (He.ga K "Panel") := eqB_ok (all_get (l := fx K) (by have t := T.t; unfold ft at t; exact (Bool.and_eq_true_iff.mp t).1) (i := 0) rfl)
theorem Tx.nb_Panel (T : Tx P w K mg base) : noB K (He.ga K "Panel") = true := id (all_get (l := fx K) (by have t := T.t; unfold ft at t; exact (Bool.and_eq_true_iff.mp t).1) (i := 1) rfl)
theorem Tx.cm_Panel_read (T : Tx P w K mg base) : ClX.CRead K (He.ga K "Panel") (.type "type") ∧ ClX.CMet K (He.ga K "Panel") (.type "type") "read" (He.ma K (He.ga K "Panel") "read") (He5.wf K (He.ga K "Panel") "classmethod" "read") := FD.cmB_ok (all_get (l := fx K) (by have t := T.t; unfold ft at t; exact (Bool.and_eq_true_iff.mp t).1) (i := 2) rfl)
theorem Tx.g_is_name (T : Tx P w K mg base) : mg "is_name" = some (.ref (He.ga K "is_name")) := let ⟨_, KX, G⟩ := T.x; He.glo_ok KX G (T.c.fact 0 rfl)
theorem Tx.g_is_literal (T : Tx P w K mg base) : mg "is_literal" = some (.ref (He.ga K "is_literal")) := let ⟨_, KX, G⟩ := T.x; He.glo_ok KX G (T.c.fact 1 rfl)
theorem Tx.g_other_sign (T : Tx P w K mg base) : mg "other_sign" = some (.ref (He.ga K "other_sign")) := let ⟨_, KX, G⟩ := T.x; He.glo_ok KX G (T.c.fact 2 rfl)
theorem Tx.g_opposite (T : Tx P w K mg base) : mg "opposite" = some (.ref (He.ga K "opposite")) := let ⟨_, KX, G⟩ := T.x; He.glo_ok KX G (T.c.fact 3 rfl)
theorem Tx.g_literals_of (T : Tx P w K mg base) : mg "literals_of" = some (.ref (He.ga K "literals_of")) := let ⟨_, KX, G⟩ := T.x; He.glo_ok KX G (T.c.fact 4 rfl)
theorem Tx.g_literal_text (T : Tx P w K mg base) : mg "literal_text" = some (.ref (He.ga K "literal_text")) := let ⟨_, KX, G⟩ := T.x; He.glo_ok KX G (T.c.fact 5 rfl)
theorem Tx.g_literal_in (T : Tx P w K mg base) : mg "literal_in" = some (.ref (He.ga K "literal_in")) := let ⟨_, KX, G⟩ := T.x; He.glo_ok KX G (T.c.fact 6 rfl)
theorem Tx.g_is_rule (T : Tx P w K mg base) : mg "is_rule" = some (.ref (He.ga K "is_rule")) := let ⟨_, KX, G⟩ := T.x; He.glo_ok KX G (T.c.fact 7 rfl)
theorem Tx.g_clauses_of (T : Tx P w K mg base) : mg "clauses_of" = some (.ref (He.ga K "clauses_of")) := let ⟨_, KX, G⟩ := T.x; He.glo_ok KX G (T.c.fact 8 rfl)
theorem Tx.g_steps_of (T : Tx P w K mg base) : mg "steps_of" = some (.ref (He.ga K "steps_of")) := let ⟨_, KX, G⟩ := T.x; He.glo_ok KX G (T.c.fact 9 rfl)
theorem Tx.g_rule_text (T : Tx P w K mg base) : mg "rule_text" = some (.ref (He.ga K "rule_text")) := let ⟨_, KX, G⟩ := T.x; He.glo_ok KX G (T.c.fact 10 rfl)
theorem Tx.g_rule_in (T : Tx P w K mg base) : mg "rule_in" = some (.ref (He.ga K "rule_in")) := let ⟨_, KX, G⟩ := T.x; He.glo_ok KX G (T.c.fact 11 rfl)
theorem Tx.g_wrong_switch (T : Tx P w K mg base) : mg "wrong_switch" = some (.ref (He.ga K "wrong_switch")) := let ⟨_, KX, G⟩ := T.x; He.glo_ok KX G (T.c.fact 12 rfl)
theorem Tx.g_wrong_rule (T : Tx P w K mg base) : mg "wrong_rule" = some (.ref (He.ga K "wrong_rule")) := let ⟨_, KX, G⟩ := T.x; He.glo_ok KX G (T.c.fact 13 rfl)
theorem Tx.g_panel_text (T : Tx P w K mg base) : mg "panel_text" = some (.ref (He.ga K "panel_text")) := let ⟨_, KX, G⟩ := T.x; He.glo_ok KX G (T.c.fact 14 rfl)
theorem Tx.g_panel_in (T : Tx P w K mg base) : mg "panel_in" = some (.ref (He.ga K "panel_in")) := let ⟨_, KX, G⟩ := T.x; He.glo_ok KX G (T.c.fact 15 rfl)
theorem Tx.g_check_switches (T : Tx P w K mg base) : mg "check_switches" = some (.ref (He.ga K "check_switches")) := let ⟨_, KX, G⟩ := T.x; He.glo_ok KX G (T.c.fact 16 rfl)
theorem Tx.h_Panel_text (T : Tx P w K mg base) : Meth K (He.ga K "Panel") "text" (He.ma K (He.ga K "Panel") "text") := He.meth_ok (T.c.fact 17 rfl)
theorem Tx.h_Panel___str__ (T : Tx P w K mg base) : Meth K (He.ga K "Panel") "__str__" (He.ma K (He.ga K "Panel") "__str__") := He.meth_ok (T.c.fact 18 rfl)
theorem Tx.h_Panel___eq__ (T : Tx P w K mg base) : Meth K (He.ga K "Panel") "__eq__" (He.ma K (He.ga K "Panel") "__eq__") := He.meth_ok (T.c.fact 19 rfl)
theorem Tx.g_law_bag (T : Tx P w K mg base) : mg "_law_bag" = some (.ref (He.ga K "_law_bag")) := let ⟨_, KX, G⟩ := T.x; He.glo_ok KX G (T.c.fact 20 rfl)
theorem Tx.g_law_draw (T : Tx P w K mg base) : mg "_law_draw" = some (.ref (He.ga K "_law_draw")) := let ⟨_, KX, G⟩ := T.x; He.glo_ok KX G (T.c.fact 21 rfl)
theorem Tx.g_law_one (T : Tx P w K mg base) : mg "_law_one" = some (.ref (He.ga K "_law_one")) := let ⟨_, KX, G⟩ := T.x; He.glo_ok KX G (T.c.fact 22 rfl)
theorem Tx.g_law_names (T : Tx P w K mg base) : mg "_law_names" = some (.ref (He.ga K "_law_names")) := let ⟨_, KX, G⟩ := T.x; He.glo_ok KX G (T.c.fact 23 rfl)
theorem Tx.g_law_rule (T : Tx P w K mg base) : mg "_law_rule" = some (.ref (He.ga K "_law_rule")) := let ⟨_, KX, G⟩ := T.x; He.glo_ok KX G (T.c.fact 24 rfl)
theorem Tx.g_law_panel (T : Tx P w K mg base) : mg "_law_panel" = some (.ref (He.ga K "_law_panel")) := let ⟨_, KX, G⟩ := T.x; He.glo_ok KX G (T.c.fact 25 rfl)
theorem Tx.g_law_made (T : Tx P w K mg base) : mg "_law_made" = some (.ref (He.ga K "_law_made")) := let ⟨_, KX, G⟩ := T.x; He.glo_ok KX G (T.c.fact 26 rfl)
theorem Tx.g_law_holds (T : Tx P w K mg base) : mg "_law_holds" = some (.ref (He.ga K "_law_holds")) := let ⟨_, KX, G⟩ := T.x; He.glo_ok KX G (T.c.fact 27 rfl)
theorem Tx.g_law_keeps (T : Tx P w K mg base) : mg "_law_keeps" = some (.ref (He.ga K "_law_keeps")) := let ⟨_, KX, G⟩ := T.x; He.glo_ok KX G (T.c.fact 28 rfl)
theorem Tx.g_law_rule_text (T : Tx P w K mg base) : mg "_law_rule_text" = some (.ref (He.ga K "_law_rule_text")) := let ⟨_, KX, G⟩ := T.x; He.glo_ok KX G (T.c.fact 29 rfl)
theorem Tx.g_law_text (T : Tx P w K mg base) : mg "_law_text" = some (.ref (He.ga K "_law_text")) := let ⟨_, KX, G⟩ := T.x; He.glo_ok KX G (T.c.fact 30 rfl)
theorem Tx.g_law_right (T : Tx P w K mg base) : mg "_law_right" = some (.ref (He.ga K "_law_right")) := let ⟨_, KX, G⟩ := T.x; He.glo_ok KX G (T.c.fact 31 rfl)
theorem Tx.g_law (T : Tx P w K mg base) : mg "law" = some (.ref (He.ga K "law")) := let ⟨_, KX, G⟩ := T.x; He.glo_ok KX G (T.c.fact 32 rfl)
theorem Tx.m_len (T : Tx P w K mg base) : mg "len" = none := let ⟨_, KX, G⟩ := T.x; He.free_ok KX G (T.c.fact 33 rfl)
theorem Tx.m_abs (T : Tx P w K mg base) : mg "abs" = none := let ⟨_, KX, G⟩ := T.x; He.free_ok KX G (T.c.fact 34 rfl)
theorem Tx.m_max (T : Tx P w K mg base) : mg "max" = none := let ⟨_, KX, G⟩ := T.x; He.free_ok KX G (T.c.fact 35 rfl)
theorem Tx.m_min (T : Tx P w K mg base) : mg "min" = none := let ⟨_, KX, G⟩ := T.x; He.free_ok KX G (T.c.fact 36 rfl)
theorem Tx.m_all (T : Tx P w K mg base) : mg "all" = none := let ⟨_, KX, G⟩ := T.x; He.free_ok KX G (T.c.fact 37 rfl)
theorem Tx.m_int (T : Tx P w K mg base) : mg "int" = none := let ⟨_, KX, G⟩ := T.x; He.free_ok KX G (T.c.fact 38 rfl)
theorem Tx.m_tuple (T : Tx P w K mg base) : mg "tuple" = none := let ⟨_, KX, G⟩ := T.x; He.free_ok KX G (T.c.fact 39 rfl)
theorem Tx.m_str (T : Tx P w K mg base) : mg "str" = none := let ⟨_, KX, G⟩ := T.x; He.free_ok KX G (T.c.fact 40 rfl)
theorem Tx.m_range (T : Tx P w K mg base) : mg "range" = none := let ⟨_, KX, G⟩ := T.x; He.free_ok KX G (T.c.fact 41 rfl)
theorem Tx.m_isinstance (T : Tx P w K mg base) : mg "isinstance" = none := let ⟨_, KX, G⟩ := T.x; He.free_ok KX G (T.c.fact 42 rfl)
theorem Tx.m_enumerate (T : Tx P w K mg base) : mg "enumerate" = none := let ⟨_, KX, G⟩ := T.x; He.free_ok KX G (T.c.fact 43 rfl)
theorem Tx.m_repr (T : Tx P w K mg base) : mg "repr" = none := let ⟨_, KX, G⟩ := T.x; He.free_ok KX G (T.c.fact 44 rfl)
theorem Tx.i_MOST_NAME (T : Tx P w K mg base) : ∃ t, mg "MOST_NAME" = some (.int 8 t) := let ⟨_, KX, G⟩ := T.x; He.int_ok KX G (T.c.fact 45 rfl)
theorem Tx.i_MOST_SWITCHES (T : Tx P w K mg base) : ∃ t, mg "MOST_SWITCHES" = some (.int 10 t) := let ⟨_, KX, G⟩ := T.x; He.int_ok KX G (T.c.fact 46 rfl)
theorem Tx.i_MOST_RULES (T : Tx P w K mg base) : ∃ t, mg "MOST_RULES" = some (.int 240 t) := let ⟨_, KX, G⟩ := T.x; He.int_ok KX G (T.c.fact 47 rfl)
theorem Tx.i_LETTERS (T : Tx P w K mg base) : ∃ t, mg "LETTERS" = some (.str "abcdefghijklmnopqrstuvwxyz" t) := let ⟨_, KX, G⟩ := T.x; He.str_ok KX G (T.c.fact 48 rfl)
theorem Tx.g_WORDS (T : Tx P w K mg base) : mg "WORDS" = some (.ref (He.ga K "WORDS")) := let ⟨_, KX, G⟩ := T.x; He.glo_ok KX G (T.c.fact 49 rfl)
theorem Tx.i_SIGNS (T : Tx P w K mg base) : ∃ t, mg "SIGNS" = some (.str "+-" t) := let ⟨_, KX, G⟩ := T.x; He.str_ok KX G (T.c.fact 50 rfl)
theorem Tx.g_PAIRS (T : Tx P w K mg base) : mg "PAIRS" = some (.ref (He.ga K "PAIRS")) := let ⟨_, KX, G⟩ := T.x; He.glo_ok KX G (T.c.fact 51 rfl)
theorem Tx.g_ALIKE (T : Tx P w K mg base) : mg "ALIKE" = some (.ref (He.ga K "ALIKE")) := let ⟨_, KX, G⟩ := T.x; He.glo_ok KX G (T.c.fact 52 rfl)
theorem Tx.gc_Panel (T : Tx P w K mg base) : mg "Panel" = some (.ref (He.ga K "Panel")) := let ⟨_, KX, G⟩ := T.x; He.glo_ok KX G (T.c.fact 53 rfl)
theorem Tx.c_Panel (T : Tx P w K mg base) : Cls K (He.ga K "Panel") := He.cls_ok (T.c.fact 54 rfl)
theorem Tx.mk_Panel (T : Tx P w K mg base) : Mk K (He.ga K "Panel") (He.ma K (He.ga K "Panel") "__init__") := He.mkr_ok (T.c.fact 55 rfl)
theorem Tx.n_Panel_rules (T : Tx P w K mg base) : NoAttr K (He.ga K "Panel") "rules" := He.noat_ok (T.c.fact 56 rfl)
theorem Tx.n_Panel_steps (T : Tx P w K mg base) : NoAttr K (He.ga K "Panel") "steps" := He.noat_ok (T.c.fact 57 rfl)
theorem Tx.n_Panel_switches (T : Tx P w K mg base) : NoAttr K (He.ga K "Panel") "switches" := He.noat_ok (T.c.fact 58 rfl)
theorem Tx.d_is_name (T : Tx P w K mg base) : ∃ fd, FunD K "is_name" "is_name" (defArgs (top 13)) (defBody (top 13)) (defScope (top 13)) [] [] (He.ga K "is_name") fd := T.c.def_ 0 rfl
theorem Tx.d_is_literal (T : Tx P w K mg base) : ∃ fd, FunD K "is_literal" "is_literal" (defArgs (top 14)) (defBody (top 14)) (defScope (top 14)) [] [] (He.ga K "is_literal") fd := T.c.def_ 1 rfl
theorem Tx.d_other_sign (T : Tx P w K mg base) : ∃ fd, FunD K "other_sign" "other_sign" (defArgs (top 15)) (defBody (top 15)) (defScope (top 15)) [] [] (He.ga K "other_sign") fd := T.c.def_ 2 rfl
theorem Tx.d_opposite (T : Tx P w K mg base) : ∃ fd, FunD K "opposite" "opposite" (defArgs (top 16)) (defBody (top 16)) (defScope (top 16)) [] [] (He.ga K "opposite") fd := T.c.def_ 3 rfl
theorem Tx.d_literals_of (T : Tx P w K mg base) : ∃ fd, FunD K "literals_of" "literals_of" (defArgs (top 17)) (defBody (top 17)) (defScope (top 17)) [] [] (He.ga K "literals_of") fd := T.c.def_ 4 rfl
theorem Tx.d_literal_text (T : Tx P w K mg base) : ∃ fd, FunD K "literal_text" "literal_text" (defArgs (top 18)) (defBody (top 18)) (defScope (top 18)) [] [] (He.ga K "literal_text") fd := T.c.def_ 5 rfl
theorem Tx.d_literal_in (T : Tx P w K mg base) : ∃ fd, FunD K "literal_in" "literal_in" (defArgs (top 19)) (defBody (top 19)) (defScope (top 19)) [] [] (He.ga K "literal_in") fd := T.c.def_ 6 rfl
theorem Tx.d_is_rule (T : Tx P w K mg base) : ∃ fd, FunD K "is_rule" "is_rule" (defArgs (top 23)) (defBody (top 23)) (defScope (top 23)) [] [] (He.ga K "is_rule") fd := T.c.def_ 7 rfl
theorem Tx.d_clauses_of (T : Tx P w K mg base) : ∃ fd, FunD K "clauses_of" "clauses_of" (defArgs (top 24)) (defBody (top 24)) (defScope (top 24)) [] [] (He.ga K "clauses_of") fd := T.c.def_ 8 rfl
theorem Tx.d_steps_of (T : Tx P w K mg base) : ∃ fd, FunD K "steps_of" "steps_of" (defArgs (top 25)) (defBody (top 25)) (defScope (top 25)) [] [] (He.ga K "steps_of") fd := T.c.def_ 9 rfl
theorem Tx.d_rule_text (T : Tx P w K mg base) : ∃ fd, FunD K "rule_text" "rule_text" (defArgs (top 26)) (defBody (top 26)) (defScope (top 26)) [] [] (He.ga K "rule_text") fd := T.c.def_ 10 rfl
theorem Tx.d_rule_in (T : Tx P w K mg base) : ∃ fd, FunD K "rule_in" "rule_in" (defArgs (top 27)) (defBody (top 27)) (defScope (top 27)) [] [] (He.ga K "rule_in") fd := T.c.def_ 11 rfl
theorem Tx.d_wrong_switch (T : Tx P w K mg base) : ∃ fd, FunD K "wrong_switch" "wrong_switch" (defArgs (top 29)) (defBody (top 29)) (defScope (top 29)) [] [] (He.ga K "wrong_switch") fd := T.c.def_ 12 rfl
theorem Tx.d_wrong_rule (T : Tx P w K mg base) : ∃ fd, FunD K "wrong_rule" "wrong_rule" (defArgs (top 30)) (defBody (top 30)) (defScope (top 30)) [] [] (He.ga K "wrong_rule") fd := T.c.def_ 13 rfl
theorem Tx.d_panel_text (T : Tx P w K mg base) : ∃ fd, FunD K "panel_text" "panel_text" (defArgs (top 31)) (defBody (top 31)) (defScope (top 31)) [] [] (He.ga K "panel_text") fd := T.c.def_ 14 rfl
theorem Tx.d_panel_in (T : Tx P w K mg base) : ∃ fd, FunD K "panel_in" "panel_in" (defArgs (top 32)) (defBody (top 32)) (defScope (top 32)) [] [] (He.ga K "panel_in") fd := T.c.def_ 15 rfl
theorem Tx.d_check_switches (T : Tx P w K mg base) : ∃ fd, FunD K "check_switches" "check_switches" (defArgs (top 33)) (defBody (top 33)) (defScope (top 33)) [] [] (He.ga K "check_switches") fd := T.c.def_ 16 rfl
theorem Tx.d_Panel___init__ (T : Tx P w K mg base) : ∃ fd, FunD K "__init__" "Panel.__init__" (defArgs (inClass (top 34) 0)) (defBody (inClass (top 34) 0)) (defScope (inClass (top 34) 0)) [.ref (He.dflAt ("Panel", some "__init__") 0 K)] [] (He.ma K (He.ga K "Panel") "__init__") fd := T.c.def_ 17 rfl
theorem Tx.d_Panel_text (T : Tx P w K mg base) : ∃ fd, FunD K "text" "Panel.text" (defArgs (inClass (top 34) 9)) (defBody (inClass (top 34) 9)) (defScope (inClass (top 34) 9)) [] [] (He.ma K (He.ga K "Panel") "text") fd := T.c.def_ 18 rfl
theorem Tx.d_Panel___str__ (T : Tx P w K mg base) : ∃ fd, FunD K "__str__" "Panel.__str__" (defArgs (inClass (top 34) 10)) (defBody (inClass (top 34) 10)) (defScope (inClass (top 34) 10)) [] [] (He.ma K (He.ga K "Panel") "__str__") fd := T.c.def_ 19 rfl
theorem Tx.d_Panel___eq__ (T : Tx P w K mg base) : ∃ fd, FunD K "__eq__" "Panel.__eq__" (defArgs (inClass (top 34) 11)) (defBody (inClass (top 34) 11)) (defScope (inClass (top 34) 11)) [] [] (He.ma K (He.ga K "Panel") "__eq__") fd := T.c.def_ 20 rfl
theorem Tx.d_law_bag (T : Tx P w K mg base) : ∃ fd, FunD K "_law_bag" "_law_bag" (defArgs (top 36)) (defBody (top 36)) (defScope (top 36)) [] [] (He.ga K "_law_bag") fd := T.c.def_ 21 rfl
theorem Tx.d_law_draw (T : Tx P w K mg base) : ∃ fd, FunD K "_law_draw" "_law_draw" (defArgs (top 37)) (defBody (top 37)) (defScope (top 37)) [] [] (He.ga K "_law_draw") fd := T.c.def_ 22 rfl
theorem Tx.d_law_one (T : Tx P w K mg base) : ∃ fd, FunD K "_law_one" "_law_one" (defArgs (top 38)) (defBody (top 38)) (defScope (top 38)) [] [] (He.ga K "_law_one") fd := T.c.def_ 23 rfl
theorem Tx.d_law_names (T : Tx P w K mg base) : ∃ fd, FunD K "_law_names" "_law_names" (defArgs (top 39)) (defBody (top 39)) (defScope (top 39)) [] [] (He.ga K "_law_names") fd := T.c.def_ 24 rfl
theorem Tx.d_law_rule (T : Tx P w K mg base) : ∃ fd, FunD K "_law_rule" "_law_rule" (defArgs (top 40)) (defBody (top 40)) (defScope (top 40)) [] [] (He.ga K "_law_rule") fd := T.c.def_ 25 rfl
theorem Tx.d_law_panel (T : Tx P w K mg base) : ∃ fd, FunD K "_law_panel" "_law_panel" (defArgs (top 41)) (defBody (top 41)) (defScope (top 41)) [] [] (He.ga K "_law_panel") fd := T.c.def_ 26 rfl
theorem Tx.d_law_made (T : Tx P w K mg base) : ∃ fd, FunD K "_law_made" "_law_made" (defArgs (top 42)) (defBody (top 42)) (defScope (top 42)) [] [] (He.ga K "_law_made") fd := T.c.def_ 27 rfl
theorem Tx.d_law_holds (T : Tx P w K mg base) : ∃ fd, FunD K "_law_holds" "_law_holds" (defArgs (top 43)) (defBody (top 43)) (defScope (top 43)) [] [] (He.ga K "_law_holds") fd := T.c.def_ 28 rfl
theorem Tx.d_law_keeps (T : Tx P w K mg base) : ∃ fd, FunD K "_law_keeps" "_law_keeps" (defArgs (top 44)) (defBody (top 44)) (defScope (top 44)) [] [] (He.ga K "_law_keeps") fd := T.c.def_ 29 rfl
theorem Tx.d_law_rule_text (T : Tx P w K mg base) : ∃ fd, FunD K "_law_rule_text" "_law_rule_text" (defArgs (top 45)) (defBody (top 45)) (defScope (top 45)) [] [] (He.ga K "_law_rule_text") fd := T.c.def_ 30 rfl
theorem Tx.d_law_text (T : Tx P w K mg base) : ∃ fd, FunD K "_law_text" "_law_text" (defArgs (top 46)) (defBody (top 46)) (defScope (top 46)) [] [] (He.ga K "_law_text") fd := T.c.def_ 31 rfl
theorem Tx.d_law_right (T : Tx P w K mg base) : ∃ fd, FunD K "_law_right" "_law_right" (defArgs (top 47)) (defBody (top 47)) (defScope (top 47)) [] [] (He.ga K "_law_right") fd := T.c.def_ 32 rfl
theorem Tx.d_law (T : Tx P w K mg base) : ∃ fd, FunD K "law" "law" (defArgs (top 48)) (defBody (top 48)) (defScope (top 48)) [] [] (He.ga K "law") fd := T.c.def_ 33 rfl
theorem Tx.d_Panel_read (T : Tx P w K mg base) : ∃ fd, FunD K "read" "Panel.read" (defArgs (inClass (top 34) 1)) (defBody (inClass (top 34) 1)) (defScope (inClass (top 34) 1)) [] [] (He5.wf K (He.ga K "Panel") "classmethod" "read") fd := T.cc.def_ 0 rfl
theorem Tx.q_Panel (T : Tx P w K mg base) : Cls K (He.ga K "Panel") ∧ isiB K (He.ga K "Panel") = true ∧ mg "Panel" = some (.ref (He.ga K "Panel")) := ⟨T.c_Panel, by have t := T.t; unfold ft at t; simp only [Bool.and_eq_true] at t; exact t.2.1.1.1.2, T.gc_Panel⟩
theorem Tx.k_MOST_NAME {X : Cx} {pos : Pos} (T : Tx P w X.K X.mg base) (hg : Gl X "MOST_NAME" := by rfl) : DE X (.Name "MOST_NAME" pos) (wC (.int 8)) := let ⟨_, h⟩ := T.i_MOST_NAME; dglob (v := .int 8) hg h ⟨_, rfl⟩ fun _ => .int _
theorem Tx.k_MOST_SWITCHES {X : Cx} {pos : Pos} (T : Tx P w X.K X.mg base) (hg : Gl X "MOST_SWITCHES" := by rfl) : DE X (.Name "MOST_SWITCHES" pos) (wC (.int 10)) := let ⟨_, h⟩ := T.i_MOST_SWITCHES; dglob (v := .int 10) hg h ⟨_, rfl⟩ fun _ => .int _
theorem Tx.k_MOST_RULES {X : Cx} {pos : Pos} (T : Tx P w X.K X.mg base) (hg : Gl X "MOST_RULES" := by rfl) : DE X (.Name "MOST_RULES" pos) (wC (.int 240)) := let ⟨_, h⟩ := T.i_MOST_RULES; dglob (v := .int 240) hg h ⟨_, rfl⟩ fun _ => .int _
theorem Tx.k_LETTERS {X : Cx} {pos : Pos} (T : Tx P w X.K X.mg base) (hg : Gl X "LETTERS" := by rfl) : DE X (.Name "LETTERS" pos) (wC (.str "abcdefghijklmnopqrstuvwxyz")) := let ⟨_, h⟩ := T.i_LETTERS; dglob (v := .str "abcdefghijklmnopqrstuvwxyz") hg h ⟨_, rfl⟩ fun _ => .str _ (by decide +kernel)
theorem Tx.k_WORDS {X : Cx} {pos : Pos} (T : Tx P w X.K X.mg base) (hg : Gl X "WORDS" := by rfl) : DE X (.Name "WORDS" pos) (wC (.ktp [.str "be", .str "either", .str "needs", .str "bars", .str "same", .str "unlike"])) := dglob (v := .ref (He.ga X.K "WORDS")) hg T.g_WORDS rfl fun H => by
  have t := T.t; unfold ft at t; simp only [Bool.and_eq_true] at t
  exact .ktp (He.tupB_ok t.2.1.1.2 H.ice) (.cons (.str _ (by decide +kernel)) (.cons (.str _ (by decide +kernel)) (.cons (.str _ (by decide +kernel)) (.cons (.str _ (by decide +kernel)) (.cons (.str _ (by decide +kernel)) (.cons (.str _ (by decide +kernel)) (.nil))))))) (by show 6 ≤ sizeLine; decide)
theorem Tx.k_SIGNS {X : Cx} {pos : Pos} (T : Tx P w X.K X.mg base) (hg : Gl X "SIGNS" := by rfl) : DE X (.Name "SIGNS" pos) (wC (.str "+-")) := let ⟨_, h⟩ := T.i_SIGNS; dglob (v := .str "+-") hg h ⟨_, rfl⟩ fun _ => .str _ (by decide +kernel)
theorem Tx.k_PAIRS {X : Cx} {pos : Pos} (T : Tx P w X.K X.mg base) (hg : Gl X "PAIRS" := by rfl) : DE X (.Name "PAIRS" pos) (wC (.ktp [.str "either", .str "needs", .str "bars"])) := dglob (v := .ref (He.ga X.K "PAIRS")) hg T.g_PAIRS rfl fun H => by
  have t := T.t; unfold ft at t; simp only [Bool.and_eq_true] at t
  exact .ktp (He.tupB_ok t.2.1.2 H.ice) (.cons (.str _ (by decide +kernel)) (.cons (.str _ (by decide +kernel)) (.cons (.str _ (by decide +kernel)) (.nil)))) (by show 3 ≤ sizeLine; decide)
theorem Tx.k_ALIKE {X : Cx} {pos : Pos} (T : Tx P w X.K X.mg base) (hg : Gl X "ALIKE" := by rfl) : DE X (.Name "ALIKE" pos) (wC (.ktp [.str "same", .str "unlike"])) := dglob (v := .ref (He.ga X.K "ALIKE")) hg T.g_ALIKE rfl fun H => by
  have t := T.t; unfold ft at t; simp only [Bool.and_eq_true] at t
  exact .ktp (He.tupB_ok t.2.2 H.ice) (.cons (.str _ (by decide +kernel)) (.cons (.str _ (by decide +kernel)) (.nil))) (by show 2 ≤ sizeLine; decide)
end
end LW

namespace LW
open PySem PySem.Spec PyProof.Rows L2 FD FM
local macro_rules | `(tactic| walk_at "w") => `(tactic| simp only [↓FD.wCM_e, ↓FD.wCMK_e, ↓FD.wMakeV_e, ↓FD.wMethKC_e, ↓FD.wSetSort_e, ↓FD.gSplit_e, ↓FD.gSplitN_e, ↓FD.wSetLenT_e, ↓FD.wRevT_e, ↓FD.wSetLen_e, ↓FD.wRev_e, ↓FD.gDictS_e, ↓FD.gMinS_e, ↓FD.gIndexB_e, ↓FD.gListN_e, ↓FD.gAddC_e, ↓FD.wDispN_e, ↓FD.wMethD_e, ↓FD.gPop0_e, ↓FD.sFin_e, ↓FD.gFldD_e, ↓FD.sCt_e, ↓FD.sFrz_e, ↓FD.gLeS_e, ↓FD.gStrO_e, ↓FD.gBoolO_e, ↓FD.wM0_e, ↓FD.gUpper_e, ↓FD.gUnL_e, ↓FD.sSeq_e, ↓FD.sRet_e, ↓FD.sIf_e, ↓FD.sAsg_e, ↓FD.gSet_e, ↓FD.sDrop_e, ↓FD.sNext_e, ↓FD.sPar_e, ↓FD.sPar3_e, ↓FD.wIf_e, ↓FD.wOp_e, ↓FD.wUn_e, ↓FD.wVar_e, ↓FD.wC_e, ↓FD.wTst_e, ↓FD.wAnd_e, ↓FD.wOr_e, ↓FD.wNot_e, ↓FD.wAndV_e, ↓FD.wOrV_e, ↓FD.wNotV_e, ↓FD.wChain_e, ↓FD.aNil_e, ↓FD.aCons_e, ↓FD.wTup_e, ↓FD.wLst_e, ↓FD.wFtp_e, ↓FD.wNew_e, ↓FD.wCall_e, ↓FD.wB_e, ↓FD.wSl_e, ↓FD.oSome_e, ↓FD.oNone_e, ↓FD.wIsi_e, ↓FD.wIsiC_e, ↓FD.p1_e, ↓FD.p2_e, ↓FD.gLen_e, ↓FD.iLst_e, ↓FD.iTup_e, ↓FD.iStrD_e, ↓FD.iEnT_e, ↓FD.iEnL_e, ↓FD.iRng_e, ↓FD.iRng2_e, ↓FD.gTup_e, ↓FD.gsNil_e, ↓FD.gsCons_e, ↓FD.wM_e, ↓FD.wIxT_e, ↓FD.wFld_e, ↓FD.wMeth_e, ↓FD.wMake_e, ↓FD.sFldD_e, ↓FD.wDGet_e, ↓FD.sDput_e, ↓FD.wDNewK_e, ↓FD.wDNewT_e, ↓FD.wDisp1_e, ↓FD.wIce_e, ↓FD.gSub_e, ↓FD.wCallK_e, ↓FD.t1_e, ↓FD.t2_e, ↓FD.t1w_e, ↓FD.tYesD_e, ↓FD.gDIn_e, ↓FD.gDNin_e, ↓FD.gIndexT_e, ↓FD.gIndex_e, ↓FD.gInt_e, ↓FD.gAbs_e, ↓FD.gMax_e, ↓FD.gMin_e, ↓FD.gDivmod_e, ↓FD.wFz_e, ↓FD.wDGetD_e, ↓FD.t3_e, ↓FD.iZip3D_e, ↓FD.sForIT_e, ↓FD.wIsiO_e, ↓FD.wFmt_e, ↓FD.wTruO_e, ↓FD.gLenO_e, ↓FD.wMakeK_e, ↓FD.gOwn_e, ↓FD.t12_e, ↓FD.iZipMD_e, ↓FD.sForKT_e, ↓FD.wDSetd_e, ↓FD.wVals_e, ↓FD.iRng3_e, ↓FD.iEnS_e, ↓FD.gZ2_eq, ↓zip2_cl, ↓FD.addF_ftp, ↓FD.wPs_nil, ↓FD.wPs_cons, ↓FM.keyed_nil, ↓FM.keyed_str, ↓FM.sortP_lst, ↓FM.sortP_ftp, ↓lk_de_switches, ↓lk_de_rules, ↓lk_de_promises, ↓lk_de_past, ↓lk_de_undo, ↓lk_de_put, ↓lk_de_turn, ↓lk_de_become, ↓lk_de_take, ↓lk_de_promise, ↓lk_de_lift, ↓lk_de_trial, ↓lk_de_as_panel, ↓put_de_past, ↓put_de_promises, ↓lk_sg_setting, ↓lk_sg_log, ↓lk_sg_past, ↓lk_sg_other, ↓insR_stage, ↓lk_bo_panel, ↓lk_bo_setting, ↓lk_bo_log, ↓lk_bo_busy, ↓lk_bo_past, ↓lk_bo_do, ↓lk_bo_do_all, ↓lk_bo_undo, ↓lk_bo_take, ↓lk_bo_trial, ↓lk_bo_is_deed, ↓lk_bo_check_idle, ↓put_bo_setting, ↓put_bo_log, ↓put_bo_busy, ↓put_bo_past, ↓isiO_pan, ↓insT_pan, ↓FD.js_nil, ↓FD.js_cons, ↓FD.wLc2N_eq, ↓FD.addN_lst, ↓sFor_eq, ↓wLc_eq, ↓wLc2_eq, ↓wDc_eq, ↓look_zero, ↓look_succ, ↓got_so, ↓isB_bl, ↓isI_int, ↓isS_str, ↓isT_tup, ↓isT_ftp, ↓isT_ktp, ↓isT_tp, ↓isT_tq, ↓one_one, ↓two_two, ↓startD_cc, ↓startD_cn, ↓startD_nn, ↓FD.ix_str, ↓FD.ix_tup, ↓ix_ftp, ↓ix_ktp, ↓ix_lst, ↓ix_scr, ↓ix_tp, ↓ix_tq, ↓atI0, ↓atI1, ↓atI2, ↓atI3, ↓FD.eq_str, ↓FD.ne_str, ↓FD.eq_int, ↓FD.ne_int, ↓FD.add_int, ↓FD.sub_int, ↓FD.lt_int, ↓FD.le_int, ↓FD.gt_int, ↓FD.ge_int, ↓FD.add_str, ↓FD.add_lst, ↓FD.add_tup, ↓FD.mul_int, ↓FD.mod_int, ↓FD.fdiv_int, ↓FD.pow_int, ↓isN_non, ↓notN_non, ↓FD.len_str, ↓len_tup, ↓len_ftp, ↓len_ktp, ↓len_lst, ↓len_scr, ↓len_tp, ↓len_tq, ↓seq_tup, ↓seq_ftp, ↓seq_ktp, ↓seq_lst, ↓seq_scr, ↓seq_tp, ↓seq_tq, ↓in_tup, ↓in_ftp, ↓in_ktp, ↓in_lst, ↓nin_tup, ↓nin_ftp, ↓nin_ktp, ↓nin_lst, ↓FD.in_str, ↓nin_str, ↓isC_one, ↓asL_lst, ↓asL_scr, ↓if_tt, ↓if_ff, ↓isi_ss, ↓isi_tt, ↓isi_st, ↓isi_ts, ↓ty_str, ↓ty_tup, ↓ty_ftp, ↓ty_ktp, ↓ty_tp, ↓ty_tq, ↓all_lst, ↓any_lst, ↓flat_s, ↓flat_set, ↓tuple_lst, ↓FD.int_int, ↓eq_ftp_nil, ↓ne_ftp_nil, ↓isNon_non, ↓isNon_int, ↓isNon_str, ↓isNon_ptr, ↓isNon_tup, ↓isNon_ftp, ↓inL_strs, ↓flatSs, ↓inL_sets, ↓flatSets, ↓FM.tw, ↓FM.tw3, ↓FM.sl_str, ↓sl_set, ↓cell_upd, ↓lk_sw, ↓lk_ru, ↓lk_st, ↓lk_place, ↓lk_has, ↓lk_keeps, ↓lk_wrongs, ↓lk_goods, ↓lk_ways_from, ↓lk_text, ↓ins_pan, ↓FD.fit_le, ↓cx_K, ↓nox_K, ↓blk_K, ↓bx_K, ↓c1, ↓c2, ↓c3, ↓c4, ↓inL_cons, ↓inL_nil, ↓all_bools, ↓any_bools, ↓in_tp, ↓in_tq, ↓nin_tp, ↓nin_tq, ↓FM.sl_ftp, ↓FM.sl_tup, ↓FM.sl_lst, ↓FM.sl_scr, ↓index_eq, ↓ex_ftp, ↓eqd_str, ↓wf_at, ↓isT_cl, ↓isT_st, ↓isT_lit, ↓ix_lit0, ↓ix_lit1, ↓len_lit, ↓ty_lit, ↓eq_lit, ↓ne_lit, ↓eq_set, ↓ne_set, ↓len_set, ↓ty_set, ↓isS_set, ↓isC_sg, ↓sNever_e, ↓enumD_map, ↓dpAll_strs, ↓dpAll_mapI, ↓ne_lst_nil, ↓eq_lst_nil, ↓isT_grp, ↓len_grp, ↓isDc_wf, ↓wn_at, ↓isT_way, ↓len_way, ↓ty_way, ↓ty_st, ↓len_st, ↓ix_st0, ↓ix_st1, ↓inD_lits, ↓ninD_lits, ↓dpAll_sets, ↓three_three, ↓zip3_sets, ↓isT_z3, ↓inL_lock, ↓ninT_lits, ↓FM.tp_t, ↓FM.tp_f, ↓FM.tq_t, ↓FM.tq_f, ↓isT_pr, ↓tupleP_lst, ↓isT_it, ↓isNon_set, Bool.not_true, Bool.not_false, Bool.false_eq_true, if_false, if_true, true_and, and_true, List.set_cons_zero, List.set_cons_succ, List.length_cons, List.length_nil, List.length_map, eq_self, decide_true, decide_false, Bool.true_eq_false, or_self, Bool.or_self, List.all_cons, List.all_nil, Bool.and_true, Bool.true_and, Bool.or_false, Bool.false_or, Bool.or_true, Bool.true_or, Bool.and_false, Bool.false_and, Int.reduceLT, Int.reduceLE, Int.reduceEq, Nat.reduceLeDiff, Nat.reduceAdd, Nat.reduceLT, wf_some, wn_some, fold_lit, fold_litp, fold_litm, sg_iff, sg_in_pm, isNon_opt, isEmpty_map, ↓reduceIte, nq_0_1, nq_0_2, nq_0_3, nq_0_4, nq_0_5, nq_0_6, nq_0_7, nq_1_0, nq_1_2, nq_1_3, nq_1_4, nq_1_5, nq_1_6, nq_1_7, nq_2_0, nq_2_1, nq_2_3, nq_2_4, nq_2_5, nq_2_6, nq_2_7, nq_3_0, nq_3_1, nq_3_2, nq_3_4, nq_3_5, nq_3_6, nq_3_7, nq_4_0, nq_4_1, nq_4_2, nq_4_3, nq_4_5, nq_4_6, nq_4_7, nq_5_0, nq_5_1, nq_5_2, nq_5_3, nq_5_4, nq_5_6, nq_5_7, nq_6_0, nq_6_1, nq_6_2, nq_6_3, nq_6_4, nq_6_5, nq_6_7, nq_7_0, nq_7_1, nq_7_2, nq_7_3, nq_7_4, nq_7_5, nq_7_6])
section
variable {P : Program} {w : World} {K : PySem.W.Frag} {mg : Str → Option Value} {base : Heap}
theorem sc_literal_in : FnScope ["word"] ["word"] (defScope (top 19)) := ⟨rfl, rfl, rfl, by decide +kernel, rfl, by decide +kernel, by decide +kernel⟩
def sp_literal_in : DSp := fun ds M post => ∃ (s : Str), ds = [.str s] ∧ post (litW s) M
theorem cl_literal_in {s : Str} {M : Mem} {post : WK} : sp_literal_in [.str s] M post = post (litW s) M := by
  simp [-Bool.exists_bool, sp_literal_in, tp_inj, tq_inj, litD_inj, strs_inj, ruleD_inj, clD_inj, setD_inj, rules_inj, lits_inj, sets_inj, ints_inj, panF_inj, rngs_inj, rngE_inj, sg_inj, and_assoc, Int.natCast_inj]
theorem fn_literal_in (T : Tx P w K mg base) : Fng P w K mg base 1 "literal_in" (top 19) ["word"] sp_literal_in := by
  have S := sc_literal_in
  refine fng_of T.d_literal_in T.g_literal_in S (fun ds M post h => by unfold sp_literal_in at h; grind) fun f cdv A outer s H gd hr => ⟨_, (ds_one (ds_ret (de_tup (da_cons (de_slice o_slice (dv 0) (do_some dint) do_none) (da_cons (de_slice o_slice (dv 0) do_none (do_some dint)) da_nil))))), ?_⟩
  rintro ds M post ⟨s, rfl, h⟩
  unfold litW at h
  (try walk_at "w")
  exact h
theorem ok_literal_in (T : Tx P w K mg base) : Pub P w K mg base 1 "literal_in" ["word"] sp_literal_in := (fn_literal_in T).pub fun _ _ _ _ _ _ us hl => match us, hl with | [_], _ => rfl

theorem sc_rule_in : FnScope ["text", "words", "word"] ["text"] (defScope (top 27)) := ⟨rfl, rfl, rfl, by decide +kernel, rfl, by decide +kernel, by decide +kernel⟩
def sp_rule_in : DSp := fun ds M post => ∃ (s : Str), ds = [.str s] ∧ s.length ≤ 1000000 ∧ post (wordsD (Txt.split s " ")) M
local macro_rules | `(tactic| walk_at "rule_in") => `(tactic| simp only [↓cl_literal_in, cl_literal_in, ↓FD.wCM_e, ↓FD.wCMK_e, ↓FD.wMakeV_e, ↓FD.wMethKC_e, ↓FD.wSetSort_e, ↓FD.gSplit_e, ↓FD.gSplitN_e, ↓FD.wSetLenT_e, ↓FD.wRevT_e, ↓FD.wSetLen_e, ↓FD.wRev_e, ↓FD.gDictS_e, ↓FD.gMinS_e, ↓FD.gIndexB_e, ↓FD.gListN_e, ↓FD.gAddC_e, ↓FD.wDispN_e, ↓FD.wMethD_e, ↓FD.gPop0_e, ↓FD.sFin_e, ↓FD.gFldD_e, ↓FD.sCt_e, ↓FD.sFrz_e, ↓FD.gLeS_e, ↓FD.gStrO_e, ↓FD.gBoolO_e, ↓FD.wM0_e, ↓FD.gUpper_e, ↓FD.gUnL_e, ↓FD.sSeq_e, ↓FD.sRet_e, ↓FD.sIf_e, ↓FD.sAsg_e, ↓FD.gSet_e, ↓FD.sDrop_e, ↓FD.sNext_e, ↓FD.sPar_e, ↓FD.sPar3_e, ↓FD.wIf_e, ↓FD.wOp_e, ↓FD.wUn_e, ↓FD.wVar_e, ↓FD.wC_e, ↓FD.wTst_e, ↓FD.wAnd_e, ↓FD.wOr_e, ↓FD.wNot_e, ↓FD.wAndV_e, ↓FD.wOrV_e, ↓FD.wNotV_e, ↓FD.wChain_e, ↓FD.aNil_e, ↓FD.aCons_e, ↓FD.wTup_e, ↓FD.wLst_e, ↓FD.wFtp_e, ↓FD.wNew_e, ↓FD.wCall_e, ↓FD.wB_e, ↓FD.wSl_e, ↓FD.oSome_e, ↓FD.oNone_e, ↓FD.wIsi_e, ↓FD.wIsiC_e, ↓FD.p1_e, ↓FD.p2_e, ↓FD.gLen_e, ↓FD.iLst_e, ↓FD.iTup_e, ↓FD.iStrD_e, ↓FD.iEnT_e, ↓FD.iEnL_e, ↓FD.iRng_e, ↓FD.iRng2_e, ↓FD.gTup_e, ↓FD.gsNil_e, ↓FD.gsCons_e, ↓FD.wM_e, ↓FD.wIxT_e, ↓FD.wFld_e, ↓FD.wMeth_e, ↓FD.wMake_e, ↓FD.sFldD_e, ↓FD.wDGet_e, ↓FD.sDput_e, ↓FD.wDNewK_e, ↓FD.wDNewT_e, ↓FD.wDisp1_e, ↓FD.wIce_e, ↓FD.gSub_e, ↓FD.wCallK_e, ↓FD.t1_e, ↓FD.t2_e, ↓FD.t1w_e, ↓FD.tYesD_e, ↓FD.gDIn_e, ↓FD.gDNin_e, ↓FD.gIndexT_e, ↓FD.gIndex_e, ↓FD.gInt_e, ↓FD.gAbs_e, ↓FD.gMax_e, ↓FD.gMin_e, ↓FD.gDivmod_e, ↓FD.wFz_e, ↓FD.wDGetD_e, ↓FD.t3_e, ↓FD.iZip3D_e, ↓FD.sForIT_e, ↓FD.wIsiO_e, ↓FD.wFmt_e, ↓FD.wTruO_e, ↓FD.gLenO_e, ↓FD.wMakeK_e, ↓FD.gOwn_e, ↓FD.t12_e, ↓FD.iZipMD_e, ↓FD.sForKT_e, ↓FD.wDSetd_e, ↓FD.wVals_e, ↓FD.iRng3_e, ↓FD.iEnS_e, ↓FD.gZ2_eq, ↓zip2_cl, ↓FD.addF_ftp, ↓FD.wPs_nil, ↓FD.wPs_cons, ↓FM.keyed_nil, ↓FM.keyed_str, ↓FM.sortP_lst, ↓FM.sortP_ftp, ↓lk_de_switches, ↓lk_de_rules, ↓lk_de_promises, ↓lk_de_past, ↓lk_de_undo, ↓lk_de_put, ↓lk_de_turn, ↓lk_de_become, ↓lk_de_take, ↓lk_de_promise, ↓lk_de_lift, ↓lk_de_trial, ↓lk_de_as_panel, ↓put_de_past, ↓put_de_promises, ↓lk_sg_setting, ↓lk_sg_log, ↓lk_sg_past, ↓lk_sg_other, ↓insR_stage, ↓lk_bo_panel, ↓lk_bo_setting, ↓lk_bo_log, ↓lk_bo_busy, ↓lk_bo_past, ↓lk_bo_do, ↓lk_bo_do_all, ↓lk_bo_undo, ↓lk_bo_take, ↓lk_bo_trial, ↓lk_bo_is_deed, ↓lk_bo_check_idle, ↓put_bo_setting, ↓put_bo_log, ↓put_bo_busy, ↓put_bo_past, ↓isiO_pan, ↓insT_pan, ↓FD.js_nil, ↓FD.js_cons, ↓FD.wLc2N_eq, ↓FD.addN_lst, ↓sFor_eq, ↓wLc_eq, ↓wLc2_eq, ↓wDc_eq, ↓look_zero, ↓look_succ, ↓got_so, ↓isB_bl, ↓isI_int, ↓isS_str, ↓isT_tup, ↓isT_ftp, ↓isT_ktp, ↓isT_tp, ↓isT_tq, ↓one_one, ↓two_two, ↓startD_cc, ↓startD_cn, ↓startD_nn, ↓FD.ix_str, ↓FD.ix_tup, ↓ix_ftp, ↓ix_ktp, ↓ix_lst, ↓ix_scr, ↓ix_tp, ↓ix_tq, ↓atI0, ↓atI1, ↓atI2, ↓atI3, ↓FD.eq_str, ↓FD.ne_str, ↓FD.eq_int, ↓FD.ne_int, ↓FD.add_int, ↓FD.sub_int, ↓FD.lt_int, ↓FD.le_int, ↓FD.gt_int, ↓FD.ge_int, ↓FD.add_str, ↓FD.add_lst, ↓FD.add_tup, ↓FD.mul_int, ↓FD.mod_int, ↓FD.fdiv_int, ↓FD.pow_int, ↓isN_non, ↓notN_non, ↓FD.len_str, ↓len_tup, ↓len_ftp, ↓len_ktp, ↓len_lst, ↓len_scr, ↓len_tp, ↓len_tq, ↓seq_tup, ↓seq_ftp, ↓seq_ktp, ↓seq_lst, ↓seq_scr, ↓seq_tp, ↓seq_tq, ↓in_tup, ↓in_ftp, ↓in_ktp, ↓in_lst, ↓nin_tup, ↓nin_ftp, ↓nin_ktp, ↓nin_lst, ↓FD.in_str, ↓nin_str, ↓isC_one, ↓asL_lst, ↓asL_scr, ↓if_tt, ↓if_ff, ↓isi_ss, ↓isi_tt, ↓isi_st, ↓isi_ts, ↓ty_str, ↓ty_tup, ↓ty_ftp, ↓ty_ktp, ↓ty_tp, ↓ty_tq, ↓all_lst, ↓any_lst, ↓flat_s, ↓flat_set, ↓tuple_lst, ↓FD.int_int, ↓eq_ftp_nil, ↓ne_ftp_nil, ↓isNon_non, ↓isNon_int, ↓isNon_str, ↓isNon_ptr, ↓isNon_tup, ↓isNon_ftp, ↓inL_strs, ↓flatSs, ↓inL_sets, ↓flatSets, ↓FM.tw, ↓FM.tw3, ↓FM.sl_str, ↓sl_set, ↓cell_upd, ↓lk_sw, ↓lk_ru, ↓lk_st, ↓lk_place, ↓lk_has, ↓lk_keeps, ↓lk_wrongs, ↓lk_goods, ↓lk_ways_from, ↓lk_text, ↓ins_pan, ↓FD.fit_le, ↓cx_K, ↓nox_K, ↓blk_K, ↓bx_K, ↓c1, ↓c2, ↓c3, ↓c4, ↓inL_cons, ↓inL_nil, ↓all_bools, ↓any_bools, ↓in_tp, ↓in_tq, ↓nin_tp, ↓nin_tq, ↓FM.sl_ftp, ↓FM.sl_tup, ↓FM.sl_lst, ↓FM.sl_scr, ↓index_eq, ↓ex_ftp, ↓eqd_str, ↓wf_at, ↓isT_cl, ↓isT_st, ↓isT_lit, ↓ix_lit0, ↓ix_lit1, ↓len_lit, ↓ty_lit, ↓eq_lit, ↓ne_lit, ↓eq_set, ↓ne_set, ↓len_set, ↓ty_set, ↓isS_set, ↓isC_sg, ↓sNever_e, ↓enumD_map, ↓dpAll_strs, ↓dpAll_mapI, ↓ne_lst_nil, ↓eq_lst_nil, ↓isT_grp, ↓len_grp, ↓isDc_wf, ↓wn_at, ↓isT_way, ↓len_way, ↓ty_way, ↓ty_st, ↓len_st, ↓ix_st0, ↓ix_st1, ↓inD_lits, ↓ninD_lits, ↓dpAll_sets, ↓three_three, ↓zip3_sets, ↓isT_z3, ↓inL_lock, ↓ninT_lits, ↓FM.tp_t, ↓FM.tp_f, ↓FM.tq_t, ↓FM.tq_f, ↓isT_pr, ↓tupleP_lst, ↓isT_it, ↓isNon_set, Bool.not_true, Bool.not_false, Bool.false_eq_true, if_false, if_true, true_and, and_true, List.set_cons_zero, List.set_cons_succ, List.length_cons, List.length_nil, List.length_map, eq_self, decide_true, decide_false, Bool.true_eq_false, or_self, Bool.or_self, List.all_cons, List.all_nil, Bool.and_true, Bool.true_and, Bool.or_false, Bool.false_or, Bool.or_true, Bool.true_or, Bool.and_false, Bool.false_and, Int.reduceLT, Int.reduceLE, Int.reduceEq, Nat.reduceLeDiff, Nat.reduceAdd, Nat.reduceLT, wf_some, wn_some, fold_lit, fold_litp, fold_litm, sg_iff, sg_in_pm, isNon_opt, isEmpty_map, ↓reduceIte, nq_0_1, nq_0_2, nq_0_3, nq_0_4, nq_0_5, nq_0_6, nq_0_7, nq_1_0, nq_1_2, nq_1_3, nq_1_4, nq_1_5, nq_1_6, nq_1_7, nq_2_0, nq_2_1, nq_2_3, nq_2_4, nq_2_5, nq_2_6, nq_2_7, nq_3_0, nq_3_1, nq_3_2, nq_3_4, nq_3_5, nq_3_6, nq_3_7, nq_4_0, nq_4_1, nq_4_2, nq_4_3, nq_4_5, nq_4_6, nq_4_7, nq_5_0, nq_5_1, nq_5_2, nq_5_3, nq_5_4, nq_5_6, nq_5_7, nq_6_0, nq_6_1, nq_6_2, nq_6_3, nq_6_4, nq_6_5, nq_6_7, nq_7_0, nq_7_1, nq_7_2, nq_7_3, nq_7_4, nq_7_5, nq_7_6])
theorem fn_rule_in (T : Tx P w K mg base) : Fng P w K mg base 2 "rule_in" (top 27) ["text"] sp_rule_in := by
  have S := sc_rule_in
  refine fng_of T.d_rule_in T.g_rule_in S (fun ds M post h => by unfold sp_rule_in at h; grind) fun f cdv A outer s H gd hr => ⟨_, (ds_cons (ds_set (i := 1) S.nd (de_ms PySem.F.slot_str_split PySem.F.type_str_split m_split (dv 0) (da_cons dstr da_nil)))
      (ds_cons (ds_if (dt_cmp o_in (de_ix o_ix (dv 1) dint) T.k_ALIKE)
      (ds_one (ds_ret (de_ty c_tuple T.m_tuple (by decide +kernel) (da_cons (dv 1) da_nil))))
      ds_nil)
      (ds_one (ds_ret (de_op o_add (de_tup (da_cons (de_ix o_ix (dv 1) dint) da_nil)) (de_ty c_tuple T.m_tuple (by decide +kernel) (da_cons (de_lc (own := [("word", 2)]) rfl S.nd (di_list (de_slice o_slice (dv 1) (do_some dint) do_none)) (blkOk_by (N := ["text", "words", "word"]) (sc := defScope (top 27)) (by decide +kernel)) tgt1 (fun _ _ _ _ _ => pg_name (i := 2) S.nd rfl (Or.inl rfl)) (fun _ _ _ _ _ => dts_nil) (fun _ _ _ _ _ => (de_call (ok_literal_in T) (hr.mono (by decide)) gd (da_cons (dv 2) da_nil)))) da_nil))))))), ?_⟩
  rintro ds M post ⟨s, rfl, hs, h⟩
  (try walk_at "rule_in")
  refine ⟨⟨_, rfl⟩, by decide, by omega, ?_⟩
  cases e : Txt.split s " " with
  | nil => exact absurd e split_ne
  | cons w ws =>
    rw [e] at h
    have h : post (rowD w ws) M := h
    have pl : (w :: ws).length ≤ s.length + 1 := by rw [← e]; exact split_count
    rw [List.length_cons] at pl
    unfold rowD at h
    rw [List.map_cons]
    (try walk_at "rule_in")
    by_cases ma : w ∈ [("same" : Str), "unlike"]
    · rw [if_pos ma] at h
      rw [if_pos (alike_word ma)]
      (try walk_at "rule_in")
      exact h
    · rw [if_neg ma] at h
      rw [if_neg (by rw [alike_noword ma]; simp)]
      (try walk_at "rule_in")
      rw [show cutL (D.str w :: ws.map D.str) (some 1) none = ws.map D.str by rw [show (some (1 : Int)) = some ((1 : Nat) : Int) from rfl, cutL_drop, List.drop_one, List.tail_cons]]
      refine lc_map ws D.str litW trivial ?_ ?_
      · intro c hc yes hy
        (try walk_at "rule_in")
        exact hy
      · (try walk_at "rule_in")
        rw [add_tf (by rw [List.length_map]; omega)]
        exact h
theorem ok_rule_in (T : Tx P w K mg base) : Pub P w K mg base 2 "rule_in" ["text"] sp_rule_in := (fn_rule_in T).pub fun _ _ _ _ _ _ us hl => match us, hl with | [_], _ => rfl

theorem sc_is_name : FnScope ["value", "letter"] ["value"] (defScope (top 13)) := ⟨rfl, rfl, rfl, by decide +kernel, rfl, by decide +kernel, by decide +kernel⟩
def sp_is_name : DSp := fun ds M post => ∃ s, ds = [.str s] ∧ post (.bl (nameOk s)) M
theorem cl_is_name {s : Str} {M : Mem} {post : WK} : sp_is_name [.str s] M post = post (.bl (nameOk s)) M := by
  simp [-Bool.exists_bool, sp_is_name, tp_inj, tq_inj, litD_inj, strs_inj, ruleD_inj, clD_inj, setD_inj, rules_inj, lits_inj, sets_inj, ints_inj, panF_inj, rngs_inj, rngE_inj, sg_inj, and_assoc, Int.natCast_inj]
theorem fn_is_name (T : Tx P w K mg base) : Fng P w K mg base 1 "is_name" (top 13) ["value"] sp_is_name := by
  have S := sc_is_name
  refine fng_of T.d_is_name T.g_is_name S (fun ds M post h => by unfold sp_is_name at h; grind) fun f cdv A outer s H gd hr => ⟨_, (ds_cons (ds_if (PW.pt (dw_or (dt_not (dt_val (de_isi (T := "str") (dv 0) T.m_isinstance T.m_str (by decide +kernel)))) (dw_or (dt_not (dt_chain o_le o_le dint (de_b c_len T.m_len (by decide +kernel) (da_cons (dv 0) da_nil)) T.k_MOST_NAME)) (dw_or1 (dt_cmp o_in (dv 0) T.k_WORDS)))))
      (ds_one (ds_ret dbl))
      ds_nil)
      (ds_one (ds_ret (de_b (c_all rfl) T.m_all (by decide +kernel) (da_cons (de_lc (own := [("letter", 1)]) rfl S.nd (di_str (dv 0)) (blkOk_by (N := ["value", "letter"]) (sc := defScope (top 13)) (by decide +kernel)) tgt1 (fun _ _ _ _ _ => pg_name (i := 1) S.nd rfl (Or.inl rfl)) (fun _ _ _ _ _ => dts_nil) (fun _ _ _ _ _ => (de_cmp o_in (dv 1) T.k_LETTERS))) da_nil))))), ?_⟩
  rintro ds M post ⟨s, rfl, h⟩
  have hw : (decide (Str.ofString "be" = s) || (decide (Str.ofString "either" = s) || (decide (Str.ofString "needs" = s) || (decide (Str.ofString "bars" = s) || (decide (Str.ofString "same" = s) || decide (Str.ofString "unlike" = s)))))) = decide (s ∈ words) := by
    rw [Bool.eq_iff_iff]
    simp only [words, List.mem_cons, List.not_mem_nil, or_false, Bool.or_eq_true, decide_eq_true_eq, @eq_comm Str s]
  (try walk_at "w")
  rw [hw]
  unfold nameOk at h
  by_cases h1 : 1 ≤ s.length
  · by_cases h2 : s.length ≤ 8
    · rw [if_pos (by simp; omega), if_neg (by simp; omega)]
      by_cases h3 : s ∈ words
      · rw [if_pos (by simp [h3])]
        simpa [h3] using h
      · rw [if_neg (by simp [h3])]
        refine lc_map s.cps.toList (fun c => .str ⟨#[c]⟩) (fun c => D.bl (decide (c ∈ letters.cps.toList))) trivial ?_ ?_
        · intro c hc yes hy
          (try walk_at "w")
          exact hy
        · rw [all_bools]
          simpa [h1, h2, h3] using h
    · rw [if_pos (by simp; omega), if_pos (by simp; omega)]
      simpa [h2] using h
  · rw [if_neg (by simp; omega)]
    simpa [h1] using h
theorem ok_is_name (T : Tx P w K mg base) : Pub P w K mg base 1 "is_name" ["value"] sp_is_name := (fn_is_name T).pub fun _ _ _ _ _ _ us hl => match us, hl with | [_], _ => rfl

theorem sc_wrong_switch : FnScope ["value", "index", "name"] ["value"] (defScope (top 29)) := ⟨rfl, rfl, rfl, by decide +kernel, rfl, by decide +kernel, by decide +kernel⟩
def sp_wrong_switch : DSp := fun ds M post => ∃ ss : List Str, ds = [strsF ss] ∧ post (optD (wrongSw ss)) M
theorem cl_wrong_switch {ss : List Str} {M : Mem} {post : WK} : sp_wrong_switch [strsF ss] M post = post (optD (wrongSw ss)) M := by
  simp [-Bool.exists_bool, sp_wrong_switch, tp_inj, tq_inj, litD_inj, strs_inj, ruleD_inj, clD_inj, setD_inj, rules_inj, lits_inj, sets_inj, ints_inj, panF_inj, rngs_inj, rngE_inj, sg_inj, and_assoc, Int.natCast_inj]
local macro_rules | `(tactic| walk_at "wrong_switch") => `(tactic| simp only [↓cl_is_name, cl_is_name, ↓FD.wCM_e, ↓FD.wCMK_e, ↓FD.wMakeV_e, ↓FD.wMethKC_e, ↓FD.wSetSort_e, ↓FD.gSplit_e, ↓FD.gSplitN_e, ↓FD.wSetLenT_e, ↓FD.wRevT_e, ↓FD.wSetLen_e, ↓FD.wRev_e, ↓FD.gDictS_e, ↓FD.gMinS_e, ↓FD.gIndexB_e, ↓FD.gListN_e, ↓FD.gAddC_e, ↓FD.wDispN_e, ↓FD.wMethD_e, ↓FD.gPop0_e, ↓FD.sFin_e, ↓FD.gFldD_e, ↓FD.sCt_e, ↓FD.sFrz_e, ↓FD.gLeS_e, ↓FD.gStrO_e, ↓FD.gBoolO_e, ↓FD.wM0_e, ↓FD.gUpper_e, ↓FD.gUnL_e, ↓FD.sSeq_e, ↓FD.sRet_e, ↓FD.sIf_e, ↓FD.sAsg_e, ↓FD.gSet_e, ↓FD.sDrop_e, ↓FD.sNext_e, ↓FD.sPar_e, ↓FD.sPar3_e, ↓FD.wIf_e, ↓FD.wOp_e, ↓FD.wUn_e, ↓FD.wVar_e, ↓FD.wC_e, ↓FD.wTst_e, ↓FD.wAnd_e, ↓FD.wOr_e, ↓FD.wNot_e, ↓FD.wAndV_e, ↓FD.wOrV_e, ↓FD.wNotV_e, ↓FD.wChain_e, ↓FD.aNil_e, ↓FD.aCons_e, ↓FD.wTup_e, ↓FD.wLst_e, ↓FD.wFtp_e, ↓FD.wNew_e, ↓FD.wCall_e, ↓FD.wB_e, ↓FD.wSl_e, ↓FD.oSome_e, ↓FD.oNone_e, ↓FD.wIsi_e, ↓FD.wIsiC_e, ↓FD.p1_e, ↓FD.p2_e, ↓FD.gLen_e, ↓FD.iLst_e, ↓FD.iTup_e, ↓FD.iStrD_e, ↓FD.iEnT_e, ↓FD.iEnL_e, ↓FD.iRng_e, ↓FD.iRng2_e, ↓FD.gTup_e, ↓FD.gsNil_e, ↓FD.gsCons_e, ↓FD.wM_e, ↓FD.wIxT_e, ↓FD.wFld_e, ↓FD.wMeth_e, ↓FD.wMake_e, ↓FD.sFldD_e, ↓FD.wDGet_e, ↓FD.sDput_e, ↓FD.wDNewK_e, ↓FD.wDNewT_e, ↓FD.wDisp1_e, ↓FD.wIce_e, ↓FD.gSub_e, ↓FD.wCallK_e, ↓FD.t1_e, ↓FD.t2_e, ↓FD.t1w_e, ↓FD.tYesD_e, ↓FD.gDIn_e, ↓FD.gDNin_e, ↓FD.gIndexT_e, ↓FD.gIndex_e, ↓FD.gInt_e, ↓FD.gAbs_e, ↓FD.gMax_e, ↓FD.gMin_e, ↓FD.gDivmod_e, ↓FD.wFz_e, ↓FD.wDGetD_e, ↓FD.t3_e, ↓FD.iZip3D_e, ↓FD.sForIT_e, ↓FD.wIsiO_e, ↓FD.wFmt_e, ↓FD.wTruO_e, ↓FD.gLenO_e, ↓FD.wMakeK_e, ↓FD.gOwn_e, ↓FD.t12_e, ↓FD.iZipMD_e, ↓FD.sForKT_e, ↓FD.wDSetd_e, ↓FD.wVals_e, ↓FD.iRng3_e, ↓FD.iEnS_e, ↓FD.gZ2_eq, ↓zip2_cl, ↓FD.addF_ftp, ↓FD.wPs_nil, ↓FD.wPs_cons, ↓FM.keyed_nil, ↓FM.keyed_str, ↓FM.sortP_lst, ↓FM.sortP_ftp, ↓lk_de_switches, ↓lk_de_rules, ↓lk_de_promises, ↓lk_de_past, ↓lk_de_undo, ↓lk_de_put, ↓lk_de_turn, ↓lk_de_become, ↓lk_de_take, ↓lk_de_promise, ↓lk_de_lift, ↓lk_de_trial, ↓lk_de_as_panel, ↓put_de_past, ↓put_de_promises, ↓lk_sg_setting, ↓lk_sg_log, ↓lk_sg_past, ↓lk_sg_other, ↓insR_stage, ↓lk_bo_panel, ↓lk_bo_setting, ↓lk_bo_log, ↓lk_bo_busy, ↓lk_bo_past, ↓lk_bo_do, ↓lk_bo_do_all, ↓lk_bo_undo, ↓lk_bo_take, ↓lk_bo_trial, ↓lk_bo_is_deed, ↓lk_bo_check_idle, ↓put_bo_setting, ↓put_bo_log, ↓put_bo_busy, ↓put_bo_past, ↓isiO_pan, ↓insT_pan, ↓FD.js_nil, ↓FD.js_cons, ↓FD.wLc2N_eq, ↓FD.addN_lst, ↓sFor_eq, ↓wLc_eq, ↓wLc2_eq, ↓wDc_eq, ↓look_zero, ↓look_succ, ↓got_so, ↓isB_bl, ↓isI_int, ↓isS_str, ↓isT_tup, ↓isT_ftp, ↓isT_ktp, ↓isT_tp, ↓isT_tq, ↓one_one, ↓two_two, ↓startD_cc, ↓startD_cn, ↓startD_nn, ↓FD.ix_str, ↓FD.ix_tup, ↓ix_ftp, ↓ix_ktp, ↓ix_lst, ↓ix_scr, ↓ix_tp, ↓ix_tq, ↓atI0, ↓atI1, ↓atI2, ↓atI3, ↓FD.eq_str, ↓FD.ne_str, ↓FD.eq_int, ↓FD.ne_int, ↓FD.add_int, ↓FD.sub_int, ↓FD.lt_int, ↓FD.le_int, ↓FD.gt_int, ↓FD.ge_int, ↓FD.add_str, ↓FD.add_lst, ↓FD.add_tup, ↓FD.mul_int, ↓FD.mod_int, ↓FD.fdiv_int, ↓FD.pow_int, ↓isN_non, ↓notN_non, ↓FD.len_str, ↓len_tup, ↓len_ftp, ↓len_ktp, ↓len_lst, ↓len_scr, ↓len_tp, ↓len_tq, ↓seq_tup, ↓seq_ftp, ↓seq_ktp, ↓seq_lst, ↓seq_scr, ↓seq_tp, ↓seq_tq, ↓in_tup, ↓in_ftp, ↓in_ktp, ↓in_lst, ↓nin_tup, ↓nin_ftp, ↓nin_ktp, ↓nin_lst, ↓FD.in_str, ↓nin_str, ↓isC_one, ↓asL_lst, ↓asL_scr, ↓if_tt, ↓if_ff, ↓isi_ss, ↓isi_tt, ↓isi_st, ↓isi_ts, ↓ty_str, ↓ty_tup, ↓ty_ftp, ↓ty_ktp, ↓ty_tp, ↓ty_tq, ↓all_lst, ↓any_lst, ↓flat_s, ↓flat_set, ↓tuple_lst, ↓FD.int_int, ↓eq_ftp_nil, ↓ne_ftp_nil, ↓isNon_non, ↓isNon_int, ↓isNon_str, ↓isNon_ptr, ↓isNon_tup, ↓isNon_ftp, ↓inL_strs, ↓flatSs, ↓inL_sets, ↓flatSets, ↓FM.tw, ↓FM.tw3, ↓FM.sl_str, ↓sl_set, ↓cell_upd, ↓lk_sw, ↓lk_ru, ↓lk_st, ↓lk_place, ↓lk_has, ↓lk_keeps, ↓lk_wrongs, ↓lk_goods, ↓lk_ways_from, ↓lk_text, ↓ins_pan, ↓FD.fit_le, ↓cx_K, ↓nox_K, ↓blk_K, ↓bx_K, ↓c1, ↓c2, ↓c3, ↓c4, ↓inL_cons, ↓inL_nil, ↓all_bools, ↓any_bools, ↓in_tp, ↓in_tq, ↓nin_tp, ↓nin_tq, ↓FM.sl_ftp, ↓FM.sl_tup, ↓FM.sl_lst, ↓FM.sl_scr, ↓index_eq, ↓ex_ftp, ↓eqd_str, ↓wf_at, ↓isT_cl, ↓isT_st, ↓isT_lit, ↓ix_lit0, ↓ix_lit1, ↓len_lit, ↓ty_lit, ↓eq_lit, ↓ne_lit, ↓eq_set, ↓ne_set, ↓len_set, ↓ty_set, ↓isS_set, ↓isC_sg, ↓sNever_e, ↓enumD_map, ↓dpAll_strs, ↓dpAll_mapI, ↓ne_lst_nil, ↓eq_lst_nil, ↓isT_grp, ↓len_grp, ↓isDc_wf, ↓wn_at, ↓isT_way, ↓len_way, ↓ty_way, ↓ty_st, ↓len_st, ↓ix_st0, ↓ix_st1, ↓inD_lits, ↓ninD_lits, ↓dpAll_sets, ↓three_three, ↓zip3_sets, ↓isT_z3, ↓inL_lock, ↓ninT_lits, ↓FM.tp_t, ↓FM.tp_f, ↓FM.tq_t, ↓FM.tq_f, ↓isT_pr, ↓tupleP_lst, ↓isT_it, ↓isNon_set, Bool.not_true, Bool.not_false, Bool.false_eq_true, if_false, if_true, true_and, and_true, List.set_cons_zero, List.set_cons_succ, List.length_cons, List.length_nil, List.length_map, eq_self, decide_true, decide_false, Bool.true_eq_false, or_self, Bool.or_self, List.all_cons, List.all_nil, Bool.and_true, Bool.true_and, Bool.or_false, Bool.false_or, Bool.or_true, Bool.true_or, Bool.and_false, Bool.false_and, Int.reduceLT, Int.reduceLE, Int.reduceEq, Nat.reduceLeDiff, Nat.reduceAdd, Nat.reduceLT, wf_some, wn_some, fold_lit, fold_litp, fold_litm, sg_iff, sg_in_pm, isNon_opt, isEmpty_map, ↓reduceIte, nq_0_1, nq_0_2, nq_0_3, nq_0_4, nq_0_5, nq_0_6, nq_0_7, nq_1_0, nq_1_2, nq_1_3, nq_1_4, nq_1_5, nq_1_6, nq_1_7, nq_2_0, nq_2_1, nq_2_3, nq_2_4, nq_2_5, nq_2_6, nq_2_7, nq_3_0, nq_3_1, nq_3_2, nq_3_4, nq_3_5, nq_3_6, nq_3_7, nq_4_0, nq_4_1, nq_4_2, nq_4_3, nq_4_5, nq_4_6, nq_4_7, nq_5_0, nq_5_1, nq_5_2, nq_5_3, nq_5_4, nq_5_6, nq_5_7, nq_6_0, nq_6_1, nq_6_2, nq_6_3, nq_6_4, nq_6_5, nq_6_7, nq_7_0, nq_7_1, nq_7_2, nq_7_3, nq_7_4, nq_7_5, nq_7_6])
theorem fn_wrong_switch (T : Tx P w K mg base) : Fng P w K mg base 2 "wrong_switch" (top 29) ["value"] sp_wrong_switch := by
  have S := sc_wrong_switch
  refine fng_of T.d_wrong_switch T.g_wrong_switch S (fun ds M post h => by unfold sp_wrong_switch at h; grind) fun f cdv A outer s H gd hr => ⟨_, (ds_cons (ds_for PassesOwn.never rfl (di_enumT T.m_enumerate (da_cons (dv 0) da_nil)) (dg_tup (n := 2) rfl (dgs_cons (dg_name (i := 1) S.nd) (dgs_cons (dg_name (i := 2) S.nd) dgs_nil)))
      (ds_one (ds_if (PW.pt (dw_or (dt_cmp (o_eq hr) (dv 1) T.k_MOST_SWITCHES) (dw_or (dt_not (dt_val (de_call (ok_is_name T) (hr.mono (by decide)) gd (da_cons (dv 2) da_nil)))) (dw_or1 (dt_cmp o_in (dv 2) (de_slice o_slice (dv 0) do_none (do_some (dv 1))))))))
      (ds_one (ds_ret (dv 1)))
      ds_nil)))
      (ds_one (ds_ret dnon))), ?_⟩
  rintro ds M post ⟨ss, rfl, h⟩
  (try walk_at "wrong_switch")
  refine for_find ss.zipIdx (fun p => D.tup [.int (p.2 : Int), .str p.1]) (fun p => decide (p.2 = 10) || !nameOk p.1 || decide (p.1 ∈ ss.take p.2)) (fun Γ' M' => ∃ x y, Γ' = [some (strsF ss), x, y] ∧ M' = M) ⟨_, _, rfl, rfl⟩ (fun _ _ _ => trivial) ?_ ?_
  · rintro ⟨s, i⟩ hx Γ' M' ⟨x, y, rfl, rfl⟩ N
    refine ⟨fun hc hf => ?_, fun hc hN => ?_⟩
    · have e : wrongSw ss = some i := by unfold wrongSw; rw [hf]; rfl
      rw [e] at h
      (try walk_at "wrong_switch")
      by_cases h1 : i = 10
      · subst h1; (try walk_at "wrong_switch"); exact h
      · rw [if_neg (by simp; omega)]
        cases h2 : nameOk s with
        | false => (try walk_at "wrong_switch"); exact h
        | true =>
          (try walk_at "wrong_switch")
          rw [cutL_map, inL_strs, cutL_take, flatSs]
          simp [h1, h2] at hc
          simp only [hc, decide_true, if_true, true_and]
          exact h
    · (try walk_at "wrong_switch")
      simp at hc
      rw [if_neg (by simp; omega)]
      simp only [hc.1.2]
      (try walk_at "wrong_switch")
      rw [cutL_map, inL_strs, cutL_take, flatSs]
      simp only [hc.2, decide_false, Bool.false_eq_true, if_false, true_and]
      exact hN _ _ ⟨_, _, rfl, rfl⟩
  · rintro hf Γ' M' ⟨x, y, rfl, rfl⟩
    have e : wrongSw ss = none := by unfold wrongSw; rw [hf]; rfl
    rw [e] at h
    exact h
theorem ok_wrong_switch (T : Tx P w K mg base) : Pub P w K mg base 2 "wrong_switch" ["value"] sp_wrong_switch := (fn_wrong_switch T).pub fun _ _ _ _ _ _ us hl => match us, hl with | [_], _ => rfl

theorem sc_is_literal : FnScope ["value", "switches"] ["value", "switches"] (defScope (top 14)) := ⟨rfl, rfl, rfl, by decide +kernel, rfl, by decide +kernel, by decide +kernel⟩
def sp_is_literal : DSp := fun ds M post => ∃ (n : Nat) (d : D) (ss : List Str), ds = [d, strsF ss] ∧ calm n d = true ∧ post (.bl (litV ss d).isSome) M
theorem cl_is_literal {a : Lit} {ss : List Str} {M : Mem} {post : WK} : sp_is_literal [litD a, strsF ss] M post = post (.bl (litOk ss a)) M := by
  unfold sp_is_literal
  have e1 : (litV ss (litD a)).isSome = litOk ss a := by
    unfold litOk
    by_cases h : a.n ∈ ss
    · rw [litV_litD h]; simp [h]
    · rw [show litD a = tq .f [.str a.n, .str (sg a.s)] from rfl, litV_strs, if_neg h]; simp [h]
  refine propext ⟨fun ⟨n, d, s2, e, c, h⟩ => ?_, fun h => ⟨a.n.length + 2, _, _, rfl, ?_, by rw [e1]; exact h⟩⟩
  · simp only [List.cons.injEq, D.ftp.injEq, strs_inj, and_true] at e
    obtain ⟨rfl, rfl⟩ := e
    rw [e1] at h
    exact h
  · refine calm_tupI (by simp) fun x hx => ?_
    simp only [List.mem_cons, List.not_mem_nil, or_false] at hx
    have := (sg_tOk a.s).2
    rcases hx with rfl | rfl
    · exact decide_eq_true (by omega)
    · exact decide_eq_true (by omega)
theorem fn_is_literal (T : Tx P w K mg base) : Fng P w K mg base 1 "is_literal" (top 14) ["value", "switches"] sp_is_literal := by
  have S := sc_is_literal
  refine fng_of T.d_is_literal T.g_is_literal S (fun ds M post h => by unfold sp_is_literal at h; grind) fun f cdv A outer s H gd hr => ⟨_, (ds_cons (ds_if (PW.pt (dw_or (dt_not (dt_val (de_isi (T := "tuple") (dv 0) T.m_isinstance T.m_tuple (by decide +kernel)))) (dw_or (dt_cmp (o_ne hr) (de_b c_len T.m_len (by decide +kernel) (da_cons (dv 0) da_nil)) dint) (dw_or (dt_not (dt_val (de_isi (T := "str") (de_ix o_ix (dv 0) dint) T.m_isinstance T.m_str (by decide +kernel)))) (dw_or1 (dt_cmp o_nin (de_ix o_ix (dv 0) dint) (dv 1)))))))
      (ds_one (ds_ret dbl))
      ds_nil)
      (ds_one (ds_ret (de_and (de_isi (T := "str") (de_ix o_ix (dv 0) dint) T.m_isinstance T.m_str (by decide +kernel)) (de_one (de_cmp o_in (de_ix o_ix (dv 0) dint) (de_tup (da_cons dstr (da_cons dstr da_nil))))))))), ?_⟩
  rintro ds M post ⟨n, d, ss, rfl, hc, h⟩
  cases ht : tupOf d with
  | none =>
    obtain ⟨ty, e1, e2⟩ := calm_notup hc ht M
    have e3 : litV ss d = none := by unfold litV; rw [ht]
    rw [e3] at h
    (try walk_at "w")
    rw [e1]
    (try walk_at "w")
    rw [e2]
    (try walk_at "w")
    exact h
  | some l =>
    obtain ⟨f, rfl⟩ := tup_tq2 ht
    obtain ⟨_, hl⟩ := calm_els hc ht
    (try walk_at "w")
    by_cases h2 : l.length = 2
    · obtain ⟨y, z, rfl⟩ : ∃ y z, l = [y, z] := by
        match l, h2 with
        | [y, z], _ => exact ⟨y, z, rfl⟩
      obtain ⟨t1, e1, e2⟩ := calm_isstr (hl y (by simp)) M
      rw [if_neg (by simp)]
      (try walk_at "w")
      rw [e1]
      (try walk_at "w")
      rw [e2]
      cases k1 : strOf y with
      | none =>
        rw [litV_no (.inl k1)] at h
        (try walk_at "w")
        exact h
      | some u =>
        cases strOf_some k1
        (try walk_at "w")
        cases k2 : strOf z with
        | none =>
          rw [litV_no (.inr k2)] at h
          obtain ⟨t2, e3, e4⟩ := calm_isstr (hl z (by simp)) M
          rw [k2] at e4
          rw [e3]
          (try walk_at "w")
          rw [show isiT "str" t2 = false from e4]
          (try walk_at "w")
          by_cases hu : u ∈ ss
          · simp only [hu, decide_true, Bool.not_true, Bool.false_eq_true, if_false, true_and]
            exact h
          · simp only [hu, decide_false, Bool.not_false, if_true, true_and]
            exact h
        | some v =>
          cases strOf_some k2
          rw [litV_strs] at h
          (try walk_at "w")
          by_cases hu : u ∈ ss
          · simp only [hu, decide_true, Bool.not_true, Bool.false_eq_true, if_false, if_true, true_and] at h ⊢
            rw [pm_or]
            rw [Option.isSome_map] at h
            exact h
          · simp only [hu, decide_false, Bool.not_false, if_true, if_false, Bool.false_eq_true, true_and] at h ⊢
            exact h
    · rw [litV_bad h2] at h
      rw [if_pos (by simp; omega)]
      exact h
theorem ok_is_literal (T : Tx P w K mg base) : Pub P w K mg base 1 "is_literal" ["value", "switches"] sp_is_literal := (fn_is_literal T).pub fun _ _ _ _ _ _ us hl => match us, hl with | [_, _], _ => rfl

theorem sc_is_rule : FnScope ["value", "switches"] ["value", "switches"] (defScope (top 23)) := ⟨rfl, rfl, rfl, by decide +kernel, rfl, by decide +kernel, by decide +kernel⟩
def sp_is_rule : DSp := fun ds M post => ∃ (d : D) (ss : List Str), ds = [d, strsF ss] ∧ RowOk d ∧ post (.bl (ruleV ss d).isSome) M
theorem cl_is_rule {r : Rule} {ss : List Str} {M : Mem} {post : WK} : sp_is_rule [ruleD r, strsF ss] M post = post (.bl (ruleOk ss r)) M := by
  unfold sp_is_rule
  refine propext ⟨fun ⟨d, s2, e, _, h⟩ => ?_, fun h => ⟨_, _, rfl, .inl ⟨r, rfl⟩, by rw [ruleV_all]; exact h⟩⟩
  simp only [List.cons.injEq, D.ftp.injEq, strs_inj, and_true] at e
  obtain ⟨rfl, rfl⟩ := e
  rw [ruleV_all] at h
  exact h
local macro_rules | `(tactic| walk_at "is_rule") => `(tactic| simp (maxSteps := 4000000) only [↓cl_is_literal, cl_is_literal, ↓FD.wCM_e, ↓FD.wCMK_e, ↓FD.wMakeV_e, ↓FD.wMethKC_e, ↓FD.wSetSort_e, ↓FD.gSplit_e, ↓FD.gSplitN_e, ↓FD.wSetLenT_e, ↓FD.wRevT_e, ↓FD.wSetLen_e, ↓FD.wRev_e, ↓FD.gDictS_e, ↓FD.gMinS_e, ↓FD.gIndexB_e, ↓FD.gListN_e, ↓FD.gAddC_e, ↓FD.wDispN_e, ↓FD.wMethD_e, ↓FD.gPop0_e, ↓FD.sFin_e, ↓FD.gFldD_e, ↓FD.sCt_e, ↓FD.sFrz_e, ↓FD.gLeS_e, ↓FD.gStrO_e, ↓FD.gBoolO_e, ↓FD.wM0_e, ↓FD.gUpper_e, ↓FD.gUnL_e, ↓FD.sSeq_e, ↓FD.sRet_e, ↓FD.sIf_e, ↓FD.sAsg_e, ↓FD.gSet_e, ↓FD.sDrop_e, ↓FD.sNext_e, ↓FD.sPar_e, ↓FD.sPar3_e, ↓FD.wIf_e, ↓FD.wOp_e, ↓FD.wUn_e, ↓FD.wVar_e, ↓FD.wC_e, ↓FD.wTst_e, ↓FD.wAnd_e, ↓FD.wOr_e, ↓FD.wNot_e, ↓FD.wAndV_e, ↓FD.wOrV_e, ↓FD.wNotV_e, ↓FD.wChain_e, ↓FD.aNil_e, ↓FD.aCons_e, ↓FD.wTup_e, ↓FD.wLst_e, ↓FD.wFtp_e, ↓FD.wNew_e, ↓FD.wCall_e, ↓FD.wB_e, ↓FD.wSl_e, ↓FD.oSome_e, ↓FD.oNone_e, ↓FD.wIsi_e, ↓FD.wIsiC_e, ↓FD.p1_e, ↓FD.p2_e, ↓FD.gLen_e, ↓FD.iLst_e, ↓FD.iTup_e, ↓FD.iStrD_e, ↓FD.iEnT_e, ↓FD.iEnL_e, ↓FD.iRng_e, ↓FD.iRng2_e, ↓FD.gTup_e, ↓FD.gsNil_e, ↓FD.gsCons_e, ↓FD.wM_e, ↓FD.wIxT_e, ↓FD.wFld_e, ↓FD.wMeth_e, ↓FD.wMake_e, ↓FD.sFldD_e, ↓FD.wDGet_e, ↓FD.sDput_e, ↓FD.wDNewK_e, ↓FD.wDNewT_e, ↓FD.wDisp1_e, ↓FD.wIce_e, ↓FD.gSub_e, ↓FD.wCallK_e, ↓FD.t1_e, ↓FD.t2_e, ↓FD.t1w_e, ↓FD.tYesD_e, ↓FD.gDIn_e, ↓FD.gDNin_e, ↓FD.gIndexT_e, ↓FD.gIndex_e, ↓FD.gAbs_e, ↓FD.gMax_e, ↓FD.gMin_e, ↓FD.gDivmod_e, ↓FD.wFz_e, ↓FD.wDGetD_e, ↓FD.t3_e, ↓FD.iZip3D_e, ↓FD.sForIT_e, ↓FD.wIsiO_e, ↓FD.wFmt_e, ↓FD.wTruO_e, ↓FD.gLenO_e, ↓FD.wMakeK_e, ↓FD.gOwn_e, ↓FD.t12_e, ↓FD.iZipMD_e, ↓FD.sForKT_e, ↓FD.wDSetd_e, ↓FD.wVals_e, ↓FD.iRng3_e, ↓FD.iEnS_e, ↓FD.gZ2_eq, ↓zip2_cl, ↓FD.addF_ftp, ↓FD.wPs_nil, ↓FD.wPs_cons, ↓FM.keyed_nil, ↓FM.keyed_str, ↓FM.sortP_lst, ↓FM.sortP_ftp, ↓lk_de_switches, ↓lk_de_rules, ↓lk_de_promises, ↓lk_de_past, ↓lk_de_undo, ↓lk_de_put, ↓lk_de_turn, ↓lk_de_become, ↓lk_de_take, ↓lk_de_promise, ↓lk_de_lift, ↓lk_de_trial, ↓lk_de_as_panel, ↓put_de_past, ↓put_de_promises, ↓lk_sg_setting, ↓lk_sg_log, ↓lk_sg_past, ↓lk_sg_other, ↓insR_stage, ↓lk_bo_panel, ↓lk_bo_setting, ↓lk_bo_log, ↓lk_bo_busy, ↓lk_bo_past, ↓lk_bo_do, ↓lk_bo_do_all, ↓lk_bo_undo, ↓lk_bo_take, ↓lk_bo_trial, ↓lk_bo_is_deed, ↓lk_bo_check_idle, ↓put_bo_setting, ↓put_bo_log, ↓put_bo_busy, ↓put_bo_past, ↓isiO_pan, ↓insT_pan, ↓FD.js_nil, ↓FD.js_cons, ↓FD.wLc2N_eq, ↓FD.addN_lst, ↓sFor_eq, ↓wLc_eq, ↓wLc2_eq, ↓wDc_eq, ↓look_zero, ↓look_succ, ↓got_so, ↓isB_bl, ↓isI_int, ↓isS_str, ↓isT_tup, ↓isT_ftp, ↓isT_ktp, ↓isT_tp, ↓isT_tq, ↓one_one, ↓two_two, ↓startD_cc, ↓startD_cn, ↓startD_nn, ↓FD.ix_str, ↓FD.ix_tup, ↓ix_ftp, ↓ix_ktp, ↓ix_lst, ↓ix_scr, ↓ix_tp, ↓ix_tq, ↓atI0, ↓atI1, ↓atI2, ↓atI3, ↓FD.eq_str, ↓FD.ne_str, ↓FD.eq_int, ↓FD.ne_int, ↓FD.add_int, ↓FD.sub_int, ↓FD.lt_int, ↓FD.le_int, ↓FD.gt_int, ↓FD.ge_int, ↓FD.add_str, ↓FD.add_lst, ↓FD.add_tup, ↓FD.mul_int, ↓FD.mod_int, ↓FD.fdiv_int, ↓FD.pow_int, ↓isN_non, ↓notN_non, ↓FD.len_str, ↓len_tup, ↓len_ftp, ↓len_ktp, ↓len_lst, ↓len_scr, ↓len_tp, ↓len_tq, ↓seq_tup, ↓seq_ftp, ↓seq_ktp, ↓seq_lst, ↓seq_scr, ↓seq_tp, ↓seq_tq, ↓in_tup, ↓in_ftp, ↓in_ktp, ↓in_lst, ↓nin_tup, ↓nin_ftp, ↓nin_ktp, ↓nin_lst, ↓FD.in_str, ↓nin_str, ↓isC_one, ↓asL_lst, ↓asL_scr, ↓if_tt, ↓if_ff, ↓isi_ss, ↓isi_tt, ↓isi_st, ↓isi_ts, ↓ty_str, ↓ty_tup, ↓ty_ftp, ↓ty_ktp, ↓ty_tp, ↓ty_tq, ↓all_lst, ↓any_lst, ↓flat_s, ↓flat_set, ↓tuple_lst, ↓FD.int_int, ↓eq_ftp_nil, ↓ne_ftp_nil, ↓isNon_non, ↓isNon_int, ↓isNon_str, ↓isNon_ptr, ↓isNon_tup, ↓isNon_ftp, ↓inL_strs, ↓flatSs, ↓inL_sets, ↓flatSets, ↓FM.tw, ↓FM.tw3, ↓FM.sl_str, ↓sl_set, ↓cell_upd, ↓lk_sw, ↓lk_ru, ↓lk_st, ↓lk_place, ↓lk_has, ↓lk_keeps, ↓lk_wrongs, ↓lk_goods, ↓lk_ways_from, ↓lk_text, ↓ins_pan, ↓FD.fit_le, ↓cx_K, ↓nox_K, ↓blk_K, ↓bx_K, ↓c1, ↓c2, ↓c3, ↓c4, ↓inL_cons, ↓inL_nil, ↓all_bools, ↓any_bools, ↓in_tp, ↓in_tq, ↓nin_tp, ↓nin_tq, ↓FM.sl_ftp, ↓FM.sl_tup, ↓FM.sl_lst, ↓FM.sl_scr, ↓index_eq, ↓ex_ftp, ↓eqd_str, ↓wf_at, ↓isT_cl, ↓isT_st, ↓isT_lit, ↓ix_lit0, ↓ix_lit1, ↓len_lit, ↓ty_lit, ↓eq_lit, ↓ne_lit, ↓eq_set, ↓ne_set, ↓len_set, ↓ty_set, ↓isS_set, ↓isC_sg, ↓sNever_e, ↓enumD_map, ↓dpAll_strs, ↓dpAll_mapI, ↓ne_lst_nil, ↓eq_lst_nil, ↓isT_grp, ↓len_grp, ↓isDc_wf, ↓wn_at, ↓isT_way, ↓len_way, ↓ty_way, ↓ty_st, ↓len_st, ↓ix_st0, ↓ix_st1, ↓inD_lits, ↓ninD_lits, ↓dpAll_sets, ↓three_three, ↓zip3_sets, ↓isT_z3, ↓inL_lock, ↓ninT_lits, ↓FM.tp_t, ↓FM.tp_f, ↓FM.tq_t, ↓FM.tq_f, ↓isT_pr, ↓tupleP_lst, ↓isT_it, ↓isNon_set, ↓ixN30, ↓ixN31, ↓ixN32, ↓ix_upd, ↓FM.eq_bl, ↓FM.ne_bl, ↓FM.sl_tp, ↓lstOf_lst, ↓okL_lst, ↓gMulS_eq, ↓add_sets, ↓add_setb, ↓add_setp, ↓add_setm, ↓rngE_e, ↓ix_rule0, ↓repr_bb, ↓isB_isD, ↓isB_notD, ↓wLcN_eq, ↓optW_some, ↓optW_none, ↓isNon_way, ↓ne_way0, ↓mulL2, ↓add_rules, ↓add_rulesT, ↓add_rulesF, ↓ne_ftp_sets, ↓ne_ftp_lits, ↓ne_ftp_strs, ↓add_strs, Option.isSome_some, Option.isSome_none, Option.isNone_some, Option.isNone_none, Option.map_some, Option.map_none, isNon_optW, isNon_optL, pick_nil, pick_cons, List.getElem?_cons_zero, List.getElem?_cons_succ, List.nil_append, List.append_nil, List.cons_append, Bool.decide_eq_true, Bool.decide_eq_false, Int.reduceAbs, Int.reduceToNat, Int.reducePow, true_or, or_true, Mem.upd_upd, rng_int, Bool.not_true, Bool.not_false, Bool.false_eq_true, if_false, if_true, true_and, and_true, List.set_cons_zero, List.set_cons_succ, List.length_cons, List.length_nil, List.length_map, eq_self, decide_true, decide_false, Bool.true_eq_false, or_self, Bool.or_self, List.all_cons, List.all_nil, Bool.and_true, Bool.true_and, Bool.or_false, Bool.false_or, Bool.or_true, Bool.true_or, Bool.and_false, Bool.false_and, Int.reduceLT, Int.reduceLE, Int.reduceEq, Nat.reduceLeDiff, Nat.reduceAdd, Nat.reduceLT, wf_some, wn_some, fold_lit, fold_litp, fold_litm, sg_iff, sg_in_pm, isNon_opt, isEmpty_map, ↓reduceIte, nq_0_1, nq_0_2, nq_0_3, nq_0_4, nq_0_5, nq_0_6, nq_0_7, nq_1_0, nq_1_2, nq_1_3, nq_1_4, nq_1_5, nq_1_6, nq_1_7, nq_2_0, nq_2_1, nq_2_3, nq_2_4, nq_2_5, nq_2_6, nq_2_7, nq_3_0, nq_3_1, nq_3_2, nq_3_4, nq_3_5, nq_3_6, nq_3_7, nq_4_0, nq_4_1, nq_4_2, nq_4_3, nq_4_5, nq_4_6, nq_4_7, nq_5_0, nq_5_1, nq_5_2, nq_5_3, nq_5_4, nq_5_6, nq_5_7, nq_6_0, nq_6_1, nq_6_2, nq_6_3, nq_6_4, nq_6_5, nq_6_7, nq_7_0, nq_7_1, nq_7_2, nq_7_3, nq_7_4, nq_7_5, nq_7_6])
theorem fn_is_rule (T : Tx P w K mg base) : Fng P w K mg base 2 "is_rule" (top 23) ["value", "switches"] sp_is_rule := by
  have S := sc_is_rule
  refine fng_of T.d_is_rule T.g_is_rule S (fun ds M post h => by unfold sp_is_rule at h; grind) fun f cdv A outer s H gd hr => ⟨_, (ds_cons (ds_if (PW.pt (dw_or (dt_not (dt_val (de_isi (T := "tuple") (dv 0) T.m_isinstance T.m_tuple (by decide +kernel)))) (dw_or (dt_cmp o_lt (de_b c_len T.m_len (by decide +kernel) (da_cons (dv 0) da_nil)) dint) (dw_or1 (dt_not (dt_val (de_isi (T := "str") (de_ix o_ix (dv 0) dint) T.m_isinstance T.m_str (by decide +kernel))))))))
      (ds_one (ds_ret dbl))
      ds_nil)
      (ds_cons (ds_if (dt_cmp (o_eq hr) (de_ix o_ix (dv 0) dint) dstr)
      (ds_one (ds_ret (de_and (de_cmp (o_eq hr) (de_b c_len T.m_len (by decide +kernel) (da_cons (dv 0) da_nil)) dint) (de_one (de_call (ok_is_literal T) (hr.mono (by decide)) gd (da_cons (de_ix o_ix (dv 0) dint) (da_cons (dv 1) da_nil)))))))
      ds_nil)
      (ds_cons (ds_if (dt_cmp (o_ne hr) (de_b c_len T.m_len (by decide +kernel) (da_cons (dv 0) da_nil)) dint)
      (ds_one (ds_ret dbl))
      ds_nil)
      (ds_cons (ds_if (dt_cmp o_in (de_ix o_ix (dv 0) dint) T.k_PAIRS)
      (ds_cons (ds_if (PW.pt (dw_or (dt_not (dt_val (de_call (ok_is_literal T) (hr.mono (by decide)) gd (da_cons (de_ix o_ix (dv 0) dint) (da_cons (dv 1) da_nil))))) (dw_or1 (dt_not (dt_val (de_call (ok_is_literal T) (hr.mono (by decide)) gd (da_cons (de_ix o_ix (dv 0) dint) (da_cons (dv 1) da_nil))))))))
      (ds_one (ds_ret dbl))
      ds_nil)
      (ds_one (ds_ret (de_cmp (o_ne hr) (de_ix o_ix (de_ix o_ix (dv 0) dint) dint) (de_ix o_ix (de_ix o_ix (dv 0) dint) dint)))))
      ds_nil)
      (ds_cons (ds_if (PW.pt (dw_or (dt_cmp o_nin (de_ix o_ix (dv 0) dint) T.k_ALIKE) (dw_or (dt_not (dt_val (de_isi (T := "str") (de_ix o_ix (dv 0) dint) T.m_isinstance T.m_str (by decide +kernel)))) (dw_or1 (dt_not (dt_val (de_isi (T := "str") (de_ix o_ix (dv 0) dint) T.m_isinstance T.m_str (by decide +kernel))))))))
      (ds_one (ds_ret dbl))
      ds_nil)
      (ds_one (ds_ret (de_and (de_cmp o_in (de_ix o_ix (dv 0) dint) (dv 1)) (de_and (de_cmp o_in (de_ix o_ix (dv 0) dint) (dv 1)) (de_one (de_cmp (o_ne hr) (de_ix o_ix (dv 0) dint) (de_ix o_ix (dv 0) dint)))))))))))), ?_⟩
  rintro ds M post ⟨d, ss, rfl, ok, h⟩
  rcases ok with ⟨r, rfl⟩ | ⟨n, hc⟩ | ⟨w, ws, rfl, ma⟩
  · rw [ruleV_all] at h
    cases r <;> unfold ruleD <;> unfold ruleOk at h
    · (try walk_at "is_rule")
      exact h
    iterate 3
      · rename_i a b
        (try walk_at "is_rule")
        cases h1 : litOk ss a <;> cases h2 : litOk ss b <;> simp only [h1, h2] at h <;> (try walk_at "is_rule")
        all_goals first | exact h | (unfold litD; (try walk_at "is_rule"); exact h)
    iterate 2
      · rename_i f x y
        (try walk_at "is_rule")
        by_cases h1 : x ∈ ss <;> by_cases h2 : y ∈ ss <;> simp only [h1, h2] at h ⊢ <;> (try walk_at "is_rule") <;> simpa using h
  · cases ht : tupOf d with
    | none =>
      obtain ⟨ty, e1, e2⟩ := calm_notup hc ht M
      rw [ruleV_none ht] at h
      (try walk_at "is_rule")
      rw [e1]
      (try walk_at "is_rule")
      rw [e2]
      (try walk_at "is_rule")
      exact h
    | some l =>
      obtain ⟨f, rfl⟩ := tup_tq2 ht
      obtain ⟨_, hl⟩ := calm_els hc ht
      have lit : ∀ (x : D) (k : D → Mem → Prop), x ∈ l → k (.bl (litV ss x).isSome) M → sp_is_literal [x, strsF ss] M k := fun x k hx hk => ⟨n, x, ss, rfl, hl x hx, hk⟩
      cases l with
      | nil => rw [ruleV_nil] at h; (try walk_at "is_rule"); exact h
      | cons x l =>
        cases l with
        | nil => rw [ruleV_one] at h; (try walk_at "is_rule"); exact h
        | cons y l =>
          obtain ⟨t1, e1, e2⟩ := calm_isstr (hl x (by simp)) M
          (try walk_at "is_rule")
          rw [if_neg (by simp; omega)]
          rw [e1]
          (try walk_at "is_rule")
          rw [e2]
          cases k1 : strOf x with
          | none =>
            rw [ruleV_nostr k1] at h
            (try walk_at "is_rule")
            exact h
          | some w =>
            cases strOf_some k1
            rw [ruleV_tq] at h
            (try walk_at "is_rule")
            by_cases ew : w = Str.ofString "be"
            · rw [if_pos (decide_eq_true ew)]
              unfold ruleL at h
              rw [if_pos ew] at h
              cases l with
              | nil =>
                rw [if_pos (by simp)]
                refine lit y _ (by simp) ?_
                simp only [Option.isSome_map] at h
                exact h
              | cons z l =>
                rw [if_neg (by simp; omega)]
                exact h
            · rw [if_neg (by simp [ew])]
              unfold ruleL at h
              rw [if_neg ew] at h
              cases l with
              | nil =>
                rw [if_pos (by simp)]
                exact h
              | cons z l =>
                cases l with
                | cons u l =>
                  rw [if_pos (by simp; omega)]
                  exact h
                | nil =>
                  rw [if_neg (by simp)]
                  replace h : post (.bl (ruleW ss w y z).isSome) M := h
                  unfold ruleW at h
                  (try walk_at "is_rule")
                  by_cases mp : w ∈ [("either" : Str), "needs", "bars"]
                  · rw [if_pos mp] at h
                    rw [if_pos (pair_word mp)]
                    refine lit y _ (by simp) ?_
                    cases q1 : litV ss y with
                    | none => rw [q1] at h; (try walk_at "is_rule"); exact h
                    | some a =>
                      rw [q1] at h
                      obtain ⟨rfl, hna⟩ := litV_calm (hl y (by simp)) q1
                      (try walk_at "is_rule")
                      refine lit z _ (by simp) ?_
                      cases q2 : litV ss z with
                      | none => rw [q2] at h; (try walk_at "is_rule"); exact h
                      | some b =>
                        rw [q2, litsR_some mp] at h
                        obtain ⟨rfl, hnb⟩ := litV_calm (hl z (by simp)) q2
                        unfold litD
                        (try walk_at "is_rule")
                        exact h
                  · rw [if_neg mp] at h
                    rw [if_neg (by rw [pair_noword mp]; simp)]
                    by_cases ma : w ∈ [("same" : Str), "unlike"]
                    · rw [if_pos ma] at h
                      rw [if_neg (by rw [alike_word ma]; simp)]
                      obtain ⟨t2, f1, f2⟩ := calm_isstr (hl y (by simp)) M
                      rw [f1]
                      (try walk_at "is_rule")
                      rw [f2]
                      cases q1 : strOf y with
                      | none => rw [q1] at h; (try walk_at "is_rule"); exact h
                      | some s =>
                        rw [q1] at h
                        cases strOf_some q1
                        obtain ⟨t3, g1, g2⟩ := calm_isstr (hl z (by simp)) M
                        (try walk_at "is_rule")
                        rw [g1]
                        (try walk_at "is_rule")
                        rw [g2]
                        cases q2 : strOf z with
                        | none => rw [q2] at h; (try walk_at "is_rule"); exact h
                        | some t =>
                          rw [q2, strsR_some ma] at h
                          cases strOf_some q2
                          (try walk_at "is_rule")
                          by_cases m1 : s ∈ ss <;> by_cases m2 : t ∈ ss <;> simp only [m1, m2] at h ⊢ <;> (try walk_at "is_rule") <;> simpa using h
                    · rw [if_neg ma] at h
                      rw [if_pos (by rw [alike_noword ma]; rfl)]
                      exact h
  · rw [List.map_cons] at h ⊢
    rw [ruleV_firm] at h
    have nb : w ≠ Str.ofString "be" := fun z => by rw [z] at ma; revert ma; decide +kernel
    unfold ruleL at h
    rw [if_neg nb] at h
    match ws, h with
    | [], h =>
      replace h : post (.bl false) M := h
      (try walk_at "is_rule")
      exact h
    | [x], h =>
      replace h : post (.bl false) M := h
      rw [List.map_cons, List.map_nil]
      (try walk_at "is_rule")
      rw [if_neg (by simp [nb])]
      exact h
    | [x, y], h =>
      replace h : post (.bl (ruleW ss w (.str x) (.str y)).isSome) M := h
      unfold ruleW at h
      rw [if_neg (alike_nopair ma), if_pos ma] at h
      rw [show (strsR ss w (strOf (.str x)) (strOf (.str y))).isSome = (strsR ss w (some x) (some y)).isSome from rfl, strsR_some ma] at h
      rw [List.map_cons, List.map_cons, List.map_nil]
      (try walk_at "is_rule")
      rw [if_neg (by simp [nb])]
      (try walk_at "is_rule")
      rw [if_neg (by rw [pair_noword (alike_nopair ma)]; simp)]
      rw [if_neg (by rw [alike_word ma]; simp)]
      (try walk_at "is_rule")
      by_cases m1 : x ∈ ss <;> by_cases m2 : y ∈ ss <;> simp only [m1, m2] at h ⊢ <;> (try walk_at "is_rule") <;> simpa using h
    | x :: y :: z :: l, h =>
      replace h : post (.bl false) M := h
      rw [List.map_cons, List.map_cons, List.map_cons]
      (try walk_at "is_rule")
      rw [if_neg (by simp; omega), if_neg (by simp [nb]), if_pos (by simp; omega)]
      exact h
theorem ok_is_rule (T : Tx P w K mg base) : Pub P w K mg base 2 "is_rule" ["value", "switches"] sp_is_rule := (fn_is_rule T).pub fun _ _ _ _ _ _ us hl => match us, hl with | [_, _], _ => rfl

theorem sc_wrong_rule : FnScope ["value", "switches", "index", "rule"] ["value", "switches"] (defScope (top 30)) := ⟨rfl, rfl, rfl, by decide +kernel, rfl, by decide +kernel, by decide +kernel⟩
def sp_wrong_rule : DSp := fun ds M post => ∃ (g : Fg) (l : List D) (ss : List Str), ds = [tq g l, strsF ss] ∧ (∀ x ∈ l, RowOk x) ∧ post (optD (wrongRw ss 0 l)) M
theorem cl_wrong_rule {fg : Fg} {rs : List Rule} {ss : List Str} {M : Mem} {post : WK} : sp_wrong_rule [tq fg (rs.map ruleD), strsF ss] M post = post (optD (wrongRu ss rs)) M := by
  unfold sp_wrong_rule
  refine propext ⟨fun ⟨g, l, s2, e, _, h⟩ => ?_, fun h => ⟨fg, _, ss, rfl, fun x hx => ?_, by rw [wrongRw_eq]; exact h⟩⟩
  · simp only [List.cons.injEq, tq_inj, D.ftp.injEq, strs_inj, and_true] at e
    obtain ⟨⟨rfl, rfl⟩, rfl⟩ := e
    rw [wrongRw_eq] at h
    exact h
  · obtain ⟨r, _, rfl⟩ := List.mem_map.mp hx
    exact .inl ⟨r, rfl⟩
local macro_rules | `(tactic| walk_at "wrong_rule") => `(tactic| simp only [↓cl_is_rule, cl_is_rule, ↓FD.wCM_e, ↓FD.wCMK_e, ↓FD.wMakeV_e, ↓FD.wMethKC_e, ↓FD.wSetSort_e, ↓FD.gSplit_e, ↓FD.gSplitN_e, ↓FD.wSetLenT_e, ↓FD.wRevT_e, ↓FD.wSetLen_e, ↓FD.wRev_e, ↓FD.gDictS_e, ↓FD.gMinS_e, ↓FD.gIndexB_e, ↓FD.gListN_e, ↓FD.gAddC_e, ↓FD.wDispN_e, ↓FD.wMethD_e, ↓FD.gPop0_e, ↓FD.sFin_e, ↓FD.gFldD_e, ↓FD.sCt_e, ↓FD.sFrz_e, ↓FD.gLeS_e, ↓FD.gStrO_e, ↓FD.gBoolO_e, ↓FD.wM0_e, ↓FD.gUpper_e, ↓FD.gUnL_e, ↓FD.sSeq_e, ↓FD.sRet_e, ↓FD.sIf_e, ↓FD.sAsg_e, ↓FD.gSet_e, ↓FD.sDrop_e, ↓FD.sNext_e, ↓FD.sPar_e, ↓FD.sPar3_e, ↓FD.wIf_e, ↓FD.wOp_e, ↓FD.wUn_e, ↓FD.wVar_e, ↓FD.wC_e, ↓FD.wTst_e, ↓FD.wAnd_e, ↓FD.wOr_e, ↓FD.wNot_e, ↓FD.wAndV_e, ↓FD.wOrV_e, ↓FD.wNotV_e, ↓FD.wChain_e, ↓FD.aNil_e, ↓FD.aCons_e, ↓FD.wTup_e, ↓FD.wLst_e, ↓FD.wFtp_e, ↓FD.wNew_e, ↓FD.wCall_e, ↓FD.wB_e, ↓FD.wSl_e, ↓FD.oSome_e, ↓FD.oNone_e, ↓FD.wIsi_e, ↓FD.wIsiC_e, ↓FD.p1_e, ↓FD.p2_e, ↓FD.gLen_e, ↓FD.iLst_e, ↓FD.iTup_e, ↓FD.iStrD_e, ↓FD.iEnT_e, ↓FD.iEnL_e, ↓FD.iRng_e, ↓FD.iRng2_e, ↓FD.gTup_e, ↓FD.gsNil_e, ↓FD.gsCons_e, ↓FD.wM_e, ↓FD.wIxT_e, ↓FD.wFld_e, ↓FD.wMeth_e, ↓FD.wMake_e, ↓FD.sFldD_e, ↓FD.wDGet_e, ↓FD.sDput_e, ↓FD.wDNewK_e, ↓FD.wDNewT_e, ↓FD.wDisp1_e, ↓FD.wIce_e, ↓FD.gSub_e, ↓FD.wCallK_e, ↓FD.t1_e, ↓FD.t2_e, ↓FD.t1w_e, ↓FD.tYesD_e, ↓FD.gDIn_e, ↓FD.gDNin_e, ↓FD.gIndexT_e, ↓FD.gIndex_e, ↓FD.gAbs_e, ↓FD.gMax_e, ↓FD.gMin_e, ↓FD.gDivmod_e, ↓FD.wFz_e, ↓FD.wDGetD_e, ↓FD.t3_e, ↓FD.iZip3D_e, ↓FD.sForIT_e, ↓FD.wIsiO_e, ↓FD.wFmt_e, ↓FD.wTruO_e, ↓FD.gLenO_e, ↓FD.wMakeK_e, ↓FD.gOwn_e, ↓FD.t12_e, ↓FD.iZipMD_e, ↓FD.sForKT_e, ↓FD.wDSetd_e, ↓FD.wVals_e, ↓FD.iRng3_e, ↓FD.iEnS_e, ↓FD.gZ2_eq, ↓zip2_cl, ↓FD.addF_ftp, ↓FD.wPs_nil, ↓FD.wPs_cons, ↓FM.keyed_nil, ↓FM.keyed_str, ↓FM.sortP_lst, ↓FM.sortP_ftp, ↓lk_de_switches, ↓lk_de_rules, ↓lk_de_promises, ↓lk_de_past, ↓lk_de_undo, ↓lk_de_put, ↓lk_de_turn, ↓lk_de_become, ↓lk_de_take, ↓lk_de_promise, ↓lk_de_lift, ↓lk_de_trial, ↓lk_de_as_panel, ↓put_de_past, ↓put_de_promises, ↓lk_sg_setting, ↓lk_sg_log, ↓lk_sg_past, ↓lk_sg_other, ↓insR_stage, ↓lk_bo_panel, ↓lk_bo_setting, ↓lk_bo_log, ↓lk_bo_busy, ↓lk_bo_past, ↓lk_bo_do, ↓lk_bo_do_all, ↓lk_bo_undo, ↓lk_bo_take, ↓lk_bo_trial, ↓lk_bo_is_deed, ↓lk_bo_check_idle, ↓put_bo_setting, ↓put_bo_log, ↓put_bo_busy, ↓put_bo_past, ↓isiO_pan, ↓insT_pan, ↓FD.js_nil, ↓FD.js_cons, ↓FD.wLc2N_eq, ↓FD.addN_lst, ↓sFor_eq, ↓wLc_eq, ↓wLc2_eq, ↓wDc_eq, ↓look_zero, ↓look_succ, ↓got_so, ↓isB_bl, ↓isI_int, ↓isS_str, ↓isT_tup, ↓isT_ftp, ↓isT_ktp, ↓isT_tp, ↓isT_tq, ↓one_one, ↓two_two, ↓startD_cc, ↓startD_cn, ↓startD_nn, ↓FD.ix_str, ↓FD.ix_tup, ↓ix_ftp, ↓ix_ktp, ↓ix_lst, ↓ix_scr, ↓ix_tp, ↓ix_tq, ↓atI0, ↓atI1, ↓atI2, ↓atI3, ↓FD.eq_str, ↓FD.ne_str, ↓FD.eq_int, ↓FD.ne_int, ↓FD.add_int, ↓FD.sub_int, ↓FD.lt_int, ↓FD.le_int, ↓FD.gt_int, ↓FD.ge_int, ↓FD.add_str, ↓FD.add_lst, ↓FD.add_tup, ↓FD.mul_int, ↓FD.mod_int, ↓FD.fdiv_int, ↓FD.pow_int, ↓isN_non, ↓notN_non, ↓FD.len_str, ↓len_tup, ↓len_ftp, ↓len_ktp, ↓len_lst, ↓len_scr, ↓len_tp, ↓len_tq, ↓seq_tup, ↓seq_ftp, ↓seq_ktp, ↓seq_lst, ↓seq_scr, ↓seq_tp, ↓seq_tq, ↓in_tup, ↓in_ftp, ↓in_ktp, ↓in_lst, ↓nin_tup, ↓nin_ftp, ↓nin_ktp, ↓nin_lst, ↓FD.in_str, ↓nin_str, ↓isC_one, ↓asL_lst, ↓asL_scr, ↓if_tt, ↓if_ff, ↓isi_ss, ↓isi_tt, ↓isi_st, ↓isi_ts, ↓ty_str, ↓ty_tup, ↓ty_ftp, ↓ty_ktp, ↓ty_tp, ↓ty_tq, ↓all_lst, ↓any_lst, ↓flat_s, ↓flat_set, ↓tuple_lst, ↓FD.int_int, ↓eq_ftp_nil, ↓ne_ftp_nil, ↓isNon_non, ↓isNon_int, ↓isNon_str, ↓isNon_ptr, ↓isNon_tup, ↓isNon_ftp, ↓inL_strs, ↓flatSs, ↓inL_sets, ↓flatSets, ↓FM.tw, ↓FM.tw3, ↓FM.sl_str, ↓sl_set, ↓cell_upd, ↓lk_sw, ↓lk_ru, ↓lk_st, ↓lk_place, ↓lk_has, ↓lk_keeps, ↓lk_wrongs, ↓lk_goods, ↓lk_ways_from, ↓lk_text, ↓ins_pan, ↓FD.fit_le, ↓cx_K, ↓nox_K, ↓blk_K, ↓bx_K, ↓c1, ↓c2, ↓c3, ↓c4, ↓inL_cons, ↓inL_nil, ↓all_bools, ↓any_bools, ↓in_tp, ↓in_tq, ↓nin_tp, ↓nin_tq, ↓FM.sl_ftp, ↓FM.sl_tup, ↓FM.sl_lst, ↓FM.sl_scr, ↓index_eq, ↓ex_ftp, ↓eqd_str, ↓wf_at, ↓isT_cl, ↓isT_st, ↓isT_lit, ↓ix_lit0, ↓ix_lit1, ↓len_lit, ↓ty_lit, ↓eq_lit, ↓ne_lit, ↓eq_set, ↓ne_set, ↓len_set, ↓ty_set, ↓isS_set, ↓isC_sg, ↓sNever_e, ↓enumD_map, ↓dpAll_strs, ↓dpAll_mapI, ↓ne_lst_nil, ↓eq_lst_nil, ↓isT_grp, ↓len_grp, ↓isDc_wf, ↓wn_at, ↓isT_way, ↓len_way, ↓ty_way, ↓ty_st, ↓len_st, ↓ix_st0, ↓ix_st1, ↓inD_lits, ↓ninD_lits, ↓dpAll_sets, ↓three_three, ↓zip3_sets, ↓isT_z3, ↓inL_lock, ↓ninT_lits, ↓FM.tp_t, ↓FM.tp_f, ↓FM.tq_t, ↓FM.tq_f, ↓isT_pr, ↓tupleP_lst, ↓isT_it, ↓isNon_set, ↓ixN30, ↓ixN31, ↓ixN32, ↓ix_upd, ↓FM.eq_bl, ↓FM.ne_bl, ↓FM.sl_tp, ↓lstOf_lst, ↓okL_lst, ↓gMulS_eq, ↓add_sets, ↓add_setb, ↓add_setp, ↓add_setm, ↓rngE_e, ↓ix_rule0, ↓repr_bb, ↓isB_isD, ↓isB_notD, ↓wLcN_eq, ↓optW_some, ↓optW_none, ↓isNon_way, ↓ne_way0, ↓mulL2, ↓add_rules, ↓add_rulesT, ↓add_rulesF, ↓ne_ftp_sets, ↓ne_ftp_lits, ↓ne_ftp_strs, ↓add_strs, Option.isSome_some, Option.isSome_none, Option.isNone_some, Option.isNone_none, Option.map_some, Option.map_none, isNon_optW, isNon_optL, pick_nil, pick_cons, List.getElem?_cons_zero, List.getElem?_cons_succ, List.nil_append, List.append_nil, List.cons_append, Bool.decide_eq_true, Bool.decide_eq_false, Int.reduceAbs, Int.reduceToNat, Int.reducePow, true_or, or_true, Mem.upd_upd, rng_int, Bool.not_true, Bool.not_false, Bool.false_eq_true, if_false, if_true, true_and, and_true, List.set_cons_zero, List.set_cons_succ, List.length_cons, List.length_nil, List.length_map, eq_self, decide_true, decide_false, Bool.true_eq_false, or_self, Bool.or_self, List.all_cons, List.all_nil, Bool.and_true, Bool.true_and, Bool.or_false, Bool.false_or, Bool.or_true, Bool.true_or, Bool.and_false, Bool.false_and, Int.reduceLT, Int.reduceLE, Int.reduceEq, Nat.reduceLeDiff, Nat.reduceAdd, Nat.reduceLT, wf_some, wn_some, fold_lit, fold_litp, fold_litm, sg_iff, sg_in_pm, isNon_opt, isEmpty_map, ↓reduceIte, nq_0_1, nq_0_2, nq_0_3, nq_0_4, nq_0_5, nq_0_6, nq_0_7, nq_1_0, nq_1_2, nq_1_3, nq_1_4, nq_1_5, nq_1_6, nq_1_7, nq_2_0, nq_2_1, nq_2_3, nq_2_4, nq_2_5, nq_2_6, nq_2_7, nq_3_0, nq_3_1, nq_3_2, nq_3_4, nq_3_5, nq_3_6, nq_3_7, nq_4_0, nq_4_1, nq_4_2, nq_4_3, nq_4_5, nq_4_6, nq_4_7, nq_5_0, nq_5_1, nq_5_2, nq_5_3, nq_5_4, nq_5_6, nq_5_7, nq_6_0, nq_6_1, nq_6_2, nq_6_3, nq_6_4, nq_6_5, nq_6_7, nq_7_0, nq_7_1, nq_7_2, nq_7_3, nq_7_4, nq_7_5, nq_7_6])
theorem fn_wrong_rule (T : Tx P w K mg base) : Fng P w K mg base 3 "wrong_rule" (top 30) ["value", "switches"] sp_wrong_rule := by
  have S := sc_wrong_rule
  refine fng_of T.d_wrong_rule T.g_wrong_rule S (fun ds M post h => by unfold sp_wrong_rule at h; grind) fun f cdv A outer s H gd hr => ⟨_, (ds_cons (ds_for PassesOwn.never rfl (di_enumT T.m_enumerate (da_cons (dv 0) da_nil)) (dg_tup (n := 2) rfl (dgs_cons (dg_name (i := 2) S.nd) (dgs_cons (dg_name (i := 3) S.nd) dgs_nil)))
      (ds_one (ds_if (PW.pt (dw_or (dt_cmp (o_eq hr) (dv 2) T.k_MOST_RULES) (dw_or1 (dt_not (dt_val (de_call (ok_is_rule T) (hr.mono (by decide)) gd (da_cons (dv 3) (da_cons (dv 1) da_nil))))))))
      (ds_one (ds_ret (dv 2)))
      ds_nil)))
      (ds_one (ds_ret dnon))), ?_⟩
  rintro ds M post ⟨g, l, ss, rfl, hl, h⟩
  (try walk_at "wrong_rule")
  try rw [enumD_id]
  refine for_map l.zipIdx (fun q => D.tup [.int (q.2 : Int), q.1]) (fun i Γ' M' => (∃ x y, Γ' = [some (tq g l), some (strsF ss), x, y] ∧ M' = M) ∧ wrongRw ss i (l.drop i) = wrongRw ss 0 l) ⟨⟨_, _, rfl, rfl⟩, rfl⟩ (fun _ _ _ _ => trivial) ?_ ?_
  · rintro i ⟨d, i2⟩ hx Γ' M' ⟨⟨x, y, rfl, rfl⟩, t3⟩
    obtain ⟨hd, rfl⟩ := zipIdx_at hx
    have dr : l.drop i2 = d :: l.drop (i2 + 1) := by
      obtain ⟨hi, e⟩ := List.getElem?_eq_some_iff.mp hd
      rw [List.drop_eq_getElem_cons hi, e]
    rw [dr, wrongRw_cons] at t3
    (try walk_at "wrong_rule")
    by_cases h1 : i2 = 240
    · rw [if_pos (.inl h1)] at t3
      rw [← t3] at h
      rw [if_pos (by simp [h1])]
      exact h
    · rw [if_neg (by simp; omega)]
      refine ⟨d, _, rfl, hl d (List.mem_of_getElem? hd), ?_⟩
      cases hq : ruleV ss d with
      | none =>
        rw [hq, if_pos (.inr rfl)] at t3
        rw [← t3] at h
        (try walk_at "wrong_rule")
        exact h
      | some a =>
        rw [hq, if_neg (by simp [h1])] at t3
        (try walk_at "wrong_rule")
        exact ⟨⟨_, _, rfl⟩, t3⟩
  · rintro Γ' M' ⟨⟨x, y, rfl, rfl⟩, t3⟩
    rw [List.drop_eq_nil_of_le (by simp)] at t3
    rw [← t3] at h
    (try walk_at "wrong_rule")
    exact h
theorem ok_wrong_rule (T : Tx P w K mg base) : Pub P w K mg base 3 "wrong_rule" ["value", "switches"] sp_wrong_rule := (fn_wrong_rule T).pub fun _ _ _ _ _ _ us hl => match us, hl with | [_, _], _ => rfl

theorem sc_literal_text : FnScope ["literal"] ["literal"] (defScope (top 18)) := ⟨rfl, rfl, rfl, by decide +kernel, rfl, by decide +kernel, by decide +kernel⟩
def sp_literal_text : DSp := fun ds M post => ∃ a : Lit, ds = [litD a] ∧ (nameOk a.n = true ∧ post (.str (litT a)) M)
theorem cl_literal_text {a : Lit} {M : Mem} {post : WK} : sp_literal_text [litD a] M post = (nameOk a.n = true ∧ post (.str (litT a)) M) := by
  simp [-Bool.exists_bool, sp_literal_text, tp_inj, tq_inj, litD_inj, strs_inj, ruleD_inj, clD_inj, setD_inj, rules_inj, lits_inj, sets_inj, ints_inj, panF_inj, rngs_inj, rngE_inj, sg_inj, and_assoc, Int.natCast_inj]
theorem fn_literal_text (T : Tx P w K mg base) : Fng P w K mg base 1 "literal_text" (top 18) ["literal"] sp_literal_text := by
  have S := sc_literal_text
  refine fng_of T.d_literal_text T.g_literal_text S (fun ds M post h => by unfold sp_literal_text at h; grind) fun f cdv A outer s H gd hr => ⟨_, (ds_one (ds_ret (de_joined (dj_cons (de_fmt (de_ix o_ix (dv 0) dint)) (dj_cons (de_fmt (de_ix o_ix (dv 0) dint)) dj_nil))))), ?_⟩
  rintro ds M post ⟨⟨n, s⟩, rfl, hn, h⟩
  have l1 : n.length ≤ 8 := (tOk.of_name hn).2
  have l2 := (sg_tOk s).2
  have l3 : (Str.empty ++ sg s).length ≤ 1 := (em_tOk.app (sg_tOk s)).2
  have l0 : Str.empty.length = 0 := rfl
  simp only [litT] at h
  (try walk_at "w")
  exact ⟨by omega, by omega, h⟩
theorem ok_literal_text (T : Tx P w K mg base) : Pub P w K mg base 1 "literal_text" ["literal"] sp_literal_text := (fn_literal_text T).pub fun _ _ _ _ _ _ us hl => match us, hl with | [_], _ => rfl

theorem sc_rule_text : FnScope ["rule", "literal"] ["rule"] (defScope (top 26)) := ⟨rfl, rfl, rfl, by decide +kernel, rfl, by decide +kernel, by decide +kernel⟩
def sp_rule_text : DSp := fun ds M post => ∃ (ss : List Str) (r : Rule), ds = [ruleD r] ∧ ((∀ s ∈ ss, nameOk s = true) ∧ ruleOk ss r = true ∧ post (.str (ruleT r)) M)
theorem cl_rule_text {r : Rule} {M : Mem} {post : WK} : sp_rule_text [ruleD r] M post = ∃ ss : List Str, (∀ s ∈ ss, nameOk s = true) ∧ ruleOk ss r = true ∧ post (.str (ruleT r)) M := by
  unfold sp_rule_text
  refine propext ⟨fun ⟨ss, q, e, h⟩ => ?_, fun ⟨ss, h⟩ => ⟨ss, r, rfl, h⟩⟩
  simp only [List.cons.injEq, ruleD_inj, and_true] at e
  subst e
  exact ⟨ss, h⟩
local macro_rules | `(tactic| walk_at "rule_text") => `(tactic| simp only [↓cl_literal_text, cl_literal_text, ↓FD.wCM_e, ↓FD.wCMK_e, ↓FD.wMakeV_e, ↓FD.wMethKC_e, ↓FD.wSetSort_e, ↓FD.gSplit_e, ↓FD.gSplitN_e, ↓FD.wSetLenT_e, ↓FD.wRevT_e, ↓FD.wSetLen_e, ↓FD.wRev_e, ↓FD.gDictS_e, ↓FD.gMinS_e, ↓FD.gIndexB_e, ↓FD.gListN_e, ↓FD.gAddC_e, ↓FD.wDispN_e, ↓FD.wMethD_e, ↓FD.gPop0_e, ↓FD.sFin_e, ↓FD.gFldD_e, ↓FD.sCt_e, ↓FD.sFrz_e, ↓FD.gLeS_e, ↓FD.gStrO_e, ↓FD.gBoolO_e, ↓FD.wM0_e, ↓FD.gUpper_e, ↓FD.gUnL_e, ↓FD.sSeq_e, ↓FD.sRet_e, ↓FD.sIf_e, ↓FD.sAsg_e, ↓FD.gSet_e, ↓FD.sDrop_e, ↓FD.sNext_e, ↓FD.sPar_e, ↓FD.sPar3_e, ↓FD.wIf_e, ↓FD.wOp_e, ↓FD.wUn_e, ↓FD.wVar_e, ↓FD.wC_e, ↓FD.wTst_e, ↓FD.wAnd_e, ↓FD.wOr_e, ↓FD.wNot_e, ↓FD.wAndV_e, ↓FD.wOrV_e, ↓FD.wNotV_e, ↓FD.wChain_e, ↓FD.aNil_e, ↓FD.aCons_e, ↓FD.wTup_e, ↓FD.wLst_e, ↓FD.wFtp_e, ↓FD.wNew_e, ↓FD.wCall_e, ↓FD.wB_e, ↓FD.wSl_e, ↓FD.oSome_e, ↓FD.oNone_e, ↓FD.wIsi_e, ↓FD.wIsiC_e, ↓FD.p1_e, ↓FD.p2_e, ↓FD.gLen_e, ↓FD.iLst_e, ↓FD.iTup_e, ↓FD.iStrD_e, ↓FD.iEnT_e, ↓FD.iEnL_e, ↓FD.iRng_e, ↓FD.iRng2_e, ↓FD.gTup_e, ↓FD.gsNil_e, ↓FD.gsCons_e, ↓FD.wM_e, ↓FD.wIxT_e, ↓FD.wFld_e, ↓FD.wMeth_e, ↓FD.wMake_e, ↓FD.sFldD_e, ↓FD.wDGet_e, ↓FD.sDput_e, ↓FD.wDNewK_e, ↓FD.wDNewT_e, ↓FD.wDisp1_e, ↓FD.wIce_e, ↓FD.gSub_e, ↓FD.wCallK_e, ↓FD.t1_e, ↓FD.t2_e, ↓FD.t1w_e, ↓FD.tYesD_e, ↓FD.gDIn_e, ↓FD.gDNin_e, ↓FD.gIndexT_e, ↓FD.gIndex_e, ↓FD.gAbs_e, ↓FD.gMax_e, ↓FD.gMin_e, ↓FD.gDivmod_e, ↓FD.wFz_e, ↓FD.wDGetD_e, ↓FD.t3_e, ↓FD.iZip3D_e, ↓FD.sForIT_e, ↓FD.wIsiO_e, ↓FD.wFmt_e, ↓FD.wTruO_e, ↓FD.gLenO_e, ↓FD.wMakeK_e, ↓FD.gOwn_e, ↓FD.t12_e, ↓FD.iZipMD_e, ↓FD.sForKT_e, ↓FD.wDSetd_e, ↓FD.wVals_e, ↓FD.iRng3_e, ↓FD.iEnS_e, ↓FD.gZ2_eq, ↓zip2_cl, ↓FD.addF_ftp, ↓FD.wPs_nil, ↓FD.wPs_cons, ↓FM.keyed_nil, ↓FM.keyed_str, ↓FM.sortP_lst, ↓FM.sortP_ftp, ↓lk_de_switches, ↓lk_de_rules, ↓lk_de_promises, ↓lk_de_past, ↓lk_de_undo, ↓lk_de_put, ↓lk_de_turn, ↓lk_de_become, ↓lk_de_take, ↓lk_de_promise, ↓lk_de_lift, ↓lk_de_trial, ↓lk_de_as_panel, ↓put_de_past, ↓put_de_promises, ↓lk_sg_setting, ↓lk_sg_log, ↓lk_sg_past, ↓lk_sg_other, ↓insR_stage, ↓lk_bo_panel, ↓lk_bo_setting, ↓lk_bo_log, ↓lk_bo_busy, ↓lk_bo_past, ↓lk_bo_do, ↓lk_bo_do_all, ↓lk_bo_undo, ↓lk_bo_take, ↓lk_bo_trial, ↓lk_bo_is_deed, ↓lk_bo_check_idle, ↓put_bo_setting, ↓put_bo_log, ↓put_bo_busy, ↓put_bo_past, ↓isiO_pan, ↓insT_pan, ↓FD.js_nil, ↓FD.js_cons, ↓FD.wLc2N_eq, ↓FD.addN_lst, ↓sFor_eq, ↓wLc_eq, ↓wLc2_eq, ↓wDc_eq, ↓look_zero, ↓look_succ, ↓got_so, ↓isB_bl, ↓isI_int, ↓isS_str, ↓isT_tup, ↓isT_ftp, ↓isT_ktp, ↓isT_tp, ↓isT_tq, ↓one_one, ↓two_two, ↓startD_cc, ↓startD_cn, ↓startD_nn, ↓FD.ix_str, ↓FD.ix_tup, ↓ix_ftp, ↓ix_ktp, ↓ix_lst, ↓ix_scr, ↓ix_tp, ↓ix_tq, ↓atI0, ↓atI1, ↓atI2, ↓atI3, ↓FD.eq_str, ↓FD.ne_str, ↓FD.eq_int, ↓FD.ne_int, ↓FD.add_int, ↓FD.sub_int, ↓FD.lt_int, ↓FD.le_int, ↓FD.gt_int, ↓FD.ge_int, ↓FD.add_str, ↓FD.add_lst, ↓FD.add_tup, ↓FD.mul_int, ↓FD.mod_int, ↓FD.fdiv_int, ↓FD.pow_int, ↓isN_non, ↓notN_non, ↓FD.len_str, ↓len_tup, ↓len_ftp, ↓len_ktp, ↓len_lst, ↓len_scr, ↓len_tp, ↓len_tq, ↓seq_tup, ↓seq_ftp, ↓seq_ktp, ↓seq_lst, ↓seq_scr, ↓seq_tp, ↓seq_tq, ↓in_tup, ↓in_ftp, ↓in_ktp, ↓in_lst, ↓nin_tup, ↓nin_ftp, ↓nin_ktp, ↓nin_lst, ↓FD.in_str, ↓nin_str, ↓isC_one, ↓asL_lst, ↓asL_scr, ↓if_tt, ↓if_ff, ↓isi_ss, ↓isi_tt, ↓isi_st, ↓isi_ts, ↓ty_str, ↓ty_tup, ↓ty_ftp, ↓ty_ktp, ↓ty_tp, ↓ty_tq, ↓all_lst, ↓any_lst, ↓flat_s, ↓flat_set, ↓tuple_lst, ↓FD.int_int, ↓eq_ftp_nil, ↓ne_ftp_nil, ↓isNon_non, ↓isNon_int, ↓isNon_str, ↓isNon_ptr, ↓isNon_tup, ↓isNon_ftp, ↓inL_strs, ↓flatSs, ↓inL_sets, ↓flatSets, ↓FM.tw, ↓FM.tw3, ↓FM.sl_str, ↓sl_set, ↓cell_upd, ↓lk_sw, ↓lk_ru, ↓lk_st, ↓lk_place, ↓lk_has, ↓lk_keeps, ↓lk_wrongs, ↓lk_goods, ↓lk_ways_from, ↓lk_text, ↓ins_pan, ↓FD.fit_le, ↓cx_K, ↓nox_K, ↓blk_K, ↓bx_K, ↓c1, ↓c2, ↓c3, ↓c4, ↓inL_cons, ↓inL_nil, ↓all_bools, ↓any_bools, ↓in_tp, ↓in_tq, ↓nin_tp, ↓nin_tq, ↓FM.sl_ftp, ↓FM.sl_tup, ↓FM.sl_lst, ↓FM.sl_scr, ↓index_eq, ↓ex_ftp, ↓eqd_str, ↓wf_at, ↓isT_cl, ↓isT_st, ↓isT_lit, ↓ix_lit0, ↓ix_lit1, ↓len_lit, ↓ty_lit, ↓eq_lit, ↓ne_lit, ↓eq_set, ↓ne_set, ↓len_set, ↓ty_set, ↓isS_set, ↓isC_sg, ↓sNever_e, ↓enumD_map, ↓dpAll_strs, ↓dpAll_mapI, ↓ne_lst_nil, ↓eq_lst_nil, ↓isT_grp, ↓len_grp, ↓isDc_wf, ↓wn_at, ↓isT_way, ↓len_way, ↓ty_way, ↓ty_st, ↓len_st, ↓ix_st0, ↓ix_st1, ↓inD_lits, ↓ninD_lits, ↓dpAll_sets, ↓three_three, ↓zip3_sets, ↓isT_z3, ↓inL_lock, ↓ninT_lits, ↓FM.tp_t, ↓FM.tp_f, ↓FM.tq_t, ↓FM.tq_f, ↓isT_pr, ↓tupleP_lst, ↓isT_it, ↓isNon_set, ↓ixN30, ↓ixN31, ↓ixN32, ↓ix_upd, ↓FM.eq_bl, ↓FM.ne_bl, ↓FM.sl_tp, ↓lstOf_lst, ↓okL_lst, ↓gMulS_eq, ↓add_sets, ↓add_setb, ↓add_setp, ↓add_setm, ↓rngE_e, ↓ix_rule0, ↓repr_bb, ↓isB_isD, ↓isB_notD, ↓wLcN_eq, ↓optW_some, ↓optW_none, ↓isNon_way, ↓ne_way0, ↓mulL2, ↓add_rules, ↓add_rulesT, ↓add_rulesF, ↓ne_ftp_sets, ↓ne_ftp_lits, ↓ne_ftp_strs, ↓add_strs, Option.isSome_some, Option.isSome_none, Option.isNone_some, Option.isNone_none, Option.map_some, Option.map_none, isNon_optW, isNon_optL, pick_nil, pick_cons, List.getElem?_cons_zero, List.getElem?_cons_succ, List.nil_append, List.append_nil, List.cons_append, Bool.decide_eq_true, Bool.decide_eq_false, Int.reduceAbs, Int.reduceToNat, Int.reducePow, true_or, or_true, Mem.upd_upd, rng_int, Bool.not_true, Bool.not_false, Bool.false_eq_true, if_false, if_true, true_and, and_true, List.set_cons_zero, List.set_cons_succ, List.length_cons, List.length_nil, List.length_map, eq_self, decide_true, decide_false, Bool.true_eq_false, or_self, Bool.or_self, List.all_cons, List.all_nil, Bool.and_true, Bool.true_and, Bool.or_false, Bool.false_or, Bool.or_true, Bool.true_or, Bool.and_false, Bool.false_and, Int.reduceLT, Int.reduceLE, Int.reduceEq, Nat.reduceLeDiff, Nat.reduceAdd, Nat.reduceLT, wf_some, wn_some, fold_lit, fold_litp, fold_litm, sg_iff, sg_in_pm, isNon_opt, isEmpty_map, ↓reduceIte, nq_0_1, nq_0_2, nq_0_3, nq_0_4, nq_0_5, nq_0_6, nq_0_7, nq_1_0, nq_1_2, nq_1_3, nq_1_4, nq_1_5, nq_1_6, nq_1_7, nq_2_0, nq_2_1, nq_2_3, nq_2_4, nq_2_5, nq_2_6, nq_2_7, nq_3_0, nq_3_1, nq_3_2, nq_3_4, nq_3_5, nq_3_6, nq_3_7, nq_4_0, nq_4_1, nq_4_2, nq_4_3, nq_4_5, nq_4_6, nq_4_7, nq_5_0, nq_5_1, nq_5_2, nq_5_3, nq_5_4, nq_5_6, nq_5_7, nq_6_0, nq_6_1, nq_6_2, nq_6_3, nq_6_4, nq_6_5, nq_6_7, nq_7_0, nq_7_1, nq_7_2, nq_7_3, nq_7_4, nq_7_5, nq_7_6])
theorem fn_rule_text (T : Tx P w K mg base) : Fng P w K mg base 2 "rule_text" (top 26) ["rule"] sp_rule_text := by
  have S := sc_rule_text
  refine fng_of T.d_rule_text T.g_rule_text S (fun ds M post h => by unfold sp_rule_text at h; grind) fun f cdv A outer s H gd hr => ⟨_, (ds_cons (ds_if (dt_cmp o_in (de_ix o_ix (dv 0) dint) T.k_ALIKE)
      (ds_one (ds_ret (de_joined (dj_cons (de_fmt (de_ix o_ix (dv 0) dint)) (dj_cons dstr (dj_cons (de_fmt (de_ix o_ix (dv 0) dint)) (dj_cons dstr (dj_cons (de_fmt (de_ix o_ix (dv 0) dint)) dj_nil))))))))
      ds_nil)
      (ds_one (ds_ret (de_ms PySem.F.slot_str_join PySem.F.type_str_join m_join dstr (da_cons (de_op o_add (de_lst (da_cons (de_ix o_ix (dv 0) dint) da_nil)) (de_lc (own := [("literal", 1)]) rfl S.nd (di_tup (de_slice o_slice (dv 0) (do_some dint) do_none)) (blkOk_by (N := ["rule", "literal"]) (sc := defScope (top 26)) (by decide +kernel)) tgt1 (fun _ _ _ _ _ => pg_name (i := 1) S.nd rfl (Or.inl rfl)) (fun _ _ _ _ _ => dts_nil) (fun _ _ _ _ _ => (de_call (ok_literal_text T) (hr.mono (by decide)) gd (da_cons (dv 1) da_nil))))) da_nil))))), ?_⟩
  rintro ds M post ⟨ss, r, rfl, hs, hr2, h⟩
  have hk := hr2
  have sp : tOk 1 (" " : Str) := tOk_dec (by decide +kernel)
  cases r <;> unfold ruleD <;> simp [ruleOk, litOk] at hr2
  · rename_i a
    have n1 := hs _ hr2
    (try walk_at "rule_text")
    have ec : cutL [D.str "be", litD a] (some 1) none = [a].map litD := rfl
    rw [ec]
    refine ⟨⟨_, rfl⟩, ?_⟩
    refine lc_map [a] litD (fun a => D.str (litT a)) trivial ?_ ?_
    · intro b hb yes hy
      rw [List.mem_singleton.mp hb]
      (try walk_at "rule_text")
      exact ⟨n1, by rw [← List.mem_singleton.mp hb]; exact hy⟩
    · (try walk_at "rule_text")
      have e : D.str "be" :: List.map (fun a => D.str (litT a)) [a] = [("be" : Str), litT a].map D.str := rfl
      rw [e, jn_lst (m := 9) (k := 1) sp (fun s hs => ?_) (by simp)]
      · exact h
      · simp only [List.mem_cons, List.not_mem_nil, or_false] at hs
        rcases hs with rfl | rfl
        · exact tOk_dec (by decide +kernel)
        · exact litT_ok n1
  · rename_i a b
    have n1 := hs _ hr2.1.1
    have n2 := hs _ hr2.1.2
    (try walk_at "rule_text")
    have ec : cutL [D.str "either", litD a, litD b] (some 1) none = [a, b].map litD := rfl
    rw [ec]
    refine ⟨⟨_, rfl⟩, ?_⟩
    refine lc_map [a, b] litD (fun a => D.str (litT a)) trivial ?_ ?_
    · intro c hc yes hy
      (try walk_at "rule_text")
      refine ⟨?_, hy⟩
      simp only [List.mem_cons, List.not_mem_nil, or_false] at hc
      rcases hc with rfl | rfl
      · exact n1
      · exact n2
    · (try walk_at "rule_text")
      have e : D.str "either" :: List.map (fun a => D.str (litT a)) [a, b] = [("either" : Str), litT a, litT b].map D.str := rfl
      rw [e, jn_lst (m := 9) (k := 1) sp (fun s hs => ?_) (by simp)]
      · exact h
      · simp only [List.mem_cons, List.not_mem_nil, or_false] at hs
        rcases hs with rfl | rfl | rfl
        · exact tOk_dec (by decide +kernel)
        · exact litT_ok n1
        · exact litT_ok n2
  · rename_i a b
    have n1 := hs _ hr2.1.1
    have n2 := hs _ hr2.1.2
    (try walk_at "rule_text")
    have ec : cutL [D.str "needs", litD a, litD b] (some 1) none = [a, b].map litD := rfl
    rw [ec]
    refine ⟨⟨_, rfl⟩, ?_⟩
    refine lc_map [a, b] litD (fun a => D.str (litT a)) trivial ?_ ?_
    · intro c hc yes hy
      (try walk_at "rule_text")
      refine ⟨?_, hy⟩
      simp only [List.mem_cons, List.not_mem_nil, or_false] at hc
      rcases hc with rfl | rfl
      · exact n1
      · exact n2
    · (try walk_at "rule_text")
      have e : D.str "needs" :: List.map (fun a => D.str (litT a)) [a, b] = [("needs" : Str), litT a, litT b].map D.str := rfl
      rw [e, jn_lst (m := 9) (k := 1) sp (fun s hs => ?_) (by simp)]
      · exact h
      · simp only [List.mem_cons, List.not_mem_nil, or_false] at hs
        rcases hs with rfl | rfl | rfl
        · exact tOk_dec (by decide +kernel)
        · exact litT_ok n1
        · exact litT_ok n2
  · rename_i a b
    have n1 := hs _ hr2.1.1
    have n2 := hs _ hr2.1.2
    (try walk_at "rule_text")
    have ec : cutL [D.str "bars", litD a, litD b] (some 1) none = [a, b].map litD := rfl
    rw [ec]
    refine ⟨⟨_, rfl⟩, ?_⟩
    refine lc_map [a, b] litD (fun a => D.str (litT a)) trivial ?_ ?_
    · intro c hc yes hy
      (try walk_at "rule_text")
      refine ⟨?_, hy⟩
      simp only [List.mem_cons, List.not_mem_nil, or_false] at hc
      rcases hc with rfl | rfl
      · exact n1
      · exact n2
    · (try walk_at "rule_text")
      have e : D.str "bars" :: List.map (fun a => D.str (litT a)) [a, b] = [("bars" : Str), litT a, litT b].map D.str := rfl
      rw [e, jn_lst (m := 9) (k := 1) sp (fun s hs => ?_) (by simp)]
      · exact h
      · simp only [List.mem_cons, List.not_mem_nil, or_false] at hs
        rcases hs with rfl | rfl | rfl
        · exact tOk_dec (by decide +kernel)
        · exact litT_ok n1
        · exact litT_ok n2
  · rename_i f x y
    have n1 := tOk.of_name (hs _ hr2.1.1)
    have n2 := tOk.of_name (hs _ hr2.1.2)
    have w : tOk 9 ("same" : Str) := tOk_dec (by decide +kernel)
    have q1 := em_tOk.app w
    have q2 := q1.app sp
    have q3 := q2.app n1
    have q4 := q3.app sp
    have a0 := em_tOk.2
    have a1 := w.2
    have a2 := sp.2
    have a3 := n1.2
    have a4 := n2.2
    have b1 := q1.2
    have b2 := q2.2
    have b3 := q3.2
    have b4 := q4.2
    (try walk_at "rule_text")
    exact ⟨by omega, by omega, by omega, by omega, by omega, h⟩
  · rename_i f x y
    have n1 := tOk.of_name (hs _ hr2.1.1)
    have n2 := tOk.of_name (hs _ hr2.1.2)
    have w : tOk 9 ("unlike" : Str) := tOk_dec (by decide +kernel)
    have q1 := em_tOk.app w
    have q2 := q1.app sp
    have q3 := q2.app n1
    have q4 := q3.app sp
    have a0 := em_tOk.2
    have a1 := w.2
    have a2 := sp.2
    have a3 := n1.2
    have a4 := n2.2
    have b1 := q1.2
    have b2 := q2.2
    have b3 := q3.2
    have b4 := q4.2
    (try walk_at "rule_text")
    exact ⟨by omega, by omega, by omega, by omega, by omega, h⟩
theorem ok_rule_text (T : Tx P w K mg base) : Pub P w K mg base 2 "rule_text" ["rule"] sp_rule_text := (fn_rule_text T).pub fun _ _ _ _ _ _ us hl => match us, hl with | [_], _ => rfl

theorem sc_panel_text : FnScope ["switches", "rules", "rule"] ["switches", "rules"] (defScope (top 31)) := ⟨rfl, rfl, rfl, by decide +kernel, rfl, by decide +kernel, by decide +kernel⟩
def sp_panel_text : DSp := fun ds M post => ∃ (fg : Fg) (p : Pan), ds = [strsF p.ss, tq fg (p.rs.map ruleD)] ∧ post (.str (panT p.ss p.rs)) M
theorem cl_panel_text {fg : Fg} {p : Pan} {M : Mem} {post : WK} : sp_panel_text [strsF p.ss, tq fg (p.rs.map ruleD)] M post = post (.str (panT p.ss p.rs)) M := by
  unfold sp_panel_text
  refine propext ⟨fun ⟨g, q, e, h⟩ => ?_, fun h => ⟨fg, p, rfl, h⟩⟩
  simp only [List.cons.injEq, D.ftp.injEq, strs_inj, tq_inj, rules_inj, and_true] at e
  rw [Pan.ext' e.1 e.2.2]
  exact h
local macro_rules | `(tactic| walk_at "panel_text") => `(tactic| simp only [↓cl_rule_text, cl_rule_text, ↓FD.wCM_e, ↓FD.wCMK_e, ↓FD.wMakeV_e, ↓FD.wMethKC_e, ↓FD.wSetSort_e, ↓FD.gSplit_e, ↓FD.gSplitN_e, ↓FD.wSetLenT_e, ↓FD.wRevT_e, ↓FD.wSetLen_e, ↓FD.wRev_e, ↓FD.gDictS_e, ↓FD.gMinS_e, ↓FD.gIndexB_e, ↓FD.gListN_e, ↓FD.gAddC_e, ↓FD.wDispN_e, ↓FD.wMethD_e, ↓FD.gPop0_e, ↓FD.sFin_e, ↓FD.gFldD_e, ↓FD.sCt_e, ↓FD.sFrz_e, ↓FD.gLeS_e, ↓FD.gStrO_e, ↓FD.gBoolO_e, ↓FD.wM0_e, ↓FD.gUpper_e, ↓FD.gUnL_e, ↓FD.sSeq_e, ↓FD.sRet_e, ↓FD.sIf_e, ↓FD.sAsg_e, ↓FD.gSet_e, ↓FD.sDrop_e, ↓FD.sNext_e, ↓FD.sPar_e, ↓FD.sPar3_e, ↓FD.wIf_e, ↓FD.wOp_e, ↓FD.wUn_e, ↓FD.wVar_e, ↓FD.wC_e, ↓FD.wTst_e, ↓FD.wAnd_e, ↓FD.wOr_e, ↓FD.wNot_e, ↓FD.wAndV_e, ↓FD.wOrV_e, ↓FD.wNotV_e, ↓FD.wChain_e, ↓FD.aNil_e, ↓FD.aCons_e, ↓FD.wTup_e, ↓FD.wLst_e, ↓FD.wFtp_e, ↓FD.wNew_e, ↓FD.wCall_e, ↓FD.wB_e, ↓FD.wSl_e, ↓FD.oSome_e, ↓FD.oNone_e, ↓FD.wIsi_e, ↓FD.wIsiC_e, ↓FD.p1_e, ↓FD.p2_e, ↓FD.gLen_e, ↓FD.iLst_e, ↓FD.iTup_e, ↓FD.iStrD_e, ↓FD.iEnT_e, ↓FD.iEnL_e, ↓FD.iRng_e, ↓FD.iRng2_e, ↓FD.gTup_e, ↓FD.gsNil_e, ↓FD.gsCons_e, ↓FD.wM_e, ↓FD.wIxT_e, ↓FD.wFld_e, ↓FD.wMeth_e, ↓FD.wMake_e, ↓FD.sFldD_e, ↓FD.wDGet_e, ↓FD.sDput_e, ↓FD.wDNewK_e, ↓FD.wDNewT_e, ↓FD.wDisp1_e, ↓FD.wIce_e, ↓FD.gSub_e, ↓FD.wCallK_e, ↓FD.t1_e, ↓FD.t2_e, ↓FD.t1w_e, ↓FD.tYesD_e, ↓FD.gDIn_e, ↓FD.gDNin_e, ↓FD.gIndexT_e, ↓FD.gIndex_e, ↓FD.gAbs_e, ↓FD.gMax_e, ↓FD.gMin_e, ↓FD.gDivmod_e, ↓FD.wFz_e, ↓FD.wDGetD_e, ↓FD.t3_e, ↓FD.iZip3D_e, ↓FD.sForIT_e, ↓FD.wIsiO_e, ↓FD.wFmt_e, ↓FD.wTruO_e, ↓FD.gLenO_e, ↓FD.wMakeK_e, ↓FD.gOwn_e, ↓FD.t12_e, ↓FD.iZipMD_e, ↓FD.sForKT_e, ↓FD.wDSetd_e, ↓FD.wVals_e, ↓FD.iRng3_e, ↓FD.iEnS_e, ↓FD.gZ2_eq, ↓zip2_cl, ↓FD.addF_ftp, ↓FD.wPs_nil, ↓FD.wPs_cons, ↓FM.keyed_nil, ↓FM.keyed_str, ↓FM.sortP_lst, ↓FM.sortP_ftp, ↓lk_de_switches, ↓lk_de_rules, ↓lk_de_promises, ↓lk_de_past, ↓lk_de_undo, ↓lk_de_put, ↓lk_de_turn, ↓lk_de_become, ↓lk_de_take, ↓lk_de_promise, ↓lk_de_lift, ↓lk_de_trial, ↓lk_de_as_panel, ↓put_de_past, ↓put_de_promises, ↓lk_sg_setting, ↓lk_sg_log, ↓lk_sg_past, ↓lk_sg_other, ↓insR_stage, ↓lk_bo_panel, ↓lk_bo_setting, ↓lk_bo_log, ↓lk_bo_busy, ↓lk_bo_past, ↓lk_bo_do, ↓lk_bo_do_all, ↓lk_bo_undo, ↓lk_bo_take, ↓lk_bo_trial, ↓lk_bo_is_deed, ↓lk_bo_check_idle, ↓put_bo_setting, ↓put_bo_log, ↓put_bo_busy, ↓put_bo_past, ↓isiO_pan, ↓insT_pan, ↓FD.js_nil, ↓FD.js_cons, ↓FD.wLc2N_eq, ↓FD.addN_lst, ↓sFor_eq, ↓wLc_eq, ↓wLc2_eq, ↓wDc_eq, ↓look_zero, ↓look_succ, ↓got_so, ↓isB_bl, ↓isI_int, ↓isS_str, ↓isT_tup, ↓isT_ftp, ↓isT_ktp, ↓isT_tp, ↓isT_tq, ↓one_one, ↓two_two, ↓startD_cc, ↓startD_cn, ↓startD_nn, ↓FD.ix_str, ↓FD.ix_tup, ↓ix_ftp, ↓ix_ktp, ↓ix_lst, ↓ix_scr, ↓ix_tp, ↓ix_tq, ↓atI0, ↓atI1, ↓atI2, ↓atI3, ↓FD.eq_str, ↓FD.ne_str, ↓FD.eq_int, ↓FD.ne_int, ↓FD.add_int, ↓FD.sub_int, ↓FD.lt_int, ↓FD.le_int, ↓FD.gt_int, ↓FD.ge_int, ↓FD.add_str, ↓FD.add_lst, ↓FD.add_tup, ↓FD.mul_int, ↓FD.mod_int, ↓FD.fdiv_int, ↓FD.pow_int, ↓isN_non, ↓notN_non, ↓FD.len_str, ↓len_tup, ↓len_ftp, ↓len_ktp, ↓len_lst, ↓len_scr, ↓len_tp, ↓len_tq, ↓seq_tup, ↓seq_ftp, ↓seq_ktp, ↓seq_lst, ↓seq_scr, ↓seq_tp, ↓seq_tq, ↓in_tup, ↓in_ftp, ↓in_ktp, ↓in_lst, ↓nin_tup, ↓nin_ftp, ↓nin_ktp, ↓nin_lst, ↓FD.in_str, ↓nin_str, ↓isC_one, ↓asL_lst, ↓asL_scr, ↓if_tt, ↓if_ff, ↓isi_ss, ↓isi_tt, ↓isi_st, ↓isi_ts, ↓ty_str, ↓ty_tup, ↓ty_ftp, ↓ty_ktp, ↓ty_tp, ↓ty_tq, ↓all_lst, ↓any_lst, ↓flat_s, ↓flat_set, ↓tuple_lst, ↓FD.int_int, ↓eq_ftp_nil, ↓ne_ftp_nil, ↓isNon_non, ↓isNon_int, ↓isNon_str, ↓isNon_ptr, ↓isNon_tup, ↓isNon_ftp, ↓inL_strs, ↓flatSs, ↓inL_sets, ↓flatSets, ↓FM.tw, ↓FM.tw3, ↓FM.sl_str, ↓sl_set, ↓cell_upd, ↓lk_sw, ↓lk_ru, ↓lk_st, ↓lk_place, ↓lk_has, ↓lk_keeps, ↓lk_wrongs, ↓lk_goods, ↓lk_ways_from, ↓lk_text, ↓ins_pan, ↓FD.fit_le, ↓cx_K, ↓nox_K, ↓blk_K, ↓bx_K, ↓c1, ↓c2, ↓c3, ↓c4, ↓inL_cons, ↓inL_nil, ↓all_bools, ↓any_bools, ↓in_tp, ↓in_tq, ↓nin_tp, ↓nin_tq, ↓FM.sl_ftp, ↓FM.sl_tup, ↓FM.sl_lst, ↓FM.sl_scr, ↓index_eq, ↓ex_ftp, ↓eqd_str, ↓wf_at, ↓isT_cl, ↓isT_st, ↓isT_lit, ↓ix_lit0, ↓ix_lit1, ↓len_lit, ↓ty_lit, ↓eq_lit, ↓ne_lit, ↓eq_set, ↓ne_set, ↓len_set, ↓ty_set, ↓isS_set, ↓isC_sg, ↓sNever_e, ↓enumD_map, ↓dpAll_strs, ↓dpAll_mapI, ↓ne_lst_nil, ↓eq_lst_nil, ↓isT_grp, ↓len_grp, ↓isDc_wf, ↓wn_at, ↓isT_way, ↓len_way, ↓ty_way, ↓ty_st, ↓len_st, ↓ix_st0, ↓ix_st1, ↓inD_lits, ↓ninD_lits, ↓dpAll_sets, ↓three_three, ↓zip3_sets, ↓isT_z3, ↓inL_lock, ↓ninT_lits, ↓FM.tp_t, ↓FM.tp_f, ↓FM.tq_t, ↓FM.tq_f, ↓isT_pr, ↓tupleP_lst, ↓isT_it, ↓isNon_set, ↓ixN30, ↓ixN31, ↓ixN32, ↓ix_upd, ↓FM.eq_bl, ↓FM.ne_bl, ↓FM.sl_tp, ↓lstOf_lst, ↓okL_lst, ↓gMulS_eq, ↓add_sets, ↓add_setb, ↓add_setp, ↓add_setm, ↓rngE_e, ↓ix_rule0, ↓repr_bb, ↓isB_isD, ↓isB_notD, ↓wLcN_eq, ↓optW_some, ↓optW_none, ↓isNon_way, ↓ne_way0, ↓mulL2, ↓add_rules, ↓add_rulesT, ↓add_rulesF, ↓ne_ftp_sets, ↓ne_ftp_lits, ↓ne_ftp_strs, ↓add_strs, Option.isSome_some, Option.isSome_none, Option.isNone_some, Option.isNone_none, Option.map_some, Option.map_none, isNon_optW, isNon_optL, pick_nil, pick_cons, List.getElem?_cons_zero, List.getElem?_cons_succ, List.nil_append, List.append_nil, List.cons_append, Bool.decide_eq_true, Bool.decide_eq_false, Int.reduceAbs, Int.reduceToNat, Int.reducePow, true_or, or_true, Mem.upd_upd, rng_int, Bool.not_true, Bool.not_false, Bool.false_eq_true, if_false, if_true, true_and, and_true, List.set_cons_zero, List.set_cons_succ, List.length_cons, List.length_nil, List.length_map, eq_self, decide_true, decide_false, Bool.true_eq_false, or_self, Bool.or_self, List.all_cons, List.all_nil, Bool.and_true, Bool.true_and, Bool.or_false, Bool.false_or, Bool.or_true, Bool.true_or, Bool.and_false, Bool.false_and, Int.reduceLT, Int.reduceLE, Int.reduceEq, Nat.reduceLeDiff, Nat.reduceAdd, Nat.reduceLT, wf_some, wn_some, fold_lit, fold_litp, fold_litm, sg_iff, sg_in_pm, isNon_opt, isEmpty_map, ↓reduceIte, nq_0_1, nq_0_2, nq_0_3, nq_0_4, nq_0_5, nq_0_6, nq_0_7, nq_1_0, nq_1_2, nq_1_3, nq_1_4, nq_1_5, nq_1_6, nq_1_7, nq_2_0, nq_2_1, nq_2_3, nq_2_4, nq_2_5, nq_2_6, nq_2_7, nq_3_0, nq_3_1, nq_3_2, nq_3_4, nq_3_5, nq_3_6, nq_3_7, nq_4_0, nq_4_1, nq_4_2, nq_4_3, nq_4_5, nq_4_6, nq_4_7, nq_5_0, nq_5_1, nq_5_2, nq_5_3, nq_5_4, nq_5_6, nq_5_7, nq_6_0, nq_6_1, nq_6_2, nq_6_3, nq_6_4, nq_6_5, nq_6_7, nq_7_0, nq_7_1, nq_7_2, nq_7_3, nq_7_4, nq_7_5, nq_7_6])
theorem fn_panel_text (T : Tx P w K mg base) : Fng P w K mg base 3 "panel_text" (top 31) ["switches", "rules"] sp_panel_text := by
  have S := sc_panel_text
  refine fng_of T.d_panel_text T.g_panel_text S (fun ds M post h => by unfold sp_panel_text at h; grind) fun f cdv A outer s H gd hr => ⟨_, (ds_one (ds_ret (de_ms PySem.F.slot_str_join PySem.F.type_str_join m_join dstr (da_cons (de_op o_add (de_lst (da_cons (de_op o_add dstr (de_ms PySem.F.slot_str_join PySem.F.type_str_join m_join dstr (da_cons (dv 0) da_nil))) da_nil)) (de_lc (own := [("rule", 2)]) rfl S.nd (di_tup (dv 1)) (blkOk_by (N := ["switches", "rules", "rule"]) (sc := defScope (top 31)) (by decide +kernel)) tgt1 (fun _ _ _ _ _ => pg_name (i := 2) S.nd rfl (Or.inl rfl)) (fun _ _ _ _ _ => dts_nil) (fun _ _ _ _ _ => (de_call (ok_rule_text T) (hr.mono (by decide)) gd (da_cons (dv 2) da_nil))))) da_nil)))), ?_⟩
  rintro ds M post ⟨fg, p, rfl, h⟩
  have ln := p.len
  have l10 := p.sw.2.1
  have nm := p.sw.2.2.2
  have cm : tOk 2 (", " : Str) := tOk_dec (by decide +kernel)
  have nl : tOk 1 ("\n" : Str) := tOk_dec (by decide +kernel)
  have j1 := (tOk.join (n := 10) cm (fun s hs => tOk.of_name (nm s hs)) l10).2
  have j2 : (Str.ofString "switches ").length = 9 := by decide +kernel
  (try walk_at "panel_text")
  rw [jn_ftp (m := 8) cm (fun s hs => tOk.of_name (nm s hs)) (by omega)]
  (try walk_at "panel_text")
  refine ⟨⟨_, rfl⟩, ⟨_, rfl⟩, by omega, ?_⟩
  refine lc_map p.rs ruleD (fun r => D.str (ruleT r)) trivial ?_ ?_
  · intro r hr2 yes hy
    (try walk_at "panel_text")
    exact ⟨p.ss, nm, p.ru r hr2, hy⟩
  · (try walk_at "panel_text")
    have e : D.str (Str.ofString "switches " ++ Txt.join (Str.ofString ", ") p.ss) :: (p.rs.map fun r => D.str (ruleT r)) = ((Str.ofString "switches " ++ Txt.join (Str.ofString ", ") p.ss) :: p.rs.map ruleT).map D.str := by rw [List.map_cons, List.map_map]; rfl
    rw [e, jn_lst (m := 109) nl rows_ok (by rw [List.length_cons, List.length_map]; omega)]
    exact ⟨by omega, h⟩
theorem ok_panel_text (T : Tx P w K mg base) : Pub P w K mg base 3 "panel_text" ["switches", "rules"] sp_panel_text := (fn_panel_text T).pub fun _ _ _ _ _ _ us hl => match us, hl with | [_, _], _ => rfl

theorem sc_panel_in : FnScope ["value", "rows", "switches", "rules", "row"] ["value"] (defScope (top 32)) := ⟨rfl, rfl, rfl, by decide +kernel, rfl, by decide +kernel, by decide +kernel⟩
def sp_panel_in : DSp := fun ds M post => ∃ (d : D), ds = [d] ∧ ((∃ s, d = .str s ∧ s.length ≤ 900000) ∨ ∃ n, calm n d = true ∧ ∀ s, d ≠ .str s) ∧ (∀ p : Pan, d = .str (panT p.ss p.rs) → post (.tup [strsF p.ss, .ftp (p.firm.rs.map ruleD)]) M) ∧ ((∀ p : Pan, d ≠ .str (panT p.ss p.rs)) → post .non M)
local macro_rules | `(tactic| walk_at "panel_in") => `(tactic| simp (maxSteps := 4000000) only [↓cl_wrong_switch, cl_wrong_switch, ↓cl_wrong_rule, cl_wrong_rule, ↓cl_panel_text, cl_panel_text, ↓FD.wCM_e, ↓FD.wCMK_e, ↓FD.wMakeV_e, ↓FD.wMethKC_e, ↓FD.wSetSort_e, ↓FD.gSplit_e, ↓FD.gSplitN_e, ↓FD.wSetLenT_e, ↓FD.wRevT_e, ↓FD.wSetLen_e, ↓FD.wRev_e, ↓FD.gDictS_e, ↓FD.gMinS_e, ↓FD.gIndexB_e, ↓FD.gListN_e, ↓FD.gAddC_e, ↓FD.wDispN_e, ↓FD.wMethD_e, ↓FD.gPop0_e, ↓FD.sFin_e, ↓FD.gFldD_e, ↓FD.sCt_e, ↓FD.sFrz_e, ↓FD.gLeS_e, ↓FD.gStrO_e, ↓FD.gBoolO_e, ↓FD.wM0_e, ↓FD.gUpper_e, ↓FD.gUnL_e, ↓FD.sSeq_e, ↓FD.sRet_e, ↓FD.sIf_e, ↓FD.sAsg_e, ↓FD.gSet_e, ↓FD.sDrop_e, ↓FD.sNext_e, ↓FD.sPar_e, ↓FD.sPar3_e, ↓FD.wIf_e, ↓FD.wOp_e, ↓FD.wUn_e, ↓FD.wVar_e, ↓FD.wC_e, ↓FD.wTst_e, ↓FD.wAnd_e, ↓FD.wOr_e, ↓FD.wNot_e, ↓FD.wAndV_e, ↓FD.wOrV_e, ↓FD.wNotV_e, ↓FD.wChain_e, ↓FD.aNil_e, ↓FD.aCons_e, ↓FD.wTup_e, ↓FD.wLst_e, ↓FD.wFtp_e, ↓FD.wNew_e, ↓FD.wCall_e, ↓FD.wB_e, ↓FD.wSl_e, ↓FD.oSome_e, ↓FD.oNone_e, ↓FD.wIsi_e, ↓FD.wIsiC_e, ↓FD.p1_e, ↓FD.p2_e, ↓FD.gLen_e, ↓FD.iLst_e, ↓FD.iTup_e, ↓FD.iStrD_e, ↓FD.iEnT_e, ↓FD.iEnL_e, ↓FD.iRng_e, ↓FD.iRng2_e, ↓FD.gTup_e, ↓FD.gsNil_e, ↓FD.gsCons_e, ↓FD.wM_e, ↓FD.wIxT_e, ↓FD.wFld_e, ↓FD.wMeth_e, ↓FD.wMake_e, ↓FD.sFldD_e, ↓FD.wDGet_e, ↓FD.sDput_e, ↓FD.wDNewK_e, ↓FD.wDNewT_e, ↓FD.wDisp1_e, ↓FD.wIce_e, ↓FD.gSub_e, ↓FD.wCallK_e, ↓FD.t1_e, ↓FD.t2_e, ↓FD.t1w_e, ↓FD.tYesD_e, ↓FD.gDIn_e, ↓FD.gDNin_e, ↓FD.gIndexT_e, ↓FD.gIndex_e, ↓FD.gAbs_e, ↓FD.gMax_e, ↓FD.gMin_e, ↓FD.gDivmod_e, ↓FD.wFz_e, ↓FD.wDGetD_e, ↓FD.t3_e, ↓FD.iZip3D_e, ↓FD.sForIT_e, ↓FD.wIsiO_e, ↓FD.wFmt_e, ↓FD.wTruO_e, ↓FD.gLenO_e, ↓FD.wMakeK_e, ↓FD.gOwn_e, ↓FD.t12_e, ↓FD.iZipMD_e, ↓FD.sForKT_e, ↓FD.wDSetd_e, ↓FD.wVals_e, ↓FD.iRng3_e, ↓FD.iEnS_e, ↓FD.gZ2_eq, ↓zip2_cl, ↓FD.addF_ftp, ↓FD.wPs_nil, ↓FD.wPs_cons, ↓FM.keyed_nil, ↓FM.keyed_str, ↓FM.sortP_lst, ↓FM.sortP_ftp, ↓lk_de_switches, ↓lk_de_rules, ↓lk_de_promises, ↓lk_de_past, ↓lk_de_undo, ↓lk_de_put, ↓lk_de_turn, ↓lk_de_become, ↓lk_de_take, ↓lk_de_promise, ↓lk_de_lift, ↓lk_de_trial, ↓lk_de_as_panel, ↓put_de_past, ↓put_de_promises, ↓lk_sg_setting, ↓lk_sg_log, ↓lk_sg_past, ↓lk_sg_other, ↓insR_stage, ↓lk_bo_panel, ↓lk_bo_setting, ↓lk_bo_log, ↓lk_bo_busy, ↓lk_bo_past, ↓lk_bo_do, ↓lk_bo_do_all, ↓lk_bo_undo, ↓lk_bo_take, ↓lk_bo_trial, ↓lk_bo_is_deed, ↓lk_bo_check_idle, ↓put_bo_setting, ↓put_bo_log, ↓put_bo_busy, ↓put_bo_past, ↓isiO_pan, ↓insT_pan, ↓FD.js_nil, ↓FD.js_cons, ↓FD.wLc2N_eq, ↓FD.addN_lst, ↓sFor_eq, ↓wLc_eq, ↓wLc2_eq, ↓wDc_eq, ↓look_zero, ↓look_succ, ↓got_so, ↓isB_bl, ↓isI_int, ↓isS_str, ↓isT_tup, ↓isT_ftp, ↓isT_ktp, ↓isT_tp, ↓isT_tq, ↓one_one, ↓two_two, ↓startD_cc, ↓startD_cn, ↓startD_nn, ↓FD.ix_str, ↓FD.ix_tup, ↓ix_ftp, ↓ix_ktp, ↓ix_lst, ↓ix_scr, ↓ix_tp, ↓ix_tq, ↓atI0, ↓atI1, ↓atI2, ↓atI3, ↓FD.eq_str, ↓FD.ne_str, ↓FD.eq_int, ↓FD.ne_int, ↓FD.add_int, ↓FD.sub_int, ↓FD.lt_int, ↓FD.le_int, ↓FD.gt_int, ↓FD.ge_int, ↓FD.add_str, ↓FD.add_lst, ↓FD.add_tup, ↓FD.mul_int, ↓FD.mod_int, ↓FD.fdiv_int, ↓FD.pow_int, ↓isN_non, ↓notN_non, ↓FD.len_str, ↓len_tup, ↓len_ftp, ↓len_ktp, ↓len_lst, ↓len_scr, ↓len_tp, ↓len_tq, ↓seq_tup, ↓seq_ftp, ↓seq_ktp, ↓seq_lst, ↓seq_scr, ↓seq_tp, ↓seq_tq, ↓in_tup, ↓in_ftp, ↓in_ktp, ↓in_lst, ↓nin_tup, ↓nin_ftp, ↓nin_ktp, ↓nin_lst, ↓FD.in_str, ↓nin_str, ↓isC_one, ↓asL_lst, ↓asL_scr, ↓if_tt, ↓if_ff, ↓isi_ss, ↓isi_tt, ↓isi_st, ↓isi_ts, ↓ty_str, ↓ty_tup, ↓ty_ftp, ↓ty_ktp, ↓ty_tp, ↓ty_tq, ↓all_lst, ↓any_lst, ↓flat_s, ↓flat_set, ↓tuple_lst, ↓FD.int_int, ↓eq_ftp_nil, ↓ne_ftp_nil, ↓isNon_non, ↓isNon_int, ↓isNon_str, ↓isNon_ptr, ↓isNon_tup, ↓isNon_ftp, ↓inL_strs, ↓flatSs, ↓inL_sets, ↓flatSets, ↓FM.tw, ↓FM.tw3, ↓FM.sl_str, ↓sl_set, ↓cell_upd, ↓lk_sw, ↓lk_ru, ↓lk_st, ↓lk_place, ↓lk_has, ↓lk_keeps, ↓lk_wrongs, ↓lk_goods, ↓lk_ways_from, ↓lk_text, ↓ins_pan, ↓FD.fit_le, ↓cx_K, ↓nox_K, ↓blk_K, ↓bx_K, ↓c1, ↓c2, ↓c3, ↓c4, ↓inL_cons, ↓inL_nil, ↓all_bools, ↓any_bools, ↓in_tp, ↓in_tq, ↓nin_tp, ↓nin_tq, ↓FM.sl_ftp, ↓FM.sl_tup, ↓FM.sl_lst, ↓FM.sl_scr, ↓index_eq, ↓ex_ftp, ↓eqd_str, ↓wf_at, ↓isT_cl, ↓isT_st, ↓isT_lit, ↓ix_lit0, ↓ix_lit1, ↓len_lit, ↓ty_lit, ↓eq_lit, ↓ne_lit, ↓eq_set, ↓ne_set, ↓len_set, ↓ty_set, ↓isS_set, ↓isC_sg, ↓sNever_e, ↓enumD_map, ↓dpAll_strs, ↓dpAll_mapI, ↓ne_lst_nil, ↓eq_lst_nil, ↓isT_grp, ↓len_grp, ↓isDc_wf, ↓wn_at, ↓isT_way, ↓len_way, ↓ty_way, ↓ty_st, ↓len_st, ↓ix_st0, ↓ix_st1, ↓inD_lits, ↓ninD_lits, ↓dpAll_sets, ↓three_three, ↓zip3_sets, ↓isT_z3, ↓inL_lock, ↓ninT_lits, ↓FM.tp_t, ↓FM.tp_f, ↓FM.tq_t, ↓FM.tq_f, ↓isT_pr, ↓tupleP_lst, ↓isT_it, ↓isNon_set, ↓ixN30, ↓ixN31, ↓ixN32, ↓ix_upd, ↓FM.eq_bl, ↓FM.ne_bl, ↓FM.sl_tp, ↓lstOf_lst, ↓okL_lst, ↓gMulS_eq, ↓add_sets, ↓add_setb, ↓add_setp, ↓add_setm, ↓rngE_e, ↓ix_rule0, ↓repr_bb, ↓isB_isD, ↓isB_notD, ↓wLcN_eq, ↓optW_some, ↓optW_none, ↓isNon_way, ↓ne_way0, ↓mulL2, ↓add_rules, ↓add_rulesT, ↓add_rulesF, ↓ne_ftp_sets, ↓ne_ftp_lits, ↓ne_ftp_strs, ↓add_strs, Option.isSome_some, Option.isSome_none, Option.isNone_some, Option.isNone_none, Option.map_some, Option.map_none, isNon_optW, isNon_optL, pick_nil, pick_cons, List.getElem?_cons_zero, List.getElem?_cons_succ, List.nil_append, List.append_nil, List.cons_append, Bool.decide_eq_true, Bool.decide_eq_false, Int.reduceAbs, Int.reduceToNat, Int.reducePow, true_or, or_true, Mem.upd_upd, rng_int, Bool.not_true, Bool.not_false, Bool.false_eq_true, if_false, if_true, true_and, and_true, List.set_cons_zero, List.set_cons_succ, List.length_cons, List.length_nil, List.length_map, eq_self, decide_true, decide_false, Bool.true_eq_false, or_self, Bool.or_self, List.all_cons, List.all_nil, Bool.and_true, Bool.true_and, Bool.or_false, Bool.false_or, Bool.or_true, Bool.true_or, Bool.and_false, Bool.false_and, Int.reduceLT, Int.reduceLE, Int.reduceEq, Nat.reduceLeDiff, Nat.reduceAdd, Nat.reduceLT, wf_some, wn_some, fold_lit, fold_litp, fold_litm, sg_iff, sg_in_pm, isNon_opt, isEmpty_map, ↓reduceIte, nq_0_1, nq_0_2, nq_0_3, nq_0_4, nq_0_5, nq_0_6, nq_0_7, nq_1_0, nq_1_2, nq_1_3, nq_1_4, nq_1_5, nq_1_6, nq_1_7, nq_2_0, nq_2_1, nq_2_3, nq_2_4, nq_2_5, nq_2_6, nq_2_7, nq_3_0, nq_3_1, nq_3_2, nq_3_4, nq_3_5, nq_3_6, nq_3_7, nq_4_0, nq_4_1, nq_4_2, nq_4_3, nq_4_5, nq_4_6, nq_4_7, nq_5_0, nq_5_1, nq_5_2, nq_5_3, nq_5_4, nq_5_6, nq_5_7, nq_6_0, nq_6_1, nq_6_2, nq_6_3, nq_6_4, nq_6_5, nq_6_7, nq_7_0, nq_7_1, nq_7_2, nq_7_3, nq_7_4, nq_7_5, nq_7_6])
theorem fn_panel_in (T : Tx P w K mg base) : Fng P w K mg base 4 "panel_in" (top 32) ["value"] sp_panel_in := by
  have S := sc_panel_in
  refine fng_of T.d_panel_in T.g_panel_in S (fun ds M post h => by unfold sp_panel_in at h; grind) fun f cdv A outer s H gd hr => ⟨_, (ds_cons (ds_set (i := 1) S.nd (de_if (dt_val (de_isi (T := "str") (dv 0) T.m_isinstance T.m_str (by decide +kernel))) (de_ms PySem.F.slot_str_split PySem.F.type_str_split m_split (dv 0) (da_cons dstr da_nil)) (de_lst (da_cons dstr da_nil))))
      (ds_cons (ds_set (i := 2) S.nd (de_ty c_tuple T.m_tuple (by decide +kernel) (da_cons (de_ms PySem.F.slot_str_split PySem.F.type_str_split m_split (de_slice o_slice (de_ix o_ix (dv 1) dint) (do_some dint) do_none) (da_cons dstr da_nil)) da_nil)))
      (ds_cons (ds_set (i := 3) S.nd (de_ty c_tuple T.m_tuple (by decide +kernel) (da_cons (de_lc (own := [("row", 4)]) rfl S.nd (di_list (de_slice o_slice (dv 1) (do_some dint) do_none)) (blkOk_by (N := ["value", "rows", "switches", "rules", "row"]) (sc := defScope (top 32)) (by decide +kernel)) tgt1 (fun _ _ _ _ _ => pg_name (i := 4) S.nd rfl (Or.inl rfl)) (fun _ _ _ _ _ => dts_nil) (fun _ _ _ _ _ => (de_call (ok_rule_in T) (hr.mono (by decide)) gd (da_cons (dv 4) da_nil)))) da_nil)))
      (ds_cons (ds_if (PW.pt (dw_or (dt_cmp o_notN (de_call (ok_wrong_switch T) (hr.mono (by decide)) gd (da_cons (dv 2) da_nil)) dnon) (dw_or1 (dt_cmp o_notN (de_call (ok_wrong_rule T) (hr.mono (by decide)) gd (da_cons (dv 3) (da_cons (dv 2) da_nil))) dnon))))
      (ds_one (ds_ret dnon))
      ds_nil)
      (ds_one (ds_ret (de_if (dt_cmp (o_eq hr) (de_call (ok_panel_text T) (hr.mono (by decide)) gd (da_cons (dv 2) (da_cons (dv 3) da_nil))) (dv 0)) (de_tup (da_cons (dv 2) (da_cons (dv 3) da_nil))) dnon))))))), ?_⟩
  rintro ds M post ⟨d, rfl, hd, k1, k2⟩
  by_cases hp : ∃ p : Pan, d = .str (panT p.ss p.rs)
  · obtain ⟨p, rfl⟩ := hp
    have h := k1 p rfl
    clear k1 k2 hd
    have lt := (panT_ok (p := p)).2
    (try walk_at "panel_in")
    refine ⟨⟨_, rfl⟩, by decide, by omega, ?_⟩
    rw [split_panT, List.map_cons, atI0, got_so]
    (try walk_at "panel_in")
    refine ⟨⟨_, rfl⟩, by decide, ?_, ?_⟩
    · have := (tOk.join (n := 10) (k := 2) (m := 8) (tOk_dec (by decide +kernel) : tOk 2 (", " : Str)) (fun s hs => tOk.of_name (p.sw.2.2.2 s hs)) p.sw.2.1).2
      rw [head_drop]
      omega
    · rw [head_drop, split_names, show cutL (D.str (headT p.ss) :: List.map D.str (p.rs.map ruleT)) (some 1) none = p.rs.map (fun r => D.str (ruleT r)) by rw [show (some (1 : Int)) = some ((1 : Nat) : Int) from rfl, cutL_drop, List.drop_one, List.tail_cons, List.map_map]; rfl]
      refine lc_map p.rs (fun r => D.str (ruleT r)) (fun r => ruleD (firmR r)) trivial ?_ ?_
      · intro r hr yes hy
        (try walk_at "panel_in")
        exact ⟨_, rfl, Nat.le_trans (ruleT_ok p.sw.2.2.2 (p.ru r hr)).2 (by decide), by rw [words_ruleT p.sw.2.2.2 (p.ru r hr)]; exact hy⟩
      · rw [show (p.rs.map fun r => ruleD (firmR r)) = p.firm.rs.map ruleD by rw [firm_rs, List.map_map]; rfl]
        rw [wrongSw_none p.sw]
        (try walk_at "panel_in")
        rw [show D.ftp (p.firm.rs.map ruleD) = tq .t (p.firm.rs.map ruleD) from rfl, cl_wrong_rule, show p.ss = p.firm.ss from rfl, wrongRu_none p.firm.ru p.firm.len]
        (try walk_at "panel_in")
        have e1 : panT p.firm.ss p.firm.rs = panT p.firm.ss p.rs := firm_panT
        simp only [Option.isNone_none, Bool.not_true, Bool.false_eq_true, if_false, e1, decide_true, if_true]
        exact h
  · have h := k2 fun p e => hp ⟨p, e⟩
    clear k1 k2
    rcases hd with ⟨s, rfl, hs⟩ | ⟨n, hc, hn⟩
    · (try walk_at "panel_in")
      refine ⟨⟨_, rfl⟩, by decide, by omega, ?_⟩
      cases e : Txt.split s "\n" with
      | nil => exact absurd e split_ne
      | cons r0 rows =>
        have pl : ∀ x ∈ r0 :: rows, x.length ≤ s.length := fun x hx => (split_part (x := s) (y := "\n") (by rw [e]; exact hx)).2
        have l0 := pl r0 (by simp)
        have lc := cutS_length r0 (some 9) none
        rw [List.map_cons, atI0, got_so]
        (try walk_at "panel_in")
        refine ⟨⟨_, rfl⟩, by decide, by omega, ?_⟩
        rw [show cutL (D.str r0 :: List.map D.str rows) (some 1) none = rows.map D.str by rw [show (some (1 : Int)) = some ((1 : Nat) : Int) from rfl, cutL_drop, List.drop_one, List.tail_cons]]
        refine lc_map rows D.str (fun r => wordsD (Txt.split r " ")) trivial ?_ ?_
        · intro r hr yes hy
          have := pl r (List.mem_cons_of_mem _ hr)
          (try walk_at "panel_in")
          exact ⟨_, rfl, by omega, hy⟩
        · have sne : Txt.split (cutS r0 (some 9) none) ", " ≠ [] := split_ne
          generalize hss : Txt.split (cutS r0 (some 9) none) ", " = ss at sne ⊢
          (try walk_at "panel_in")
          cases hw : wrongSw ss with
          | some k =>
            (try walk_at "panel_in")
            exact h
          | none =>
            have sw := wrongSw_ok hw sne
            (try walk_at "panel_in")
            refine ⟨.t, _, ss, rfl, fun x hx => ?_, ?_⟩
            · obtain ⟨r, hr, rfl⟩ := List.mem_map.mp hx
              have := pl r (List.mem_cons_of_mem _ hr)
              exact RowOk.words (by omega)
            · cases hr : wrongRw ss 0 (rows.map fun r => wordsD (Txt.split r (Str.ofString " "))) with
              | some k =>
                (try walk_at "panel_in")
                exact h
              | none =>
                obtain ⟨a, b⟩ := wrongRw_none hr (by omega)
                obtain ⟨rs, e2, i⟩ := rows_rules (rows := rows) b
                have e3 : (rows.map fun r => wordsD (Txt.split r (Str.ofString " "))) = rs.map ruleD := e2
                rw [e3] at a ⊢
                (try walk_at "panel_in")
                have ln : rs.length ≤ 240 := by simpa using a
                refine ⟨.t, ⟨ss, rs, sw, i, ln⟩, rfl, ?_⟩
                (try walk_at "panel_in")
                have ne : ¬ panT ss rs = s := fun z => hp ⟨⟨ss, rs, sw, i, ln⟩, by rw [← z]⟩
                simp only [ne, decide_false]
                (try walk_at "panel_in")
                exact h
    · obtain ⟨ty, e1, e2⟩ := calm_isstr hc M
      have e3 : strOf d = none := by cases d <;> first | rfl | exact absurd rfl (hn _)
      rw [e3] at e2
      (try walk_at "panel_in")
      rw [e1]
      (try walk_at "panel_in")
      rw [show isiT "str" ty = false from e2]
      have q0 : cutS (Str.ofString "") (some 9) none = Str.ofString "" := by decide +kernel
      have q1 : Txt.split (Str.ofString "") (Str.ofString ", ") = [Str.ofString ""] := by decide +kernel
      have q2 : wrongSw [Str.ofString ""] = some 0 := by decide +kernel
      (try walk_at "panel_in")
      rw [q0, q1]
      refine ⟨⟨_, rfl⟩, by decide +kernel, by decide +kernel, ?_⟩
      rw [show cutL [D.str (Str.ofString "")] (some 1) none = ([] : List Str).map D.str from rfl]
      refine lc_map ([] : List Str) D.str D.str trivial (fun x hx => by cases hx) ?_
      (try walk_at "panel_in")
      rw [q2]
      (try walk_at "panel_in")
      exact h
theorem ok_panel_in (T : Tx P w K mg base) : Pub P w K mg base 4 "panel_in" ["value"] sp_panel_in := (fn_panel_in T).pub fun _ _ _ _ _ _ us hl => match us, hl with | [_], _ => rfl

theorem sc_check_switches : FnScope ["switches", "wrong"] ["switches"] (defScope (top 33)) := ⟨rfl, rfl, rfl, by decide +kernel, rfl, by decide +kernel, by decide +kernel⟩
def sp_check_switches : DSp := fun ds M post => ∃ ss : List Str, ds = [strsF ss] ∧ ss ≠ [] ∧ wrongSw ss = none ∧ post .non M
theorem cl_check_switches {ss : List Str} {M : Mem} {post : WK} : sp_check_switches [strsF ss] M post = (ss ≠ [] ∧ wrongSw ss = none ∧ post .non M) := by
  simp [-Bool.exists_bool, sp_check_switches, tp_inj, tq_inj, litD_inj, strs_inj, ruleD_inj, clD_inj, setD_inj, rules_inj, lits_inj, sets_inj, ints_inj, panF_inj, rngs_inj, rngE_inj, sg_inj, and_assoc, Int.natCast_inj]
local macro_rules | `(tactic| walk_at "check_switches") => `(tactic| simp only [↓cl_wrong_switch, cl_wrong_switch, ↓FD.wCM_e, ↓FD.wCMK_e, ↓FD.wMakeV_e, ↓FD.wMethKC_e, ↓FD.wSetSort_e, ↓FD.gSplit_e, ↓FD.gSplitN_e, ↓FD.wSetLenT_e, ↓FD.wRevT_e, ↓FD.wSetLen_e, ↓FD.wRev_e, ↓FD.gDictS_e, ↓FD.gMinS_e, ↓FD.gIndexB_e, ↓FD.gListN_e, ↓FD.gAddC_e, ↓FD.wDispN_e, ↓FD.wMethD_e, ↓FD.gPop0_e, ↓FD.sFin_e, ↓FD.gFldD_e, ↓FD.sCt_e, ↓FD.sFrz_e, ↓FD.gLeS_e, ↓FD.gStrO_e, ↓FD.gBoolO_e, ↓FD.wM0_e, ↓FD.gUpper_e, ↓FD.gUnL_e, ↓FD.sSeq_e, ↓FD.sRet_e, ↓FD.sIf_e, ↓FD.sAsg_e, ↓FD.gSet_e, ↓FD.sDrop_e, ↓FD.sNext_e, ↓FD.sPar_e, ↓FD.sPar3_e, ↓FD.wIf_e, ↓FD.wOp_e, ↓FD.wUn_e, ↓FD.wVar_e, ↓FD.wC_e, ↓FD.wTst_e, ↓FD.wAnd_e, ↓FD.wOr_e, ↓FD.wNot_e, ↓FD.wAndV_e, ↓FD.wOrV_e, ↓FD.wNotV_e, ↓FD.wChain_e, ↓FD.aNil_e, ↓FD.aCons_e, ↓FD.wTup_e, ↓FD.wLst_e, ↓FD.wFtp_e, ↓FD.wNew_e, ↓FD.wCall_e, ↓FD.wB_e, ↓FD.wSl_e, ↓FD.oSome_e, ↓FD.oNone_e, ↓FD.wIsi_e, ↓FD.wIsiC_e, ↓FD.p1_e, ↓FD.p2_e, ↓FD.gLen_e, ↓FD.iLst_e, ↓FD.iTup_e, ↓FD.iStrD_e, ↓FD.iEnT_e, ↓FD.iEnL_e, ↓FD.iRng_e, ↓FD.iRng2_e, ↓FD.gTup_e, ↓FD.gsNil_e, ↓FD.gsCons_e, ↓FD.wM_e, ↓FD.wIxT_e, ↓FD.wFld_e, ↓FD.wMeth_e, ↓FD.wMake_e, ↓FD.sFldD_e, ↓FD.wDGet_e, ↓FD.sDput_e, ↓FD.wDNewK_e, ↓FD.wDNewT_e, ↓FD.wDisp1_e, ↓FD.wIce_e, ↓FD.gSub_e, ↓FD.wCallK_e, ↓FD.t1_e, ↓FD.t2_e, ↓FD.t1w_e, ↓FD.tYesD_e, ↓FD.gDIn_e, ↓FD.gDNin_e, ↓FD.gIndexT_e, ↓FD.gIndex_e, ↓FD.gInt_e, ↓FD.gAbs_e, ↓FD.gMax_e, ↓FD.gMin_e, ↓FD.gDivmod_e, ↓FD.wFz_e, ↓FD.wDGetD_e, ↓FD.t3_e, ↓FD.iZip3D_e, ↓FD.sForIT_e, ↓FD.wIsiO_e, ↓FD.wFmt_e, ↓FD.wTruO_e, ↓FD.gLenO_e, ↓FD.wMakeK_e, ↓FD.gOwn_e, ↓FD.t12_e, ↓FD.iZipMD_e, ↓FD.sForKT_e, ↓FD.wDSetd_e, ↓FD.wVals_e, ↓FD.iRng3_e, ↓FD.iEnS_e, ↓FD.gZ2_eq, ↓zip2_cl, ↓FD.addF_ftp, ↓FD.wPs_nil, ↓FD.wPs_cons, ↓FM.keyed_nil, ↓FM.keyed_str, ↓FM.sortP_lst, ↓FM.sortP_ftp, ↓lk_de_switches, ↓lk_de_rules, ↓lk_de_promises, ↓lk_de_past, ↓lk_de_undo, ↓lk_de_put, ↓lk_de_turn, ↓lk_de_become, ↓lk_de_take, ↓lk_de_promise, ↓lk_de_lift, ↓lk_de_trial, ↓lk_de_as_panel, ↓put_de_past, ↓put_de_promises, ↓lk_sg_setting, ↓lk_sg_log, ↓lk_sg_past, ↓lk_sg_other, ↓insR_stage, ↓lk_bo_panel, ↓lk_bo_setting, ↓lk_bo_log, ↓lk_bo_busy, ↓lk_bo_past, ↓lk_bo_do, ↓lk_bo_do_all, ↓lk_bo_undo, ↓lk_bo_take, ↓lk_bo_trial, ↓lk_bo_is_deed, ↓lk_bo_check_idle, ↓put_bo_setting, ↓put_bo_log, ↓put_bo_busy, ↓put_bo_past, ↓isiO_pan, ↓insT_pan, ↓FD.js_nil, ↓FD.js_cons, ↓FD.wLc2N_eq, ↓FD.addN_lst, ↓sFor_eq, ↓wLc_eq, ↓wLc2_eq, ↓wDc_eq, ↓look_zero, ↓look_succ, ↓got_so, ↓isB_bl, ↓isI_int, ↓isS_str, ↓isT_tup, ↓isT_ftp, ↓isT_ktp, ↓isT_tp, ↓isT_tq, ↓one_one, ↓two_two, ↓startD_cc, ↓startD_cn, ↓startD_nn, ↓FD.ix_str, ↓FD.ix_tup, ↓ix_ftp, ↓ix_ktp, ↓ix_lst, ↓ix_scr, ↓ix_tp, ↓ix_tq, ↓atI0, ↓atI1, ↓atI2, ↓atI3, ↓FD.eq_str, ↓FD.ne_str, ↓FD.eq_int, ↓FD.ne_int, ↓FD.add_int, ↓FD.sub_int, ↓FD.lt_int, ↓FD.le_int, ↓FD.gt_int, ↓FD.ge_int, ↓FD.add_str, ↓FD.add_lst, ↓FD.add_tup, ↓FD.mul_int, ↓FD.mod_int, ↓FD.fdiv_int, ↓FD.pow_int, ↓isN_non, ↓notN_non, ↓FD.len_str, ↓len_tup, ↓len_ftp, ↓len_ktp, ↓len_lst, ↓len_scr, ↓len_tp, ↓len_tq, ↓seq_tup, ↓seq_ftp, ↓seq_ktp, ↓seq_lst, ↓seq_scr, ↓seq_tp, ↓seq_tq, ↓in_tup, ↓in_ftp, ↓in_ktp, ↓in_lst, ↓nin_tup, ↓nin_ftp, ↓nin_ktp, ↓nin_lst, ↓FD.in_str, ↓nin_str, ↓isC_one, ↓asL_lst, ↓asL_scr, ↓if_tt, ↓if_ff, ↓isi_ss, ↓isi_tt, ↓isi_st, ↓isi_ts, ↓ty_str, ↓ty_tup, ↓ty_ftp, ↓ty_ktp, ↓ty_tp, ↓ty_tq, ↓all_lst, ↓any_lst, ↓flat_s, ↓flat_set, ↓tuple_lst, ↓FD.int_int, ↓eq_ftp_nil, ↓ne_ftp_nil, ↓isNon_non, ↓isNon_int, ↓isNon_str, ↓isNon_ptr, ↓isNon_tup, ↓isNon_ftp, ↓inL_strs, ↓flatSs, ↓inL_sets, ↓flatSets, ↓FM.tw, ↓FM.tw3, ↓FM.sl_str, ↓sl_set, ↓cell_upd, ↓lk_sw, ↓lk_ru, ↓lk_st, ↓lk_place, ↓lk_has, ↓lk_keeps, ↓lk_wrongs, ↓lk_goods, ↓lk_ways_from, ↓lk_text, ↓ins_pan, ↓FD.fit_le, ↓cx_K, ↓nox_K, ↓blk_K, ↓bx_K, ↓c1, ↓c2, ↓c3, ↓c4, ↓inL_cons, ↓inL_nil, ↓all_bools, ↓any_bools, ↓in_tp, ↓in_tq, ↓nin_tp, ↓nin_tq, ↓FM.sl_ftp, ↓FM.sl_tup, ↓FM.sl_lst, ↓FM.sl_scr, ↓index_eq, ↓ex_ftp, ↓eqd_str, ↓wf_at, ↓isT_cl, ↓isT_st, ↓isT_lit, ↓ix_lit0, ↓ix_lit1, ↓len_lit, ↓ty_lit, ↓eq_lit, ↓ne_lit, ↓eq_set, ↓ne_set, ↓len_set, ↓ty_set, ↓isS_set, ↓isC_sg, ↓sNever_e, ↓enumD_map, ↓dpAll_strs, ↓dpAll_mapI, ↓ne_lst_nil, ↓eq_lst_nil, ↓isT_grp, ↓len_grp, ↓isDc_wf, ↓wn_at, ↓isT_way, ↓len_way, ↓ty_way, ↓ty_st, ↓len_st, ↓ix_st0, ↓ix_st1, ↓inD_lits, ↓ninD_lits, ↓dpAll_sets, ↓three_three, ↓zip3_sets, ↓isT_z3, ↓inL_lock, ↓ninT_lits, ↓FM.tp_t, ↓FM.tp_f, ↓FM.tq_t, ↓FM.tq_f, ↓isT_pr, ↓tupleP_lst, ↓isT_it, ↓isNon_set, Bool.not_true, Bool.not_false, Bool.false_eq_true, if_false, if_true, true_and, and_true, List.set_cons_zero, List.set_cons_succ, List.length_cons, List.length_nil, List.length_map, eq_self, decide_true, decide_false, Bool.true_eq_false, or_self, Bool.or_self, List.all_cons, List.all_nil, Bool.and_true, Bool.true_and, Bool.or_false, Bool.false_or, Bool.or_true, Bool.true_or, Bool.and_false, Bool.false_and, Int.reduceLT, Int.reduceLE, Int.reduceEq, Nat.reduceLeDiff, Nat.reduceAdd, Nat.reduceLT, wf_some, wn_some, fold_lit, fold_litp, fold_litm, sg_iff, sg_in_pm, isNon_opt, isEmpty_map, ↓reduceIte, nq_0_1, nq_0_2, nq_0_3, nq_0_4, nq_0_5, nq_0_6, nq_0_7, nq_1_0, nq_1_2, nq_1_3, nq_1_4, nq_1_5, nq_1_6, nq_1_7, nq_2_0, nq_2_1, nq_2_3, nq_2_4, nq_2_5, nq_2_6, nq_2_7, nq_3_0, nq_3_1, nq_3_2, nq_3_4, nq_3_5, nq_3_6, nq_3_7, nq_4_0, nq_4_1, nq_4_2, nq_4_3, nq_4_5, nq_4_6, nq_4_7, nq_5_0, nq_5_1, nq_5_2, nq_5_3, nq_5_4, nq_5_6, nq_5_7, nq_6_0, nq_6_1, nq_6_2, nq_6_3, nq_6_4, nq_6_5, nq_6_7, nq_7_0, nq_7_1, nq_7_2, nq_7_3, nq_7_4, nq_7_5, nq_7_6])
theorem fn_check_switches (T : Tx P w K mg base) : Fng P w K mg base 3 "check_switches" (top 33) ["switches"] sp_check_switches := by
  have S := sc_check_switches
  refine fng_of T.d_check_switches T.g_check_switches S (fun ds M post h => by unfold sp_check_switches at h; grind) fun f cdv A outer s H gd hr => ⟨_, (ds_cons (ds_if (PW.pt (dw_or (dt_not (dt_val (de_isi (T := "tuple") (dv 0) T.m_isinstance T.m_tuple (by decide +kernel)))) (dw_or1 (dt_cmp (o_eq hr) (dv 0) (de_tup da_nil)))))
      (ds_one ds_never)
      ds_nil)
      (ds_cons (ds_set (i := 1) S.nd (de_call (ok_wrong_switch T) (hr.mono (by decide)) gd (da_cons (dv 0) da_nil)))
      (ds_one (ds_if (dt_cmp o_notN (dv 1) dnon)
      (ds_one ds_never)
      ds_nil)))), ?_⟩
  rintro ds M post ⟨ss, rfl, h1, h2, h⟩
  have e : ss.isEmpty = false := by cases ss with | nil => exact absurd rfl h1 | cons a b => rfl
  (try walk_at "check_switches")
  simp only [e, h2]
  (try walk_at "check_switches")
  exact h
theorem ok_check_switches (T : Tx P w K mg base) : Pub P w K mg base 3 "check_switches" ["switches"] sp_check_switches := (fn_check_switches T).pub fun _ _ _ _ _ _ us hl => match us, hl with | [_], _ => rfl

theorem sc_other_sign : FnScope ["sign"] ["sign"] (defScope (top 15)) := ⟨rfl, rfl, rfl, by decide +kernel, rfl, by decide +kernel, by decide +kernel⟩
def sp_other_sign : DSp := fun ds M post => ∃ b, ds = [.str (sg b)] ∧ post (.str (sg !b)) M
theorem cl_other_sign {b : Bool} {M : Mem} {post : WK} : sp_other_sign [.str (sg b)] M post = post (.str (sg !b)) M := by
  simp [-Bool.exists_bool, sp_other_sign, tp_inj, tq_inj, litD_inj, strs_inj, ruleD_inj, clD_inj, setD_inj, rules_inj, lits_inj, sets_inj, ints_inj, panF_inj, rngs_inj, rngE_inj, sg_inj, and_assoc, Int.natCast_inj]
theorem fn_other_sign (T : Tx P w K mg base) : Fng P w K mg base 1 "other_sign" (top 15) ["sign"] sp_other_sign := by
  have S := sc_other_sign
  refine fng_of T.d_other_sign T.g_other_sign S (fun ds M post h => by unfold sp_other_sign at h; grind) fun f cdv A outer s H gd hr => ⟨_, (ds_one (ds_ret (de_if (dt_cmp (o_eq hr) (dv 0) dstr) dstr dstr))), ?_⟩
  rintro ds M post ⟨b, rfl, h⟩
  cases b <;> (simp only [sg, Bool.not_true, Bool.not_false, if_true, if_false, Bool.false_eq_true] at h ⊢; (try walk_at "w"); exact h)
theorem ok_other_sign (T : Tx P w K mg base) : Pub P w K mg base 1 "other_sign" ["sign"] sp_other_sign := (fn_other_sign T).pub fun _ _ _ _ _ _ us hl => match us, hl with | [_], _ => rfl

theorem sc_opposite : FnScope ["literal"] ["literal"] (defScope (top 16)) := ⟨rfl, rfl, rfl, by decide +kernel, rfl, by decide +kernel, by decide +kernel⟩
def sp_opposite : DSp := fun ds M post => ∃ a, ds = [litD a] ∧ post (litD a.op) M
theorem cl_opposite {a : Lit} {M : Mem} {post : WK} : sp_opposite [litD a] M post = post (litD a.op) M := by
  simp [-Bool.exists_bool, sp_opposite, tp_inj, tq_inj, litD_inj, strs_inj, ruleD_inj, clD_inj, setD_inj, rules_inj, lits_inj, sets_inj, ints_inj, panF_inj, rngs_inj, rngE_inj, sg_inj, and_assoc, Int.natCast_inj]
local macro_rules | `(tactic| walk_at "opposite") => `(tactic| simp only [↓cl_other_sign, cl_other_sign, ↓FD.wCM_e, ↓FD.wCMK_e, ↓FD.wMakeV_e, ↓FD.wMethKC_e, ↓FD.wSetSort_e, ↓FD.gSplit_e, ↓FD.gSplitN_e, ↓FD.wSetLenT_e, ↓FD.wRevT_e, ↓FD.wSetLen_e, ↓FD.wRev_e, ↓FD.gDictS_e, ↓FD.gMinS_e, ↓FD.gIndexB_e, ↓FD.gListN_e, ↓FD.gAddC_e, ↓FD.wDispN_e, ↓FD.wMethD_e, ↓FD.gPop0_e, ↓FD.sFin_e, ↓FD.gFldD_e, ↓FD.sCt_e, ↓FD.sFrz_e, ↓FD.gLeS_e, ↓FD.gStrO_e, ↓FD.gBoolO_e, ↓FD.wM0_e, ↓FD.gUpper_e, ↓FD.gUnL_e, ↓FD.sSeq_e, ↓FD.sRet_e, ↓FD.sIf_e, ↓FD.sAsg_e, ↓FD.gSet_e, ↓FD.sDrop_e, ↓FD.sNext_e, ↓FD.sPar_e, ↓FD.sPar3_e, ↓FD.wIf_e, ↓FD.wOp_e, ↓FD.wUn_e, ↓FD.wVar_e, ↓FD.wC_e, ↓FD.wTst_e, ↓FD.wAnd_e, ↓FD.wOr_e, ↓FD.wNot_e, ↓FD.wAndV_e, ↓FD.wOrV_e, ↓FD.wNotV_e, ↓FD.wChain_e, ↓FD.aNil_e, ↓FD.aCons_e, ↓FD.wTup_e, ↓FD.wLst_e, ↓FD.wFtp_e, ↓FD.wNew_e, ↓FD.wCall_e, ↓FD.wB_e, ↓FD.wSl_e, ↓FD.oSome_e, ↓FD.oNone_e, ↓FD.wIsi_e, ↓FD.wIsiC_e, ↓FD.p1_e, ↓FD.p2_e, ↓FD.gLen_e, ↓FD.iLst_e, ↓FD.iTup_e, ↓FD.iStrD_e, ↓FD.iEnT_e, ↓FD.iEnL_e, ↓FD.iRng_e, ↓FD.iRng2_e, ↓FD.gTup_e, ↓FD.gsNil_e, ↓FD.gsCons_e, ↓FD.wM_e, ↓FD.wIxT_e, ↓FD.wFld_e, ↓FD.wMeth_e, ↓FD.wMake_e, ↓FD.sFldD_e, ↓FD.wDGet_e, ↓FD.sDput_e, ↓FD.wDNewK_e, ↓FD.wDNewT_e, ↓FD.wDisp1_e, ↓FD.wIce_e, ↓FD.gSub_e, ↓FD.wCallK_e, ↓FD.t1_e, ↓FD.t2_e, ↓FD.t1w_e, ↓FD.tYesD_e, ↓FD.gDIn_e, ↓FD.gDNin_e, ↓FD.gIndexT_e, ↓FD.gIndex_e, ↓FD.gInt_e, ↓FD.gAbs_e, ↓FD.gMax_e, ↓FD.gMin_e, ↓FD.gDivmod_e, ↓FD.wFz_e, ↓FD.wDGetD_e, ↓FD.t3_e, ↓FD.iZip3D_e, ↓FD.sForIT_e, ↓FD.wIsiO_e, ↓FD.wFmt_e, ↓FD.wTruO_e, ↓FD.gLenO_e, ↓FD.wMakeK_e, ↓FD.gOwn_e, ↓FD.t12_e, ↓FD.iZipMD_e, ↓FD.sForKT_e, ↓FD.wDSetd_e, ↓FD.wVals_e, ↓FD.iRng3_e, ↓FD.iEnS_e, ↓FD.gZ2_eq, ↓zip2_cl, ↓FD.addF_ftp, ↓FD.wPs_nil, ↓FD.wPs_cons, ↓FM.keyed_nil, ↓FM.keyed_str, ↓FM.sortP_lst, ↓FM.sortP_ftp, ↓lk_de_switches, ↓lk_de_rules, ↓lk_de_promises, ↓lk_de_past, ↓lk_de_undo, ↓lk_de_put, ↓lk_de_turn, ↓lk_de_become, ↓lk_de_take, ↓lk_de_promise, ↓lk_de_lift, ↓lk_de_trial, ↓lk_de_as_panel, ↓put_de_past, ↓put_de_promises, ↓lk_sg_setting, ↓lk_sg_log, ↓lk_sg_past, ↓lk_sg_other, ↓insR_stage, ↓lk_bo_panel, ↓lk_bo_setting, ↓lk_bo_log, ↓lk_bo_busy, ↓lk_bo_past, ↓lk_bo_do, ↓lk_bo_do_all, ↓lk_bo_undo, ↓lk_bo_take, ↓lk_bo_trial, ↓lk_bo_is_deed, ↓lk_bo_check_idle, ↓put_bo_setting, ↓put_bo_log, ↓put_bo_busy, ↓put_bo_past, ↓isiO_pan, ↓insT_pan, ↓FD.js_nil, ↓FD.js_cons, ↓FD.wLc2N_eq, ↓FD.addN_lst, ↓sFor_eq, ↓wLc_eq, ↓wLc2_eq, ↓wDc_eq, ↓look_zero, ↓look_succ, ↓got_so, ↓isB_bl, ↓isI_int, ↓isS_str, ↓isT_tup, ↓isT_ftp, ↓isT_ktp, ↓isT_tp, ↓isT_tq, ↓one_one, ↓two_two, ↓startD_cc, ↓startD_cn, ↓startD_nn, ↓FD.ix_str, ↓FD.ix_tup, ↓ix_ftp, ↓ix_ktp, ↓ix_lst, ↓ix_scr, ↓ix_tp, ↓ix_tq, ↓atI0, ↓atI1, ↓atI2, ↓atI3, ↓FD.eq_str, ↓FD.ne_str, ↓FD.eq_int, ↓FD.ne_int, ↓FD.add_int, ↓FD.sub_int, ↓FD.lt_int, ↓FD.le_int, ↓FD.gt_int, ↓FD.ge_int, ↓FD.add_str, ↓FD.add_lst, ↓FD.add_tup, ↓FD.mul_int, ↓FD.mod_int, ↓FD.fdiv_int, ↓FD.pow_int, ↓isN_non, ↓notN_non, ↓FD.len_str, ↓len_tup, ↓len_ftp, ↓len_ktp, ↓len_lst, ↓len_scr, ↓len_tp, ↓len_tq, ↓seq_tup, ↓seq_ftp, ↓seq_ktp, ↓seq_lst, ↓seq_scr, ↓seq_tp, ↓seq_tq, ↓in_tup, ↓in_ftp, ↓in_ktp, ↓in_lst, ↓nin_tup, ↓nin_ftp, ↓nin_ktp, ↓nin_lst, ↓FD.in_str, ↓nin_str, ↓isC_one, ↓asL_lst, ↓asL_scr, ↓if_tt, ↓if_ff, ↓isi_ss, ↓isi_tt, ↓isi_st, ↓isi_ts, ↓ty_str, ↓ty_tup, ↓ty_ftp, ↓ty_ktp, ↓ty_tp, ↓ty_tq, ↓all_lst, ↓any_lst, ↓flat_s, ↓flat_set, ↓tuple_lst, ↓FD.int_int, ↓eq_ftp_nil, ↓ne_ftp_nil, ↓isNon_non, ↓isNon_int, ↓isNon_str, ↓isNon_ptr, ↓isNon_tup, ↓isNon_ftp, ↓inL_strs, ↓flatSs, ↓inL_sets, ↓flatSets, ↓FM.tw, ↓FM.tw3, ↓FM.sl_str, ↓sl_set, ↓cell_upd, ↓lk_sw, ↓lk_ru, ↓lk_st, ↓lk_place, ↓lk_has, ↓lk_keeps, ↓lk_wrongs, ↓lk_goods, ↓lk_ways_from, ↓lk_text, ↓ins_pan, ↓FD.fit_le, ↓cx_K, ↓nox_K, ↓blk_K, ↓bx_K, ↓c1, ↓c2, ↓c3, ↓c4, ↓inL_cons, ↓inL_nil, ↓all_bools, ↓any_bools, ↓in_tp, ↓in_tq, ↓nin_tp, ↓nin_tq, ↓FM.sl_ftp, ↓FM.sl_tup, ↓FM.sl_lst, ↓FM.sl_scr, ↓index_eq, ↓ex_ftp, ↓eqd_str, ↓wf_at, ↓isT_cl, ↓isT_st, ↓isT_lit, ↓ix_lit0, ↓ix_lit1, ↓len_lit, ↓ty_lit, ↓eq_lit, ↓ne_lit, ↓eq_set, ↓ne_set, ↓len_set, ↓ty_set, ↓isS_set, ↓isC_sg, ↓sNever_e, ↓enumD_map, ↓dpAll_strs, ↓dpAll_mapI, ↓ne_lst_nil, ↓eq_lst_nil, ↓isT_grp, ↓len_grp, ↓isDc_wf, ↓wn_at, ↓isT_way, ↓len_way, ↓ty_way, ↓ty_st, ↓len_st, ↓ix_st0, ↓ix_st1, ↓inD_lits, ↓ninD_lits, ↓dpAll_sets, ↓three_three, ↓zip3_sets, ↓isT_z3, ↓inL_lock, ↓ninT_lits, ↓FM.tp_t, ↓FM.tp_f, ↓FM.tq_t, ↓FM.tq_f, ↓isT_pr, ↓tupleP_lst, ↓isT_it, ↓isNon_set, Bool.not_true, Bool.not_false, Bool.false_eq_true, if_false, if_true, true_and, and_true, List.set_cons_zero, List.set_cons_succ, List.length_cons, List.length_nil, List.length_map, eq_self, decide_true, decide_false, Bool.true_eq_false, or_self, Bool.or_self, List.all_cons, List.all_nil, Bool.and_true, Bool.true_and, Bool.or_false, Bool.false_or, Bool.or_true, Bool.true_or, Bool.and_false, Bool.false_and, Int.reduceLT, Int.reduceLE, Int.reduceEq, Nat.reduceLeDiff, Nat.reduceAdd, Nat.reduceLT, wf_some, wn_some, fold_lit, fold_litp, fold_litm, sg_iff, sg_in_pm, isNon_opt, isEmpty_map, ↓reduceIte, nq_0_1, nq_0_2, nq_0_3, nq_0_4, nq_0_5, nq_0_6, nq_0_7, nq_1_0, nq_1_2, nq_1_3, nq_1_4, nq_1_5, nq_1_6, nq_1_7, nq_2_0, nq_2_1, nq_2_3, nq_2_4, nq_2_5, nq_2_6, nq_2_7, nq_3_0, nq_3_1, nq_3_2, nq_3_4, nq_3_5, nq_3_6, nq_3_7, nq_4_0, nq_4_1, nq_4_2, nq_4_3, nq_4_5, nq_4_6, nq_4_7, nq_5_0, nq_5_1, nq_5_2, nq_5_3, nq_5_4, nq_5_6, nq_5_7, nq_6_0, nq_6_1, nq_6_2, nq_6_3, nq_6_4, nq_6_5, nq_6_7, nq_7_0, nq_7_1, nq_7_2, nq_7_3, nq_7_4, nq_7_5, nq_7_6])
theorem fn_opposite (T : Tx P w K mg base) : Fng P w K mg base 2 "opposite" (top 16) ["literal"] sp_opposite := by
  have S := sc_opposite
  refine fng_of T.d_opposite T.g_opposite S (fun ds M post h => by unfold sp_opposite at h; grind) fun f cdv A outer s H gd hr => ⟨_, (ds_one (ds_ret (de_tup (da_cons (de_ix o_ix (dv 0) dint) (da_cons (de_call (ok_other_sign T) (hr.mono (by decide)) gd (da_cons (de_ix o_ix (dv 0) dint) da_nil)) da_nil))))), ?_⟩
  rintro ds M post ⟨a, rfl, h⟩
  unfold litD
  (try walk_at "opposite")
  exact h
theorem ok_opposite (T : Tx P w K mg base) : Pub P w K mg base 2 "opposite" ["literal"] sp_opposite := (fn_opposite T).pub fun _ _ _ _ _ _ us hl => match us, hl with | [_], _ => rfl

theorem sc_clauses_of : FnScope ["rule", "word", "x", "y"] ["rule"] (defScope (top 24)) := ⟨rfl, rfl, rfl, by decide +kernel, rfl, by decide +kernel, by decide +kernel⟩
def sp_clauses_of : DSp := fun ds M post => ∃ r, ds = [ruleD r] ∧ post (.lst ((clauses r).map clD)) M
theorem cl_clauses_of {r : Rule} {M : Mem} {post : WK} : sp_clauses_of [ruleD r] M post = post (.lst ((clauses r).map clD)) M := by
  simp [-Bool.exists_bool, sp_clauses_of, tp_inj, tq_inj, litD_inj, strs_inj, ruleD_inj, clD_inj, setD_inj, rules_inj, lits_inj, sets_inj, ints_inj, panF_inj, rngs_inj, rngE_inj, sg_inj, and_assoc, Int.natCast_inj]
local macro_rules | `(tactic| walk_at "clauses_of") => `(tactic| simp only [↓cl_opposite, cl_opposite, ↓FD.wCM_e, ↓FD.wCMK_e, ↓FD.wMakeV_e, ↓FD.wMethKC_e, ↓FD.wSetSort_e, ↓FD.gSplit_e, ↓FD.gSplitN_e, ↓FD.wSetLenT_e, ↓FD.wRevT_e, ↓FD.wSetLen_e, ↓FD.wRev_e, ↓FD.gDictS_e, ↓FD.gMinS_e, ↓FD.gIndexB_e, ↓FD.gListN_e, ↓FD.gAddC_e, ↓FD.wDispN_e, ↓FD.wMethD_e, ↓FD.gPop0_e, ↓FD.sFin_e, ↓FD.gFldD_e, ↓FD.sCt_e, ↓FD.sFrz_e, ↓FD.gLeS_e, ↓FD.gStrO_e, ↓FD.gBoolO_e, ↓FD.wM0_e, ↓FD.gUpper_e, ↓FD.gUnL_e, ↓FD.sSeq_e, ↓FD.sRet_e, ↓FD.sIf_e, ↓FD.sAsg_e, ↓FD.gSet_e, ↓FD.sDrop_e, ↓FD.sNext_e, ↓FD.sPar_e, ↓FD.sPar3_e, ↓FD.wIf_e, ↓FD.wOp_e, ↓FD.wUn_e, ↓FD.wVar_e, ↓FD.wC_e, ↓FD.wTst_e, ↓FD.wAnd_e, ↓FD.wOr_e, ↓FD.wNot_e, ↓FD.wAndV_e, ↓FD.wOrV_e, ↓FD.wNotV_e, ↓FD.wChain_e, ↓FD.aNil_e, ↓FD.aCons_e, ↓FD.wTup_e, ↓FD.wLst_e, ↓FD.wFtp_e, ↓FD.wNew_e, ↓FD.wCall_e, ↓FD.wB_e, ↓FD.wSl_e, ↓FD.oSome_e, ↓FD.oNone_e, ↓FD.wIsi_e, ↓FD.wIsiC_e, ↓FD.p1_e, ↓FD.p2_e, ↓FD.gLen_e, ↓FD.iLst_e, ↓FD.iTup_e, ↓FD.iStrD_e, ↓FD.iEnT_e, ↓FD.iEnL_e, ↓FD.iRng_e, ↓FD.iRng2_e, ↓FD.gTup_e, ↓FD.gsNil_e, ↓FD.gsCons_e, ↓FD.wM_e, ↓FD.wIxT_e, ↓FD.wFld_e, ↓FD.wMeth_e, ↓FD.wMake_e, ↓FD.sFldD_e, ↓FD.wDGet_e, ↓FD.sDput_e, ↓FD.wDNewK_e, ↓FD.wDNewT_e, ↓FD.wDisp1_e, ↓FD.wIce_e, ↓FD.gSub_e, ↓FD.wCallK_e, ↓FD.t1_e, ↓FD.t2_e, ↓FD.t1w_e, ↓FD.tYesD_e, ↓FD.gDIn_e, ↓FD.gDNin_e, ↓FD.gIndexT_e, ↓FD.gIndex_e, ↓FD.gInt_e, ↓FD.gAbs_e, ↓FD.gMax_e, ↓FD.gMin_e, ↓FD.gDivmod_e, ↓FD.wFz_e, ↓FD.wDGetD_e, ↓FD.t3_e, ↓FD.iZip3D_e, ↓FD.sForIT_e, ↓FD.wIsiO_e, ↓FD.wFmt_e, ↓FD.wTruO_e, ↓FD.gLenO_e, ↓FD.wMakeK_e, ↓FD.gOwn_e, ↓FD.t12_e, ↓FD.iZipMD_e, ↓FD.sForKT_e, ↓FD.wDSetd_e, ↓FD.wVals_e, ↓FD.iRng3_e, ↓FD.iEnS_e, ↓FD.gZ2_eq, ↓zip2_cl, ↓FD.addF_ftp, ↓FD.wPs_nil, ↓FD.wPs_cons, ↓FM.keyed_nil, ↓FM.keyed_str, ↓FM.sortP_lst, ↓FM.sortP_ftp, ↓lk_de_switches, ↓lk_de_rules, ↓lk_de_promises, ↓lk_de_past, ↓lk_de_undo, ↓lk_de_put, ↓lk_de_turn, ↓lk_de_become, ↓lk_de_take, ↓lk_de_promise, ↓lk_de_lift, ↓lk_de_trial, ↓lk_de_as_panel, ↓put_de_past, ↓put_de_promises, ↓lk_sg_setting, ↓lk_sg_log, ↓lk_sg_past, ↓lk_sg_other, ↓insR_stage, ↓lk_bo_panel, ↓lk_bo_setting, ↓lk_bo_log, ↓lk_bo_busy, ↓lk_bo_past, ↓lk_bo_do, ↓lk_bo_do_all, ↓lk_bo_undo, ↓lk_bo_take, ↓lk_bo_trial, ↓lk_bo_is_deed, ↓lk_bo_check_idle, ↓put_bo_setting, ↓put_bo_log, ↓put_bo_busy, ↓put_bo_past, ↓isiO_pan, ↓insT_pan, ↓FD.js_nil, ↓FD.js_cons, ↓FD.wLc2N_eq, ↓FD.addN_lst, ↓sFor_eq, ↓wLc_eq, ↓wLc2_eq, ↓wDc_eq, ↓look_zero, ↓look_succ, ↓got_so, ↓isB_bl, ↓isI_int, ↓isS_str, ↓isT_tup, ↓isT_ftp, ↓isT_ktp, ↓isT_tp, ↓isT_tq, ↓one_one, ↓two_two, ↓startD_cc, ↓startD_cn, ↓startD_nn, ↓FD.ix_str, ↓FD.ix_tup, ↓ix_ftp, ↓ix_ktp, ↓ix_lst, ↓ix_scr, ↓ix_tp, ↓ix_tq, ↓atI0, ↓atI1, ↓atI2, ↓atI3, ↓FD.eq_str, ↓FD.ne_str, ↓FD.eq_int, ↓FD.ne_int, ↓FD.add_int, ↓FD.sub_int, ↓FD.lt_int, ↓FD.le_int, ↓FD.gt_int, ↓FD.ge_int, ↓FD.add_str, ↓FD.add_lst, ↓FD.add_tup, ↓FD.mul_int, ↓FD.mod_int, ↓FD.fdiv_int, ↓FD.pow_int, ↓isN_non, ↓notN_non, ↓FD.len_str, ↓len_tup, ↓len_ftp, ↓len_ktp, ↓len_lst, ↓len_scr, ↓len_tp, ↓len_tq, ↓seq_tup, ↓seq_ftp, ↓seq_ktp, ↓seq_lst, ↓seq_scr, ↓seq_tp, ↓seq_tq, ↓in_tup, ↓in_ftp, ↓in_ktp, ↓in_lst, ↓nin_tup, ↓nin_ftp, ↓nin_ktp, ↓nin_lst, ↓FD.in_str, ↓nin_str, ↓isC_one, ↓asL_lst, ↓asL_scr, ↓if_tt, ↓if_ff, ↓isi_ss, ↓isi_tt, ↓isi_st, ↓isi_ts, ↓ty_str, ↓ty_tup, ↓ty_ftp, ↓ty_ktp, ↓ty_tp, ↓ty_tq, ↓all_lst, ↓any_lst, ↓flat_s, ↓flat_set, ↓tuple_lst, ↓FD.int_int, ↓eq_ftp_nil, ↓ne_ftp_nil, ↓isNon_non, ↓isNon_int, ↓isNon_str, ↓isNon_ptr, ↓isNon_tup, ↓isNon_ftp, ↓inL_strs, ↓flatSs, ↓inL_sets, ↓flatSets, ↓FM.tw, ↓FM.tw3, ↓FM.sl_str, ↓sl_set, ↓cell_upd, ↓lk_sw, ↓lk_ru, ↓lk_st, ↓lk_place, ↓lk_has, ↓lk_keeps, ↓lk_wrongs, ↓lk_goods, ↓lk_ways_from, ↓lk_text, ↓ins_pan, ↓FD.fit_le, ↓cx_K, ↓nox_K, ↓blk_K, ↓bx_K, ↓c1, ↓c2, ↓c3, ↓c4, ↓inL_cons, ↓inL_nil, ↓all_bools, ↓any_bools, ↓in_tp, ↓in_tq, ↓nin_tp, ↓nin_tq, ↓FM.sl_ftp, ↓FM.sl_tup, ↓FM.sl_lst, ↓FM.sl_scr, ↓index_eq, ↓ex_ftp, ↓eqd_str, ↓wf_at, ↓isT_cl, ↓isT_st, ↓isT_lit, ↓ix_lit0, ↓ix_lit1, ↓len_lit, ↓ty_lit, ↓eq_lit, ↓ne_lit, ↓eq_set, ↓ne_set, ↓len_set, ↓ty_set, ↓isS_set, ↓isC_sg, ↓sNever_e, ↓enumD_map, ↓dpAll_strs, ↓dpAll_mapI, ↓ne_lst_nil, ↓eq_lst_nil, ↓isT_grp, ↓len_grp, ↓isDc_wf, ↓wn_at, ↓isT_way, ↓len_way, ↓ty_way, ↓ty_st, ↓len_st, ↓ix_st0, ↓ix_st1, ↓inD_lits, ↓ninD_lits, ↓dpAll_sets, ↓three_three, ↓zip3_sets, ↓isT_z3, ↓inL_lock, ↓ninT_lits, ↓FM.tp_t, ↓FM.tp_f, ↓FM.tq_t, ↓FM.tq_f, ↓isT_pr, ↓tupleP_lst, ↓isT_it, ↓isNon_set, Bool.not_true, Bool.not_false, Bool.false_eq_true, if_false, if_true, true_and, and_true, List.set_cons_zero, List.set_cons_succ, List.length_cons, List.length_nil, List.length_map, eq_self, decide_true, decide_false, Bool.true_eq_false, or_self, Bool.or_self, List.all_cons, List.all_nil, Bool.and_true, Bool.true_and, Bool.or_false, Bool.false_or, Bool.or_true, Bool.true_or, Bool.and_false, Bool.false_and, Int.reduceLT, Int.reduceLE, Int.reduceEq, Nat.reduceLeDiff, Nat.reduceAdd, Nat.reduceLT, wf_some, wn_some, fold_lit, fold_litp, fold_litm, sg_iff, sg_in_pm, isNon_opt, isEmpty_map, ↓reduceIte, nq_0_1, nq_0_2, nq_0_3, nq_0_4, nq_0_5, nq_0_6, nq_0_7, nq_1_0, nq_1_2, nq_1_3, nq_1_4, nq_1_5, nq_1_6, nq_1_7, nq_2_0, nq_2_1, nq_2_3, nq_2_4, nq_2_5, nq_2_6, nq_2_7, nq_3_0, nq_3_1, nq_3_2, nq_3_4, nq_3_5, nq_3_6, nq_3_7, nq_4_0, nq_4_1, nq_4_2, nq_4_3, nq_4_5, nq_4_6, nq_4_7, nq_5_0, nq_5_1, nq_5_2, nq_5_3, nq_5_4, nq_5_6, nq_5_7, nq_6_0, nq_6_1, nq_6_2, nq_6_3, nq_6_4, nq_6_5, nq_6_7, nq_7_0, nq_7_1, nq_7_2, nq_7_3, nq_7_4, nq_7_5, nq_7_6])
theorem fn_clauses_of (T : Tx P w K mg base) : Fng P w K mg base 3 "clauses_of" (top 24) ["rule"] sp_clauses_of := by
  have S := sc_clauses_of
  refine fng_of T.d_clauses_of T.g_clauses_of S (fun ds M post h => by unfold sp_clauses_of at h; grind) fun f cdv A outer s H gd hr => ⟨_, (ds_cons (ds_set (i := 1) S.nd (de_ix o_ix (dv 0) dint))
      (ds_cons (ds_if (dt_cmp (o_eq hr) (dv 1) dstr)
      (ds_one (ds_ret (de_lst (da_cons (de_tup (da_cons (de_ix o_ix (dv 0) dint) (da_cons (de_ix o_ix (dv 0) dint) da_nil))) da_nil))))
      ds_nil)
      (ds_cons (ds_if (dt_cmp (o_eq hr) (dv 1) dstr)
      (ds_one (ds_ret (de_lst (da_cons (de_tup (da_cons (de_ix o_ix (dv 0) dint) (da_cons (de_ix o_ix (dv 0) dint) da_nil))) da_nil))))
      ds_nil)
      (ds_cons (ds_if (dt_cmp (o_eq hr) (dv 1) dstr)
      (ds_one (ds_ret (de_lst (da_cons (de_tup (da_cons (de_call (ok_opposite T) (hr.mono (by decide)) gd (da_cons (de_ix o_ix (dv 0) dint) da_nil)) (da_cons (de_ix o_ix (dv 0) dint) da_nil))) da_nil))))
      ds_nil)
      (ds_cons (ds_if (dt_cmp (o_eq hr) (dv 1) dstr)
      (ds_one (ds_ret (de_lst (da_cons (de_tup (da_cons (de_call (ok_opposite T) (hr.mono (by decide)) gd (da_cons (de_ix o_ix (dv 0) dint) da_nil)) (da_cons (de_call (ok_opposite T) (hr.mono (by decide)) gd (da_cons (de_ix o_ix (dv 0) dint) da_nil)) da_nil))) da_nil))))
      ds_nil)
      (ds_cons (ds_par (i := 2) (j := 3) rfl S.nd (da_cons (de_ix o_ix (dv 0) dint) (da_cons (de_ix o_ix (dv 0) dint) da_nil)))
      (ds_cons (ds_if (dt_cmp (o_eq hr) (dv 1) dstr)
      (ds_one (ds_ret (de_lst (da_cons (de_tup (da_cons (de_tup (da_cons (dv 2) (da_cons dstr da_nil))) (da_cons (de_tup (da_cons (dv 3) (da_cons dstr da_nil))) da_nil))) (da_cons (de_tup (da_cons (de_tup (da_cons (dv 2) (da_cons dstr da_nil))) (da_cons (de_tup (da_cons (dv 3) (da_cons dstr da_nil))) da_nil))) da_nil)))))
      ds_nil)
      (ds_one (ds_ret (de_lst (da_cons (de_tup (da_cons (de_tup (da_cons (dv 2) (da_cons dstr da_nil))) (da_cons (de_tup (da_cons (dv 3) (da_cons dstr da_nil))) da_nil))) (da_cons (de_tup (da_cons (de_tup (da_cons (dv 2) (da_cons dstr da_nil))) (da_cons (de_tup (da_cons (dv 3) (da_cons dstr da_nil))) da_nil))) da_nil)))))))))))), ?_⟩
  rintro ds M post ⟨r, rfl, h⟩
  cases r <;> unfold ruleD <;> (try walk_at "clauses_of") <;> exact h
theorem ok_clauses_of (T : Tx P w K mg base) : Pub P w K mg base 3 "clauses_of" ["rule"] sp_clauses_of := (fn_clauses_of T).pub fun _ _ _ _ _ _ us hl => match us, hl with | [_], _ => rfl

theorem sc_steps_of : FnScope ["rule", "found", "one", "other"] ["rule"] (defScope (top 25)) := ⟨rfl, rfl, rfl, by decide +kernel, rfl, by decide +kernel, by decide +kernel⟩
def sp_steps_of : DSp := fun ds M post => ∃ r, ds = [ruleD r] ∧ post (.lst ((steps r).map clD)) M
theorem cl_steps_of {r : Rule} {M : Mem} {post : WK} : sp_steps_of [ruleD r] M post = post (.lst ((steps r).map clD)) M := by
  simp [-Bool.exists_bool, sp_steps_of, tp_inj, tq_inj, litD_inj, strs_inj, ruleD_inj, clD_inj, setD_inj, rules_inj, lits_inj, sets_inj, ints_inj, panF_inj, rngs_inj, rngE_inj, sg_inj, and_assoc, Int.natCast_inj]
local macro_rules | `(tactic| walk_at "steps_of") => `(tactic| simp only [↓cl_clauses_of, cl_clauses_of, ↓cl_opposite, cl_opposite, ↓FD.wCM_e, ↓FD.wCMK_e, ↓FD.wMakeV_e, ↓FD.wMethKC_e, ↓FD.wSetSort_e, ↓FD.gSplit_e, ↓FD.gSplitN_e, ↓FD.wSetLenT_e, ↓FD.wRevT_e, ↓FD.wSetLen_e, ↓FD.wRev_e, ↓FD.gDictS_e, ↓FD.gMinS_e, ↓FD.gIndexB_e, ↓FD.gListN_e, ↓FD.gAddC_e, ↓FD.wDispN_e, ↓FD.wMethD_e, ↓FD.gPop0_e, ↓FD.sFin_e, ↓FD.gFldD_e, ↓FD.sCt_e, ↓FD.sFrz_e, ↓FD.gLeS_e, ↓FD.gStrO_e, ↓FD.gBoolO_e, ↓FD.wM0_e, ↓FD.gUpper_e, ↓FD.gUnL_e, ↓FD.sSeq_e, ↓FD.sRet_e, ↓FD.sIf_e, ↓FD.sAsg_e, ↓FD.gSet_e, ↓FD.sDrop_e, ↓FD.sNext_e, ↓FD.sPar_e, ↓FD.sPar3_e, ↓FD.wIf_e, ↓FD.wOp_e, ↓FD.wUn_e, ↓FD.wVar_e, ↓FD.wC_e, ↓FD.wTst_e, ↓FD.wAnd_e, ↓FD.wOr_e, ↓FD.wNot_e, ↓FD.wAndV_e, ↓FD.wOrV_e, ↓FD.wNotV_e, ↓FD.wChain_e, ↓FD.aNil_e, ↓FD.aCons_e, ↓FD.wTup_e, ↓FD.wLst_e, ↓FD.wFtp_e, ↓FD.wNew_e, ↓FD.wCall_e, ↓FD.wB_e, ↓FD.wSl_e, ↓FD.oSome_e, ↓FD.oNone_e, ↓FD.wIsi_e, ↓FD.wIsiC_e, ↓FD.p1_e, ↓FD.p2_e, ↓FD.gLen_e, ↓FD.iLst_e, ↓FD.iTup_e, ↓FD.iStrD_e, ↓FD.iEnT_e, ↓FD.iEnL_e, ↓FD.iRng_e, ↓FD.iRng2_e, ↓FD.gTup_e, ↓FD.gsNil_e, ↓FD.gsCons_e, ↓FD.wM_e, ↓FD.wIxT_e, ↓FD.wFld_e, ↓FD.wMeth_e, ↓FD.wMake_e, ↓FD.sFldD_e, ↓FD.wDGet_e, ↓FD.sDput_e, ↓FD.wDNewK_e, ↓FD.wDNewT_e, ↓FD.wDisp1_e, ↓FD.wIce_e, ↓FD.gSub_e, ↓FD.wCallK_e, ↓FD.t1_e, ↓FD.t2_e, ↓FD.t1w_e, ↓FD.tYesD_e, ↓FD.gDIn_e, ↓FD.gDNin_e, ↓FD.gIndexT_e, ↓FD.gIndex_e, ↓FD.gInt_e, ↓FD.gAbs_e, ↓FD.gMax_e, ↓FD.gMin_e, ↓FD.gDivmod_e, ↓FD.wFz_e, ↓FD.wDGetD_e, ↓FD.t3_e, ↓FD.iZip3D_e, ↓FD.sForIT_e, ↓FD.wIsiO_e, ↓FD.wFmt_e, ↓FD.wTruO_e, ↓FD.gLenO_e, ↓FD.wMakeK_e, ↓FD.gOwn_e, ↓FD.t12_e, ↓FD.iZipMD_e, ↓FD.sForKT_e, ↓FD.wDSetd_e, ↓FD.wVals_e, ↓FD.iRng3_e, ↓FD.iEnS_e, ↓FD.gZ2_eq, ↓zip2_cl, ↓FD.addF_ftp, ↓FD.wPs_nil, ↓FD.wPs_cons, ↓FM.keyed_nil, ↓FM.keyed_str, ↓FM.sortP_lst, ↓FM.sortP_ftp, ↓lk_de_switches, ↓lk_de_rules, ↓lk_de_promises, ↓lk_de_past, ↓lk_de_undo, ↓lk_de_put, ↓lk_de_turn, ↓lk_de_become, ↓lk_de_take, ↓lk_de_promise, ↓lk_de_lift, ↓lk_de_trial, ↓lk_de_as_panel, ↓put_de_past, ↓put_de_promises, ↓lk_sg_setting, ↓lk_sg_log, ↓lk_sg_past, ↓lk_sg_other, ↓insR_stage, ↓lk_bo_panel, ↓lk_bo_setting, ↓lk_bo_log, ↓lk_bo_busy, ↓lk_bo_past, ↓lk_bo_do, ↓lk_bo_do_all, ↓lk_bo_undo, ↓lk_bo_take, ↓lk_bo_trial, ↓lk_bo_is_deed, ↓lk_bo_check_idle, ↓put_bo_setting, ↓put_bo_log, ↓put_bo_busy, ↓put_bo_past, ↓isiO_pan, ↓insT_pan, ↓FD.js_nil, ↓FD.js_cons, ↓FD.wLc2N_eq, ↓FD.addN_lst, ↓sFor_eq, ↓wLc_eq, ↓wLc2_eq, ↓wDc_eq, ↓look_zero, ↓look_succ, ↓got_so, ↓isB_bl, ↓isI_int, ↓isS_str, ↓isT_tup, ↓isT_ftp, ↓isT_ktp, ↓isT_tp, ↓isT_tq, ↓one_one, ↓two_two, ↓startD_cc, ↓startD_cn, ↓startD_nn, ↓FD.ix_str, ↓FD.ix_tup, ↓ix_ftp, ↓ix_ktp, ↓ix_lst, ↓ix_scr, ↓ix_tp, ↓ix_tq, ↓atI0, ↓atI1, ↓atI2, ↓atI3, ↓FD.eq_str, ↓FD.ne_str, ↓FD.eq_int, ↓FD.ne_int, ↓FD.add_int, ↓FD.sub_int, ↓FD.lt_int, ↓FD.le_int, ↓FD.gt_int, ↓FD.ge_int, ↓FD.add_str, ↓FD.add_lst, ↓FD.add_tup, ↓FD.mul_int, ↓FD.mod_int, ↓FD.fdiv_int, ↓FD.pow_int, ↓isN_non, ↓notN_non, ↓FD.len_str, ↓len_tup, ↓len_ftp, ↓len_ktp, ↓len_lst, ↓len_scr, ↓len_tp, ↓len_tq, ↓seq_tup, ↓seq_ftp, ↓seq_ktp, ↓seq_lst, ↓seq_scr, ↓seq_tp, ↓seq_tq, ↓in_tup, ↓in_ftp, ↓in_ktp, ↓in_lst, ↓nin_tup, ↓nin_ftp, ↓nin_ktp, ↓nin_lst, ↓FD.in_str, ↓nin_str, ↓isC_one, ↓asL_lst, ↓asL_scr, ↓if_tt, ↓if_ff, ↓isi_ss, ↓isi_tt, ↓isi_st, ↓isi_ts, ↓ty_str, ↓ty_tup, ↓ty_ftp, ↓ty_ktp, ↓ty_tp, ↓ty_tq, ↓all_lst, ↓any_lst, ↓flat_s, ↓flat_set, ↓tuple_lst, ↓FD.int_int, ↓eq_ftp_nil, ↓ne_ftp_nil, ↓isNon_non, ↓isNon_int, ↓isNon_str, ↓isNon_ptr, ↓isNon_tup, ↓isNon_ftp, ↓inL_strs, ↓flatSs, ↓inL_sets, ↓flatSets, ↓FM.tw, ↓FM.tw3, ↓FM.sl_str, ↓sl_set, ↓cell_upd, ↓lk_sw, ↓lk_ru, ↓lk_st, ↓lk_place, ↓lk_has, ↓lk_keeps, ↓lk_wrongs, ↓lk_goods, ↓lk_ways_from, ↓lk_text, ↓ins_pan, ↓FD.fit_le, ↓cx_K, ↓nox_K, ↓blk_K, ↓bx_K, ↓c1, ↓c2, ↓c3, ↓c4, ↓inL_cons, ↓inL_nil, ↓all_bools, ↓any_bools, ↓in_tp, ↓in_tq, ↓nin_tp, ↓nin_tq, ↓FM.sl_ftp, ↓FM.sl_tup, ↓FM.sl_lst, ↓FM.sl_scr, ↓index_eq, ↓ex_ftp, ↓eqd_str, ↓wf_at, ↓isT_cl, ↓isT_st, ↓isT_lit, ↓ix_lit0, ↓ix_lit1, ↓len_lit, ↓ty_lit, ↓eq_lit, ↓ne_lit, ↓eq_set, ↓ne_set, ↓len_set, ↓ty_set, ↓isS_set, ↓isC_sg, ↓sNever_e, ↓enumD_map, ↓dpAll_strs, ↓dpAll_mapI, ↓ne_lst_nil, ↓eq_lst_nil, ↓isT_grp, ↓len_grp, ↓isDc_wf, ↓wn_at, ↓isT_way, ↓len_way, ↓ty_way, ↓ty_st, ↓len_st, ↓ix_st0, ↓ix_st1, ↓inD_lits, ↓ninD_lits, ↓dpAll_sets, ↓three_three, ↓zip3_sets, ↓isT_z3, ↓inL_lock, ↓ninT_lits, ↓FM.tp_t, ↓FM.tp_f, ↓FM.tq_t, ↓FM.tq_f, ↓isT_pr, ↓tupleP_lst, ↓isT_it, ↓isNon_set, Bool.not_true, Bool.not_false, Bool.false_eq_true, if_false, if_true, true_and, and_true, List.set_cons_zero, List.set_cons_succ, List.length_cons, List.length_nil, List.length_map, eq_self, decide_true, decide_false, Bool.true_eq_false, or_self, Bool.or_self, List.all_cons, List.all_nil, Bool.and_true, Bool.true_and, Bool.or_false, Bool.false_or, Bool.or_true, Bool.true_or, Bool.and_false, Bool.false_and, Int.reduceLT, Int.reduceLE, Int.reduceEq, Nat.reduceLeDiff, Nat.reduceAdd, Nat.reduceLT, wf_some, wn_some, fold_lit, fold_litp, fold_litm, sg_iff, sg_in_pm, isNon_opt, isEmpty_map, ↓reduceIte, nq_0_1, nq_0_2, nq_0_3, nq_0_4, nq_0_5, nq_0_6, nq_0_7, nq_1_0, nq_1_2, nq_1_3, nq_1_4, nq_1_5, nq_1_6, nq_1_7, nq_2_0, nq_2_1, nq_2_3, nq_2_4, nq_2_5, nq_2_6, nq_2_7, nq_3_0, nq_3_1, nq_3_2, nq_3_4, nq_3_5, nq_3_6, nq_3_7, nq_4_0, nq_4_1, nq_4_2, nq_4_3, nq_4_5, nq_4_6, nq_4_7, nq_5_0, nq_5_1, nq_5_2, nq_5_3, nq_5_4, nq_5_6, nq_5_7, nq_6_0, nq_6_1, nq_6_2, nq_6_3, nq_6_4, nq_6_5, nq_6_7, nq_7_0, nq_7_1, nq_7_2, nq_7_3, nq_7_4, nq_7_5, nq_7_6])
theorem fn_steps_of (T : Tx P w K mg base) : Fng P w K mg base 4 "steps_of" (top 25) ["rule"] sp_steps_of := by
  have S := sc_steps_of
  refine fng_of T.d_steps_of T.g_steps_of S (fun ds M post h => by unfold sp_steps_of at h; grind) fun f cdv A outer s H gd hr => ⟨_, (ds_cons (ds_set (i := 1) S.nd (de_new da_nil))
      (ds_cons (ds_for PassesOwn.never rfl (di_list (de_call (ok_clauses_of T) (hr.mono (by decide)) gd (da_cons (dv 0) da_nil))) (dg_tup (n := 2) rfl (dgs_cons (dg_name (i := 2) S.nd) (dgs_cons (dg_name (i := 3) S.nd) dgs_nil)))
      (ds_cons (ds_expr (de_ml PySem.F.slot_list_append PySem.F.type_list_append m_append (dv 1) (da_cons (de_tup (da_cons (de_call (ok_opposite T) (hr.mono (by decide)) gd (da_cons (dv 2) da_nil)) (da_cons (dv 3) da_nil))) da_nil)))
      (ds_one (ds_if (dt_cmp (o_ne hr) (dv 2) (dv 3))
      (ds_one (ds_expr (de_ml PySem.F.slot_list_append PySem.F.type_list_append m_append (dv 1) (da_cons (de_tup (da_cons (de_call (ok_opposite T) (hr.mono (by decide)) gd (da_cons (dv 3) da_nil)) (da_cons (dv 2) da_nil))) da_nil))))
      ds_nil))))
      (ds_one (ds_ret (de_ice (dv 1)))))), ?_⟩
  rintro ds M post ⟨r, rfl, h⟩
  (try walk_at "steps_of")
  intro p hp
  refine for_map (clauses r) clD (fun i Γ' M' => ∃ x y, Γ' = [some (ruleD r), some (.ptr p), x, y] ∧ M' = M.upd p (.lst ((((clauses r).take i).flatMap steps1).map clD))) ⟨_, _, rfl, rfl⟩ (fun _ _ _ _ => trivial) ?_ ?_
  · rintro i c hc Γ' M' ⟨x, y, rfl, rfl⟩
    have l1 := steps1_len ((clauses r).take i)
    have l2 := clauses_len r
    have l3 : ((clauses r).take i).length ≤ 2 := by rw [List.length_take]; omega
    rw [tk_fm hc]
    (try walk_at "steps_of")
    rw [append_eq Mem.upd_same]
    (try walk_at "steps_of")
    refine ⟨okL_cell Mem.upd_same, by omega, ?_⟩
    by_cases e : c.1 = c.2
    · have es : steps1 c = [(c.1.op, c.2)] := by unfold steps1; rw [if_pos e]
      rw [es]
      simp only [e, decide_true, Bool.not_true, Bool.false_eq_true, if_false, if_true]
      (try walk_at "steps_of")
      exact ⟨_, _, rfl, by simp [Mem.upd_upd, clD, List.map_append]⟩
    · have es : steps1 c = [(c.1.op, c.2), (c.2.op, c.1)] := by unfold steps1; rw [if_neg e]
      rw [es]
      simp only [e, decide_false, Bool.not_false, if_true, if_false]
      (try walk_at "steps_of")
      rw [Mem.upd_upd, append_eq Mem.upd_same]
      (try walk_at "steps_of")
      refine ⟨okL_cell Mem.upd_same, by simp only [List.length_append, List.length_map, List.length_cons, List.length_nil]; omega, _, _, rfl, by simp [Mem.upd_upd, clD, List.map_append]⟩
  · rintro Γ' M' ⟨x, y, rfl, rfl⟩
    (try walk_at "steps_of")
    rw [Mem.del_upd hp, List.take_length]
    exact h
theorem ok_steps_of (T : Tx P w K mg base) : Pub P w K mg base 4 "steps_of" ["rule"] sp_steps_of := (fn_steps_of T).pub fun _ _ _ _ _ _ us hl => match us, hl with | [_], _ => rfl

theorem sc_literals_of : FnScope ["switches", "switch", "sign"] ["switches"] (defScope (top 17)) := ⟨rfl, rfl, rfl, by decide +kernel, rfl, by decide +kernel, by decide +kernel⟩
def sp_literals_of : DSp := fun ds M post => ∃ ss : List Str, ds = [strsF ss] ∧ ss.length ≤ 1000 ∧ post (.lst ((lits ss).map litD)) M
theorem cl_literals_of {ss : List Str} {M : Mem} {post : WK} : sp_literals_of [strsF ss] M post = (ss.length ≤ 1000 ∧ post (.lst ((lits ss).map litD)) M) := by
  simp [-Bool.exists_bool, sp_literals_of, tp_inj, tq_inj, litD_inj, strs_inj, ruleD_inj, clD_inj, setD_inj, rules_inj, lits_inj, sets_inj, ints_inj, panF_inj, rngs_inj, rngE_inj, sg_inj, and_assoc, Int.natCast_inj]
theorem fn_literals_of (T : Tx P w K mg base) : Fng P w K mg base 1 "literals_of" (top 17) ["switches"] sp_literals_of := by
  have S := sc_literals_of
  refine fng_of T.d_literals_of T.g_literals_of S (fun ds M post h => by unfold sp_literals_of at h; grind) fun f cdv A outer s H gd hr => ⟨_, (ds_one (ds_ret (de_lc2 (own := [("switch", 1), ("sign", 2)]) (vs1 := [2]) rfl S.nd (di_tup (dv 0)) (blkOk_by (N := ["switches", "switch", "sign"]) (sc := defScope (top 17)) (by decide +kernel)) (by decide) (tgt1w (by decide)) tgt1 (fun _ _ _ _ _ => pg_name (i := 1) S.nd rfl (Or.inl rfl)) (fun _ _ _ _ _ => dts_nil) (fun _ _ _ _ _ => (di_str T.k_SIGNS)) (fun _ _ _ _ _ => pg_name (i := 2) S.nd rfl (Or.inl rfl)) (fun _ _ _ _ _ => dts_nil) (fun _ _ _ _ _ => (de_tup (da_cons (dv 1) (da_cons (dv 2) da_nil))))))), ?_⟩
  rintro ds M post ⟨ss, rfl, hl, h⟩
  (try walk_at "w")
  have e : (ss.flatMap fun x => ([true, false].map fun b => litD ⟨x, b⟩)) = (lits ss).map litD := by
    unfold lits
    rw [List.map_flatMap]
    rfl
  refine lc2_map ss D.str (fun _ => [true, false]) (fun b => D.str (sg b)) (fun x b => litD ⟨x, b⟩) trivial ?_ ?_ ?_ ?_ ?_
  · rw [e, List.length_map, lits_len]; omega
  · intro x hx k hk
    (try walk_at "w")
    rw [signs_pm]
    refine hk _ trivial _ ?_
    intro b hb yes hy
    (try walk_at "w")
    exact hy
  · intro Γ2 P Q i hh
    exact i _ _ _ hh
  · intro d P Q i hh
    exact i _ hh
  · rw [e]; exact h
theorem ok_literals_of (T : Tx P w K mg base) : Pub P w K mg base 1 "literals_of" ["switches"] sp_literals_of := (fn_literals_of T).pub fun _ _ _ _ _ _ us hl => match us, hl with | [_], _ => rfl

theorem sc_Panel___init__ : FnScope ["self", "switches", "rules", "wrong", "literal", "index", "rule", "one", "other"] ["self", "switches", "rules"] (defScope (inClass (top 34) 0)) := ⟨rfl, rfl, rfl, by decide +kernel, rfl, by decide +kernel, by decide +kernel⟩
def sp_Panel___init__ (K : PySem.W.Frag) : DSp := fun ds M post => ∃ (a : Addr) (fg : Fg) (p : Pan), ds = [.ptr a, strsF p.ss, tq fg (p.rs.map ruleD)] ∧ (M a = some (.ins (He.ga K "Panel") []) ∧ ∀ M', (M.del a).le M' → Fz M' (M.del a) (.ptr a) (panF K fg p) → post .non M')
local macro_rules | `(tactic| walk_at "Panel___init__") => `(tactic| simp only [↓cl_check_switches, cl_check_switches, ↓cl_wrong_rule, cl_wrong_rule, ↓cl_literals_of, cl_literals_of, ↓cl_steps_of, cl_steps_of, ↓FD.wCM_e, ↓FD.wCMK_e, ↓FD.wMakeV_e, ↓FD.wMethKC_e, ↓FD.wSetSort_e, ↓FD.gSplit_e, ↓FD.gSplitN_e, ↓FD.wSetLenT_e, ↓FD.wRevT_e, ↓FD.wSetLen_e, ↓FD.wRev_e, ↓FD.gDictS_e, ↓FD.gMinS_e, ↓FD.gIndexB_e, ↓FD.gListN_e, ↓FD.gAddC_e, ↓FD.wDispN_e, ↓FD.wMethD_e, ↓FD.gPop0_e, ↓FD.sFin_e, ↓FD.gFldD_e, ↓FD.sCt_e, ↓FD.sFrz_e, ↓FD.gLeS_e, ↓FD.gStrO_e, ↓FD.gBoolO_e, ↓FD.wM0_e, ↓FD.gUpper_e, ↓FD.gUnL_e, ↓FD.sSeq_e, ↓FD.sRet_e, ↓FD.sIf_e, ↓FD.sAsg_e, ↓FD.gSet_e, ↓FD.sDrop_e, ↓FD.sNext_e, ↓FD.sPar_e, ↓FD.sPar3_e, ↓FD.wIf_e, ↓FD.wOp_e, ↓FD.wUn_e, ↓FD.wVar_e, ↓FD.wC_e, ↓FD.wTst_e, ↓FD.wAnd_e, ↓FD.wOr_e, ↓FD.wNot_e, ↓FD.wAndV_e, ↓FD.wOrV_e, ↓FD.wNotV_e, ↓FD.wChain_e, ↓FD.aNil_e, ↓FD.aCons_e, ↓FD.wTup_e, ↓FD.wLst_e, ↓FD.wFtp_e, ↓FD.wNew_e, ↓FD.wCall_e, ↓FD.wB_e, ↓FD.wSl_e, ↓FD.oSome_e, ↓FD.oNone_e, ↓FD.wIsi_e, ↓FD.wIsiC_e, ↓FD.p1_e, ↓FD.p2_e, ↓FD.gLen_e, ↓FD.iLst_e, ↓FD.iTup_e, ↓FD.iStrD_e, ↓FD.iEnT_e, ↓FD.iEnL_e, ↓FD.iRng_e, ↓FD.iRng2_e, ↓FD.gTup_e, ↓FD.gsNil_e, ↓FD.gsCons_e, ↓FD.wM_e, ↓FD.wIxT_e, ↓FD.wFld_e, ↓FD.wMeth_e, ↓FD.wMake_e, ↓FD.sFldD_e, ↓FD.wDGet_e, ↓FD.sDput_e, ↓FD.wDNewK_e, ↓FD.wDNewT_e, ↓FD.wDisp1_e, ↓FD.wIce_e, ↓FD.gSub_e, ↓FD.wCallK_e, ↓FD.t1_e, ↓FD.t2_e, ↓FD.t1w_e, ↓FD.tYesD_e, ↓FD.gDIn_e, ↓FD.gDNin_e, ↓FD.gIndexT_e, ↓FD.gIndex_e, ↓FD.gInt_e, ↓FD.gAbs_e, ↓FD.gMax_e, ↓FD.gMin_e, ↓FD.gDivmod_e, ↓FD.wFz_e, ↓FD.wDGetD_e, ↓FD.t3_e, ↓FD.iZip3D_e, ↓FD.sForIT_e, ↓FD.wIsiO_e, ↓FD.wFmt_e, ↓FD.wTruO_e, ↓FD.gLenO_e, ↓FD.wMakeK_e, ↓FD.gOwn_e, ↓FD.t12_e, ↓FD.iZipMD_e, ↓FD.sForKT_e, ↓FD.wDSetd_e, ↓FD.wVals_e, ↓FD.iRng3_e, ↓FD.iEnS_e, ↓FD.gZ2_eq, ↓zip2_cl, ↓FD.addF_ftp, ↓FD.wPs_nil, ↓FD.wPs_cons, ↓FM.keyed_nil, ↓FM.keyed_str, ↓FM.sortP_lst, ↓FM.sortP_ftp, ↓lk_de_switches, ↓lk_de_rules, ↓lk_de_promises, ↓lk_de_past, ↓lk_de_undo, ↓lk_de_put, ↓lk_de_turn, ↓lk_de_become, ↓lk_de_take, ↓lk_de_promise, ↓lk_de_lift, ↓lk_de_trial, ↓lk_de_as_panel, ↓put_de_past, ↓put_de_promises, ↓lk_sg_setting, ↓lk_sg_log, ↓lk_sg_past, ↓lk_sg_other, ↓insR_stage, ↓lk_bo_panel, ↓lk_bo_setting, ↓lk_bo_log, ↓lk_bo_busy, ↓lk_bo_past, ↓lk_bo_do, ↓lk_bo_do_all, ↓lk_bo_undo, ↓lk_bo_take, ↓lk_bo_trial, ↓lk_bo_is_deed, ↓lk_bo_check_idle, ↓put_bo_setting, ↓put_bo_log, ↓put_bo_busy, ↓put_bo_past, ↓isiO_pan, ↓insT_pan, ↓FD.js_nil, ↓FD.js_cons, ↓FD.wLc2N_eq, ↓FD.addN_lst, ↓sFor_eq, ↓wLc_eq, ↓wLc2_eq, ↓wDc_eq, ↓look_zero, ↓look_succ, ↓got_so, ↓isB_bl, ↓isI_int, ↓isS_str, ↓isT_tup, ↓isT_ftp, ↓isT_ktp, ↓isT_tp, ↓isT_tq, ↓one_one, ↓two_two, ↓startD_cc, ↓startD_cn, ↓startD_nn, ↓FD.ix_str, ↓FD.ix_tup, ↓ix_ftp, ↓ix_ktp, ↓ix_lst, ↓ix_scr, ↓ix_tp, ↓ix_tq, ↓atI0, ↓atI1, ↓atI2, ↓atI3, ↓FD.eq_str, ↓FD.ne_str, ↓FD.eq_int, ↓FD.ne_int, ↓FD.add_int, ↓FD.sub_int, ↓FD.lt_int, ↓FD.le_int, ↓FD.gt_int, ↓FD.ge_int, ↓FD.add_str, ↓FD.add_lst, ↓FD.add_tup, ↓FD.mul_int, ↓FD.mod_int, ↓FD.fdiv_int, ↓FD.pow_int, ↓isN_non, ↓notN_non, ↓FD.len_str, ↓len_tup, ↓len_ftp, ↓len_ktp, ↓len_lst, ↓len_scr, ↓len_tp, ↓len_tq, ↓seq_tup, ↓seq_ftp, ↓seq_ktp, ↓seq_lst, ↓seq_scr, ↓seq_tp, ↓seq_tq, ↓in_tup, ↓in_ftp, ↓in_ktp, ↓in_lst, ↓nin_tup, ↓nin_ftp, ↓nin_ktp, ↓nin_lst, ↓FD.in_str, ↓nin_str, ↓isC_one, ↓asL_lst, ↓asL_scr, ↓if_tt, ↓if_ff, ↓isi_ss, ↓isi_tt, ↓isi_st, ↓isi_ts, ↓ty_str, ↓ty_tup, ↓ty_ftp, ↓ty_ktp, ↓ty_tp, ↓ty_tq, ↓all_lst, ↓any_lst, ↓flat_s, ↓flat_set, ↓tuple_lst, ↓FD.int_int, ↓eq_ftp_nil, ↓ne_ftp_nil, ↓isNon_non, ↓isNon_int, ↓isNon_str, ↓isNon_ptr, ↓isNon_tup, ↓isNon_ftp, ↓inL_strs, ↓flatSs, ↓inL_sets, ↓flatSets, ↓FM.tw, ↓FM.tw3, ↓FM.sl_str, ↓sl_set, ↓cell_upd, ↓lk_sw, ↓lk_ru, ↓lk_st, ↓lk_place, ↓lk_has, ↓lk_keeps, ↓lk_wrongs, ↓lk_goods, ↓lk_ways_from, ↓lk_text, ↓ins_pan, ↓FD.fit_le, ↓cx_K, ↓nox_K, ↓blk_K, ↓bx_K, ↓c1, ↓c2, ↓c3, ↓c4, ↓inL_cons, ↓inL_nil, ↓all_bools, ↓any_bools, ↓in_tp, ↓in_tq, ↓nin_tp, ↓nin_tq, ↓FM.sl_ftp, ↓FM.sl_tup, ↓FM.sl_lst, ↓FM.sl_scr, ↓index_eq, ↓ex_ftp, ↓eqd_str, ↓wf_at, ↓isT_cl, ↓isT_st, ↓isT_lit, ↓ix_lit0, ↓ix_lit1, ↓len_lit, ↓ty_lit, ↓eq_lit, ↓ne_lit, ↓eq_set, ↓ne_set, ↓len_set, ↓ty_set, ↓isS_set, ↓isC_sg, ↓sNever_e, ↓enumD_map, ↓dpAll_strs, ↓dpAll_mapI, ↓ne_lst_nil, ↓eq_lst_nil, ↓isT_grp, ↓len_grp, ↓isDc_wf, ↓wn_at, ↓isT_way, ↓len_way, ↓ty_way, ↓ty_st, ↓len_st, ↓ix_st0, ↓ix_st1, ↓inD_lits, ↓ninD_lits, ↓dpAll_sets, ↓three_three, ↓zip3_sets, ↓isT_z3, ↓inL_lock, ↓ninT_lits, ↓FM.tp_t, ↓FM.tp_f, ↓FM.tq_t, ↓FM.tq_f, ↓isT_pr, ↓tupleP_lst, ↓isT_it, ↓isNon_set, Bool.not_true, Bool.not_false, Bool.false_eq_true, if_false, if_true, true_and, and_true, List.set_cons_zero, List.set_cons_succ, List.length_cons, List.length_nil, List.length_map, eq_self, decide_true, decide_false, Bool.true_eq_false, or_self, Bool.or_self, List.all_cons, List.all_nil, Bool.and_true, Bool.true_and, Bool.or_false, Bool.false_or, Bool.or_true, Bool.true_or, Bool.and_false, Bool.false_and, Int.reduceLT, Int.reduceLE, Int.reduceEq, Nat.reduceLeDiff, Nat.reduceAdd, Nat.reduceLT, wf_some, wn_some, fold_lit, fold_litp, fold_litm, sg_iff, sg_in_pm, isNon_opt, isEmpty_map, ↓reduceIte, nq_0_1, nq_0_2, nq_0_3, nq_0_4, nq_0_5, nq_0_6, nq_0_7, nq_1_0, nq_1_2, nq_1_3, nq_1_4, nq_1_5, nq_1_6, nq_1_7, nq_2_0, nq_2_1, nq_2_3, nq_2_4, nq_2_5, nq_2_6, nq_2_7, nq_3_0, nq_3_1, nq_3_2, nq_3_4, nq_3_5, nq_3_6, nq_3_7, nq_4_0, nq_4_1, nq_4_2, nq_4_3, nq_4_5, nq_4_6, nq_4_7, nq_5_0, nq_5_1, nq_5_2, nq_5_3, nq_5_4, nq_5_6, nq_5_7, nq_6_0, nq_6_1, nq_6_2, nq_6_3, nq_6_4, nq_6_5, nq_6_7, nq_7_0, nq_7_1, nq_7_2, nq_7_3, nq_7_4, nq_7_5, nq_7_6])
theorem fnC_Panel (T : Tx P w K mg base) : FnC P w K mg base 5 "Panel.__init__" (inClass (top 34) 0) [.ref (He.dflAt ("Panel", some "__init__") 0 K)] (He.ma K (He.ga K "Panel") "__init__") ["self", "switches", "rules"] (sp_Panel___init__ K) := by
  have S := sc_Panel___init__
  refine fnC_of T.d_Panel___init__ S (fun ds M post h => by unfold sp_Panel___init__ at h; grind) fun f cdv A outer s H gd hr => ⟨_, (ds_cons (ds_expr (de_call (ok_check_switches T) (hr.mono (by decide)) gd (da_cons (dv 1) da_nil)))
      (ds_cons (ds_if (dt_not (dt_val (de_isi (T := "tuple") (dv 2) T.m_isinstance T.m_tuple (by decide +kernel))))
      (ds_one ds_never)
      ds_nil)
      (ds_cons (ds_set (i := 3) S.nd (de_call (ok_wrong_rule T) (hr.mono (by decide)) gd (da_cons (dv 2) (da_cons (dv 1) da_nil))))
      (ds_cons (ds_if (dt_cmp o_notN (dv 3) dnon)
      (ds_one ds_never)
      ds_nil)
      (ds_cons (ds_fld T.c_Panel T.n_Panel_switches (dv 0) (dv 1))
      (ds_cons (ds_fld T.c_Panel T.n_Panel_rules (dv 0) (dv 2))
      (ds_cons (ds_fld T.c_Panel T.n_Panel_steps (dv 0) (de_dcT (own := [("literal", 4)]) hr rfl S.nd (di_list (de_call (ok_literals_of T) (hr.mono (by decide)) gd (da_cons (dv 1) da_nil))) (blkOk_by (N := ["self", "switches", "rules", "wrong", "literal", "index", "rule", "one", "other"]) (sc := defScope (inClass (top 34) 0)) (by decide +kernel)) tgt1 (fun _ _ _ _ _ => pg_name (i := 4) S.nd rfl (Or.inl rfl)) (fun _ _ _ _ _ => dts_nil) (fun _ _ _ _ _ => (dv 4)) (fun _ _ _ _ _ => (de_new da_nil))))
      (ds_one (ds_for PassesOwn.never rfl (di_enumT T.m_enumerate (da_cons (dv 2) da_nil)) (dg_tup (n := 2) rfl (dgs_cons (dg_name (i := 5) S.nd) (dgs_cons (dg_name (i := 6) S.nd) dgs_nil)))
      (ds_one (ds_for PassesOwn.never rfl (di_list (de_call (ok_steps_of T) (hr.mono (by decide)) gd (da_cons (dv 6) da_nil))) (dg_tup (n := 2) rfl (dgs_cons (dg_name (i := 7) S.nd) (dgs_cons (dg_name (i := 8) S.nd) dgs_nil)))
      (ds_one (ds_expr (de_ml PySem.F.slot_list_append PySem.F.type_list_append m_append (de_dget hr (de_fld T.c_Panel T.n_Panel_steps (dv 0)) (dv 7)) (da_cons (de_tup (da_cons (dv 5) (da_cons (dv 8) da_nil))) da_nil))))))))))))))), ?_⟩
  rintro ds M post ⟨a, fg, p, rfl, ha, h⟩
  have l10 := p.sw.2.1
  (try walk_at "Panel___init__")
  refine ⟨p.sw.1, wrongSw_none p.sw, ?_⟩
  rw [wrongRu_none p.ru p.len, insOf_eq ha]
  (try walk_at "Panel___init__")
  rw [insOf_eq Mem.upd_same]
  have e1 : putFD "switches" (strsF p.ss) [] = ([("switches", strsF p.ss)] : List (Str × D)) := rfl
  rw [e1, pf2, Mem.upd_upd]
  refine ⟨by simp, by omega, ?_⟩
  intro d hd
  have da : d ≠ a := fun e => by rw [e, Mem.upd_same] at hd; cases hd
  have bd : (M.del a) d = none := by rw [Mem.upd_ne da] at hd; rw [Mem.del_ne da]; exact hd
  refine ⟨fun i M' => ∃ q, DictI (M.del a) a (He.ga K "Panel") [("switches", strsF p.ss), ("rules", tq fg (p.rs.map ruleD))] d q ((lits p.ss).take i) (fun _ => []) M', ⟨fun _ => 0, ?_⟩, fun _ _ _ => trivial, ?_, ?_⟩
  · refine ⟨?_, Mem.upd_same, da, Mem.del_same, bd, fun b hb => by simp at hb, fun b hb => by simp at hb, fun x o e => ?_⟩
    · rw [Mem.upd_ne (Ne.symm da), Mem.upd_same]
    · have xa : x ≠ a := fun z => by rw [z, Mem.del_same] at e; cases e
      have xd : x ≠ d := fun z => by rw [z, bd] at e; cases e
      rw [Mem.upd_ne xd, Mem.upd_ne xa]
      rw [Mem.del_ne xa] at e; exact e
  · rintro i y M' hy ⟨q, I⟩
    obtain ⟨b, hb, rfl⟩ := map_at hy
    have nb : b ∉ (lits p.ss).take i := by
      intro m
      have nd := lits_nodup p.sw.2.2.1
      obtain ⟨hi, e⟩ := List.getElem?_eq_some_iff.mp hb
      obtain ⟨j, hj, e2⟩ := List.mem_iff_getElem.mp m
      rw [List.length_take] at hj
      rw [List.getElem_take] at e2
      have := (List.getElem_inj (h₀ := by omega) (h₁ := hi) nd).mp (e2.trans e.symm)
      omega
    (try walk_at "Panel___init__")
    intro r hr
    obtain ⟨h1, q', h2⟩ := I.new nb hr
    rw [dPut_T h1 keyT_lit, tk_one hb]
    refine ⟨?_, q', h2⟩
    rw [List.length_map, List.length_take, lits_len]; omega
  · rintro M' ⟨q, I⟩
    rw [List.length_map, List.take_length] at I
    rw [insOf_eq I.inst, pf3]
    refine ⟨by simp, ?_⟩
    refine for_map p.rs.zipIdx (fun q => D.tup [.int (q.2 : Int), ruleD q.1]) (fun i Γ' M2 => (∃ x y u v, Γ' = [some (.ptr a), some (strsF p.ss), some (tq fg (p.rs.map ruleD)), some .non, none, x, y, u, v]) ∧ DictI (M.del a) a (He.ga K "Panel") [("switches", strsF p.ss), ("rules", tq fg (p.rs.map ruleD)), ("steps", .ptr d)] d q (lits p.ss) (stP (p.rs.zipIdx.take i)) M2) ⟨⟨_, _, _, _, rfl⟩, I.setf _⟩ (fun _ _ _ _ => trivial) ?_ ?_
    · rintro i ⟨r, k⟩ hx Γ' M2 ⟨⟨x, y, u, v, rfl⟩, J⟩
      have hr2 : ruleOk p.ss r = true := p.ru r (by obtain ⟨_, _, e⟩ := List.mem_zipIdx (List.mem_of_getElem? hx); rw [e]; exact List.getElem_mem _)
      have li : i < 240 := by
        have := (List.getElem?_eq_some_iff.mp hx).1
        rw [List.length_zipIdx] at this
        have := p.len
        omega
      (try walk_at "Panel___init__")
      refine for_map (steps r) clD (fun j Γ' M2 => (∃ x y, Γ' = [some (.ptr a), some (strsF p.ss), some (tq fg (p.rs.map ruleD)), some .non, none, some (.int (k : Int)), some (ruleD r), x, y]) ∧ DictI (M.del a) a (He.ga K "Panel") [("switches", strsF p.ss), ("rules", tq fg (p.rs.map ruleD)), ("steps", .ptr d)] d q (lits p.ss) (fun b => stP (p.rs.zipIdx.take i) b ++ (((steps r).take j).filter fun q => decide (q.1 = b)).map fun q => (k, q.2)) M2) ⟨⟨_, _, rfl⟩, J.congr fun b hb => by simp⟩ (fun _ _ _ _ => trivial) ?_ ?_
      · rintro j ⟨one, other⟩ hc Γ' M3 ⟨⟨x, y, rfl⟩, J⟩
        have hs : StepP p.rs one other := ⟨r, by obtain ⟨_, _, e⟩ := List.mem_zipIdx (List.mem_of_getElem? hx); rw [e]; exact List.getElem_mem _, List.mem_of_getElem? hc⟩
        have ho : one ∈ lits p.ss := mem_lits.mpr (step_in p.ru hs).1
        (try walk_at "Panel___init__")
        rw [insR_ptr J.inst]
        have lk : ([("switches", strsF p.ss), ("rules", tq fg (p.rs.map ruleD)), ("steps", .ptr d)] : List (Str × D)).lookup ("steps" : Str) = some (D.ptr d) := rfl
        rw [lk, got_so, dAt_T J.dict keyT_lit, val_map.1 ho, got_so]
        have ce := (J.cells one ho).1
        rw [append_eq ce]
        refine ⟨okL_cell ce, ?_, ⟨_, _, rfl⟩, ?_⟩
        · rw [List.length_map, List.length_append, List.length_map]
          have h1 := stP_len one (p.rs.zipIdx.take i)
          rw [List.length_take] at h1
          have h2 : (((steps r).take j).filter fun q => decide (q.1 = one)).length ≤ ((steps r).take j).length := List.length_filter_le ..
          rw [List.length_take] at h2
          have h3 := steps_len r
          omega
        · refine (J.app ho (k, other)).congr fun b hb => ?_
          rw [tk_one hc, List.filter_append, List.map_append]
          by_cases e : b = one
          · subst e; simp
          · have e2 : ¬ one = b := fun z => e z.symm
            simp [e, e2]
      · rintro Γ' M3 ⟨⟨x, y, rfl⟩, J⟩
        refine ⟨⟨_, _, _, _, rfl⟩, J.congr fun b hb => ?_⟩
        rw [List.take_length]
        unfold stP
        rw [tk_fm hx]
    · rintro Γ' M2 ⟨⟨x, y, u, v, rfl⟩, J⟩
      rw [List.take_length] at J
      exact h M2 J.frame J.fz
theorem mk_Panel (T : Tx P w K mg base) : PubC P w K mg base 5 "Panel" (He.ga K "Panel") ["self", "switches", "rules"] [] (sp_Panel___init__ K) := mkC_D (fnC_Panel T) (by simp) T.mk_Panel T.gc_Panel (fun _ _ _ _ _ _ _ us its h1 h2 => match us, its, h1, h2 with | [_, _, _], [_], _, _ => ⟨_, rfl, rfl⟩)

theorem sc_Panel_read : FnScope ["cls", "text", "parts"] ["cls", "text"] (defScope (inClass (top 34) 1)) := ⟨rfl, rfl, rfl, by decide +kernel, rfl, by decide +kernel, by decide +kernel⟩
def sp_Panel_read (K : PySem.W.Frag) : DSp := fun ds M post => ∃ (p : Pan), ds = [.ptr (He.ga K "Panel"), .str (panT p.ss p.rs)] ∧ post (panD K p.firm) M
theorem cl_Panel_read {C : Addr} {s : Str} {M : Mem} {post : WK} : sp_Panel_read K [.ptr C, .str s] M post = (C = He.ga K "Panel" ∧ ∃ p : Pan, s = panT p.ss p.rs ∧ post (panD K p.firm) M) := by
  unfold sp_Panel_read
  refine propext ⟨fun ⟨p, e, h⟩ => ?_, fun ⟨e, p, e2, h⟩ => ⟨p, by rw [e, e2], h⟩⟩
  simp only [List.cons.injEq, D.ptr.injEq, D.str.injEq, and_true] at e
  exact ⟨e.1, p, e.2, h⟩
local macro_rules | `(tactic| walk_at "Panel_read") => `(tactic| simp only [↓FD.wCM_e, ↓FD.wCMK_e, ↓FD.wMakeV_e, ↓FD.wMethKC_e, ↓FD.wSetSort_e, ↓FD.gSplit_e, ↓FD.gSplitN_e, ↓FD.wSetLenT_e, ↓FD.wRevT_e, ↓FD.wSetLen_e, ↓FD.wRev_e, ↓FD.gDictS_e, ↓FD.gMinS_e, ↓FD.gIndexB_e, ↓FD.gListN_e, ↓FD.gAddC_e, ↓FD.wDispN_e, ↓FD.wMethD_e, ↓FD.gPop0_e, ↓FD.sFin_e, ↓FD.gFldD_e, ↓FD.sCt_e, ↓FD.sFrz_e, ↓FD.gLeS_e, ↓FD.gStrO_e, ↓FD.gBoolO_e, ↓FD.wM0_e, ↓FD.gUpper_e, ↓FD.gUnL_e, ↓FD.sSeq_e, ↓FD.sRet_e, ↓FD.sIf_e, ↓FD.sAsg_e, ↓FD.gSet_e, ↓FD.sDrop_e, ↓FD.sNext_e, ↓FD.sPar_e, ↓FD.sPar3_e, ↓FD.wIf_e, ↓FD.wOp_e, ↓FD.wUn_e, ↓FD.wVar_e, ↓FD.wC_e, ↓FD.wTst_e, ↓FD.wAnd_e, ↓FD.wOr_e, ↓FD.wNot_e, ↓FD.wAndV_e, ↓FD.wOrV_e, ↓FD.wNotV_e, ↓FD.wChain_e, ↓FD.aNil_e, ↓FD.aCons_e, ↓FD.wTup_e, ↓FD.wLst_e, ↓FD.wFtp_e, ↓FD.wNew_e, ↓FD.wCall_e, ↓FD.wB_e, ↓FD.wSl_e, ↓FD.oSome_e, ↓FD.oNone_e, ↓FD.wIsi_e, ↓FD.wIsiC_e, ↓FD.p1_e, ↓FD.p2_e, ↓FD.gLen_e, ↓FD.iLst_e, ↓FD.iTup_e, ↓FD.iStrD_e, ↓FD.iEnT_e, ↓FD.iEnL_e, ↓FD.iRng_e, ↓FD.iRng2_e, ↓FD.gTup_e, ↓FD.gsNil_e, ↓FD.gsCons_e, ↓FD.wM_e, ↓FD.wIxT_e, ↓FD.wFld_e, ↓FD.wMeth_e, ↓FD.wMake_e, ↓FD.sFldD_e, ↓FD.wDGet_e, ↓FD.sDput_e, ↓FD.wDNewK_e, ↓FD.wDNewT_e, ↓FD.wDisp1_e, ↓FD.wIce_e, ↓FD.gSub_e, ↓FD.wCallK_e, ↓FD.t1_e, ↓FD.t2_e, ↓FD.t1w_e, ↓FD.tYesD_e, ↓FD.gDIn_e, ↓FD.gDNin_e, ↓FD.gIndexT_e, ↓FD.gIndex_e, ↓FD.gAbs_e, ↓FD.gMax_e, ↓FD.gMin_e, ↓FD.gDivmod_e, ↓FD.wFz_e, ↓FD.wDGetD_e, ↓FD.t3_e, ↓FD.iZip3D_e, ↓FD.sForIT_e, ↓FD.wIsiO_e, ↓FD.wFmt_e, ↓FD.wTruO_e, ↓FD.gLenO_e, ↓FD.wMakeK_e, ↓FD.gOwn_e, ↓FD.t12_e, ↓FD.iZipMD_e, ↓FD.sForKT_e, ↓FD.wDSetd_e, ↓FD.wVals_e, ↓FD.iRng3_e, ↓FD.iEnS_e, ↓FD.gZ2_eq, ↓zip2_cl, ↓FD.addF_ftp, ↓FD.wPs_nil, ↓FD.wPs_cons, ↓FM.keyed_nil, ↓FM.keyed_str, ↓FM.sortP_lst, ↓FM.sortP_ftp, ↓lk_de_switches, ↓lk_de_rules, ↓lk_de_promises, ↓lk_de_past, ↓lk_de_undo, ↓lk_de_put, ↓lk_de_turn, ↓lk_de_become, ↓lk_de_take, ↓lk_de_promise, ↓lk_de_lift, ↓lk_de_trial, ↓lk_de_as_panel, ↓put_de_past, ↓put_de_promises, ↓lk_sg_setting, ↓lk_sg_log, ↓lk_sg_past, ↓lk_sg_other, ↓insR_stage, ↓lk_bo_panel, ↓lk_bo_setting, ↓lk_bo_log, ↓lk_bo_busy, ↓lk_bo_past, ↓lk_bo_do, ↓lk_bo_do_all, ↓lk_bo_undo, ↓lk_bo_take, ↓lk_bo_trial, ↓lk_bo_is_deed, ↓lk_bo_check_idle, ↓put_bo_setting, ↓put_bo_log, ↓put_bo_busy, ↓put_bo_past, ↓isiO_pan, ↓insT_pan, ↓FD.js_nil, ↓FD.js_cons, ↓FD.wLc2N_eq, ↓FD.addN_lst, ↓sFor_eq, ↓wLc_eq, ↓wLc2_eq, ↓wDc_eq, ↓look_zero, ↓look_succ, ↓got_so, ↓isB_bl, ↓isI_int, ↓isS_str, ↓isT_tup, ↓isT_ftp, ↓isT_ktp, ↓isT_tp, ↓isT_tq, ↓one_one, ↓two_two, ↓startD_cc, ↓startD_cn, ↓startD_nn, ↓FD.ix_str, ↓FD.ix_tup, ↓ix_ftp, ↓ix_ktp, ↓ix_lst, ↓ix_scr, ↓ix_tp, ↓ix_tq, ↓atI0, ↓atI1, ↓atI2, ↓atI3, ↓FD.eq_str, ↓FD.ne_str, ↓FD.eq_int, ↓FD.ne_int, ↓FD.add_int, ↓FD.sub_int, ↓FD.lt_int, ↓FD.le_int, ↓FD.gt_int, ↓FD.ge_int, ↓FD.add_str, ↓FD.add_lst, ↓FD.add_tup, ↓FD.mul_int, ↓FD.mod_int, ↓FD.fdiv_int, ↓FD.pow_int, ↓isN_non, ↓notN_non, ↓FD.len_str, ↓len_tup, ↓len_ftp, ↓len_ktp, ↓len_lst, ↓len_scr, ↓len_tp, ↓len_tq, ↓seq_tup, ↓seq_ftp, ↓seq_ktp, ↓seq_lst, ↓seq_scr, ↓seq_tp, ↓seq_tq, ↓in_tup, ↓in_ftp, ↓in_ktp, ↓in_lst, ↓nin_tup, ↓nin_ftp, ↓nin_ktp, ↓nin_lst, ↓FD.in_str, ↓nin_str, ↓isC_one, ↓asL_lst, ↓asL_scr, ↓if_tt, ↓if_ff, ↓isi_ss, ↓isi_tt, ↓isi_st, ↓isi_ts, ↓ty_str, ↓ty_tup, ↓ty_ftp, ↓ty_ktp, ↓ty_tp, ↓ty_tq, ↓all_lst, ↓any_lst, ↓flat_s, ↓flat_set, ↓tuple_lst, ↓FD.int_int, ↓eq_ftp_nil, ↓ne_ftp_nil, ↓isNon_non, ↓isNon_int, ↓isNon_str, ↓isNon_ptr, ↓isNon_tup, ↓isNon_ftp, ↓inL_strs, ↓flatSs, ↓inL_sets, ↓flatSets, ↓FM.tw, ↓FM.tw3, ↓FM.sl_str, ↓sl_set, ↓cell_upd, ↓lk_sw, ↓lk_ru, ↓lk_st, ↓lk_place, ↓lk_has, ↓lk_keeps, ↓lk_wrongs, ↓lk_goods, ↓lk_ways_from, ↓lk_text, ↓ins_pan, ↓FD.fit_le, ↓cx_K, ↓nox_K, ↓blk_K, ↓bx_K, ↓c1, ↓c2, ↓c3, ↓c4, ↓inL_cons, ↓inL_nil, ↓all_bools, ↓any_bools, ↓in_tp, ↓in_tq, ↓nin_tp, ↓nin_tq, ↓FM.sl_ftp, ↓FM.sl_tup, ↓FM.sl_lst, ↓FM.sl_scr, ↓index_eq, ↓ex_ftp, ↓eqd_str, ↓wf_at, ↓isT_cl, ↓isT_st, ↓isT_lit, ↓ix_lit0, ↓ix_lit1, ↓len_lit, ↓ty_lit, ↓eq_lit, ↓ne_lit, ↓eq_set, ↓ne_set, ↓len_set, ↓ty_set, ↓isS_set, ↓isC_sg, ↓sNever_e, ↓enumD_map, ↓dpAll_strs, ↓dpAll_mapI, ↓ne_lst_nil, ↓eq_lst_nil, ↓isT_grp, ↓len_grp, ↓isDc_wf, ↓wn_at, ↓isT_way, ↓len_way, ↓ty_way, ↓ty_st, ↓len_st, ↓ix_st0, ↓ix_st1, ↓inD_lits, ↓ninD_lits, ↓dpAll_sets, ↓three_three, ↓zip3_sets, ↓isT_z3, ↓inL_lock, ↓ninT_lits, ↓FM.tp_t, ↓FM.tp_f, ↓FM.tq_t, ↓FM.tq_f, ↓isT_pr, ↓tupleP_lst, ↓isT_it, ↓isNon_set, ↓ixN30, ↓ixN31, ↓ixN32, ↓ix_upd, ↓FM.eq_bl, ↓FM.ne_bl, ↓FM.sl_tp, ↓lstOf_lst, ↓okL_lst, ↓gMulS_eq, ↓add_sets, ↓add_setb, ↓add_setp, ↓add_setm, ↓rngE_e, ↓ix_rule0, ↓repr_bb, ↓isB_isD, ↓isB_notD, ↓wLcN_eq, ↓optW_some, ↓optW_none, ↓isNon_way, ↓ne_way0, ↓mulL2, ↓add_rules, ↓add_rulesT, ↓add_rulesF, ↓ne_ftp_sets, ↓ne_ftp_lits, ↓ne_ftp_strs, ↓add_strs, Option.isSome_some, Option.isSome_none, Option.isNone_some, Option.isNone_none, Option.map_some, Option.map_none, isNon_optW, isNon_optL, pick_nil, pick_cons, List.getElem?_cons_zero, List.getElem?_cons_succ, List.nil_append, List.append_nil, List.cons_append, Bool.decide_eq_true, Bool.decide_eq_false, Int.reduceAbs, Int.reduceToNat, Int.reducePow, true_or, or_true, Mem.upd_upd, rng_int, Bool.not_true, Bool.not_false, Bool.false_eq_true, if_false, if_true, true_and, and_true, List.set_cons_zero, List.set_cons_succ, List.length_cons, List.length_nil, List.length_map, eq_self, decide_true, decide_false, Bool.true_eq_false, or_self, Bool.or_self, List.all_cons, List.all_nil, Bool.and_true, Bool.true_and, Bool.or_false, Bool.false_or, Bool.or_true, Bool.true_or, Bool.and_false, Bool.false_and, Int.reduceLT, Int.reduceLE, Int.reduceEq, Nat.reduceLeDiff, Nat.reduceAdd, Nat.reduceLT, wf_some, wn_some, fold_lit, fold_litp, fold_litm, sg_iff, sg_in_pm, isNon_opt, isEmpty_map, ↓reduceIte, nq_0_1, nq_0_2, nq_0_3, nq_0_4, nq_0_5, nq_0_6, nq_0_7, nq_1_0, nq_1_2, nq_1_3, nq_1_4, nq_1_5, nq_1_6, nq_1_7, nq_2_0, nq_2_1, nq_2_3, nq_2_4, nq_2_5, nq_2_6, nq_2_7, nq_3_0, nq_3_1, nq_3_2, nq_3_4, nq_3_5, nq_3_6, nq_3_7, nq_4_0, nq_4_1, nq_4_2, nq_4_3, nq_4_5, nq_4_6, nq_4_7, nq_5_0, nq_5_1, nq_5_2, nq_5_3, nq_5_4, nq_5_6, nq_5_7, nq_6_0, nq_6_1, nq_6_2, nq_6_3, nq_6_4, nq_6_5, nq_6_7, nq_7_0, nq_7_1, nq_7_2, nq_7_3, nq_7_4, nq_7_5, nq_7_6])
theorem fnA_Panel_read (T : Tx P w K mg base) : FnA P w K mg base 7 "read" "Panel.read" (inClass (top 34) 1) (He5.wf K (He.ga K "Panel") "classmethod" "read") ["cls", "text"] (sp_Panel_read K) := by
  have S := sc_Panel_read
  refine fnA_of T.d_Panel_read S (fun ds M post h => by unfold sp_Panel_read at h; grind) fun f cdv A outer s H gd hr => ⟨_, (ds_cons (ds_set (i := 2) S.nd (de_call (ok_panel_in T) (hr.mono (by decide)) gd (da_cons (dv 1) da_nil)))
      (ds_cons (ds_if (dt_cmp o_isN (dv 2) dnon)
      (ds_one ds_never)
      ds_nil)
      (ds_one (ds_ret (de_fz (de_makeV (mk_Panel T) (hr.mono (by decide)) gd (dv 0) (da_cons (de_ix o_ix (dv 2) dint) (da_cons (de_ix o_ix (dv 2) dint) da_nil)))))))), ?_⟩
  rintro ds M post ⟨p, rfl, h⟩
  have lt := (panT_ok (p := p)).2
  (try walk_at "Panel_read")
  refine ⟨_, rfl, .inl ⟨_, rfl, by omega⟩, fun q e => ?_, fun z => absurd rfl (z p)⟩
  have ef := panT_inj (D.str.inj e)
  (try walk_at "Panel_read")
  intro a ha
  refine ⟨a, .t, q.firm, rfl, Mem.upd_same, ?_⟩
  intro M3 le fz
  rw [Mem.del_upd ha] at le fz
  refine ⟨rfl, panD K q.firm, M, le, fz, ?_⟩
  rw [← ef]
  exact h
theorem ok_Panel_read (T : Tx P w K mg base) : PubCM P w K mg base 7 (He.ga K "Panel") "read" ["cls", "text"] (sp_Panel_read K) := (fnA_Panel_read T).cm T.cm_Panel_read (fun _ _ _ _ _ _ us hl => match us, hl with | [_, _], _ => rfl)

theorem sc_Panel_text : FnScope ["self"] ["self"] (defScope (inClass (top 34) 9)) := ⟨rfl, rfl, rfl, by decide +kernel, rfl, by decide +kernel, by decide +kernel⟩
def sp_Panel_text (K : PySem.W.Frag) : DSp := fun ds M post => ∃ (fg : Fg) (p : Pan), ds = [panF K fg p] ∧ post (.str (panT p.ss p.rs)) M
theorem cl_Panel_text {fg : Fg} {p : Pan} {M : Mem} {post : WK} : sp_Panel_text K [panF K fg p] M post = post (.str (panT p.ss p.rs)) M := by
  simp [-Bool.exists_bool, sp_Panel_text, tp_inj, tq_inj, litD_inj, strs_inj, ruleD_inj, clD_inj, setD_inj, rules_inj, lits_inj, sets_inj, ints_inj, panF_inj, rngs_inj, rngE_inj, sg_inj, and_assoc, Int.natCast_inj]
local macro_rules | `(tactic| walk_at "Panel_text") => `(tactic| simp only [↓cl_panel_text, cl_panel_text, ↓FD.wCM_e, ↓FD.wCMK_e, ↓FD.wMakeV_e, ↓FD.wMethKC_e, ↓FD.wSetSort_e, ↓FD.gSplit_e, ↓FD.gSplitN_e, ↓FD.wSetLenT_e, ↓FD.wRevT_e, ↓FD.wSetLen_e, ↓FD.wRev_e, ↓FD.gDictS_e, ↓FD.gMinS_e, ↓FD.gIndexB_e, ↓FD.gListN_e, ↓FD.gAddC_e, ↓FD.wDispN_e, ↓FD.wMethD_e, ↓FD.gPop0_e, ↓FD.sFin_e, ↓FD.gFldD_e, ↓FD.sCt_e, ↓FD.sFrz_e, ↓FD.gLeS_e, ↓FD.gStrO_e, ↓FD.gBoolO_e, ↓FD.wM0_e, ↓FD.gUpper_e, ↓FD.gUnL_e, ↓FD.sSeq_e, ↓FD.sRet_e, ↓FD.sIf_e, ↓FD.sAsg_e, ↓FD.gSet_e, ↓FD.sDrop_e, ↓FD.sNext_e, ↓FD.sPar_e, ↓FD.sPar3_e, ↓FD.wIf_e, ↓FD.wOp_e, ↓FD.wUn_e, ↓FD.wVar_e, ↓FD.wC_e, ↓FD.wTst_e, ↓FD.wAnd_e, ↓FD.wOr_e, ↓FD.wNot_e, ↓FD.wAndV_e, ↓FD.wOrV_e, ↓FD.wNotV_e, ↓FD.wChain_e, ↓FD.aNil_e, ↓FD.aCons_e, ↓FD.wTup_e, ↓FD.wLst_e, ↓FD.wFtp_e, ↓FD.wNew_e, ↓FD.wCall_e, ↓FD.wB_e, ↓FD.wSl_e, ↓FD.oSome_e, ↓FD.oNone_e, ↓FD.wIsi_e, ↓FD.wIsiC_e, ↓FD.p1_e, ↓FD.p2_e, ↓FD.gLen_e, ↓FD.iLst_e, ↓FD.iTup_e, ↓FD.iStrD_e, ↓FD.iEnT_e, ↓FD.iEnL_e, ↓FD.iRng_e, ↓FD.iRng2_e, ↓FD.gTup_e, ↓FD.gsNil_e, ↓FD.gsCons_e, ↓FD.wM_e, ↓FD.wIxT_e, ↓FD.wFld_e, ↓FD.wMeth_e, ↓FD.wMake_e, ↓FD.sFldD_e, ↓FD.wDGet_e, ↓FD.sDput_e, ↓FD.wDNewK_e, ↓FD.wDNewT_e, ↓FD.wDisp1_e, ↓FD.wIce_e, ↓FD.gSub_e, ↓FD.wCallK_e, ↓FD.t1_e, ↓FD.t2_e, ↓FD.t1w_e, ↓FD.tYesD_e, ↓FD.gDIn_e, ↓FD.gDNin_e, ↓FD.gIndexT_e, ↓FD.gIndex_e, ↓FD.gAbs_e, ↓FD.gMax_e, ↓FD.gMin_e, ↓FD.gDivmod_e, ↓FD.wFz_e, ↓FD.wDGetD_e, ↓FD.t3_e, ↓FD.iZip3D_e, ↓FD.sForIT_e, ↓FD.wIsiO_e, ↓FD.wFmt_e, ↓FD.wTruO_e, ↓FD.gLenO_e, ↓FD.wMakeK_e, ↓FD.gOwn_e, ↓FD.t12_e, ↓FD.iZipMD_e, ↓FD.sForKT_e, ↓FD.wDSetd_e, ↓FD.wVals_e, ↓FD.iRng3_e, ↓FD.iEnS_e, ↓FD.gZ2_eq, ↓zip2_cl, ↓FD.addF_ftp, ↓FD.wPs_nil, ↓FD.wPs_cons, ↓FM.keyed_nil, ↓FM.keyed_str, ↓FM.sortP_lst, ↓FM.sortP_ftp, ↓lk_de_switches, ↓lk_de_rules, ↓lk_de_promises, ↓lk_de_past, ↓lk_de_undo, ↓lk_de_put, ↓lk_de_turn, ↓lk_de_become, ↓lk_de_take, ↓lk_de_promise, ↓lk_de_lift, ↓lk_de_trial, ↓lk_de_as_panel, ↓put_de_past, ↓put_de_promises, ↓lk_sg_setting, ↓lk_sg_log, ↓lk_sg_past, ↓lk_sg_other, ↓insR_stage, ↓lk_bo_panel, ↓lk_bo_setting, ↓lk_bo_log, ↓lk_bo_busy, ↓lk_bo_past, ↓lk_bo_do, ↓lk_bo_do_all, ↓lk_bo_undo, ↓lk_bo_take, ↓lk_bo_trial, ↓lk_bo_is_deed, ↓lk_bo_check_idle, ↓put_bo_setting, ↓put_bo_log, ↓put_bo_busy, ↓put_bo_past, ↓isiO_pan, ↓insT_pan, ↓FD.js_nil, ↓FD.js_cons, ↓FD.wLc2N_eq, ↓FD.addN_lst, ↓sFor_eq, ↓wLc_eq, ↓wLc2_eq, ↓wDc_eq, ↓look_zero, ↓look_succ, ↓got_so, ↓isB_bl, ↓isI_int, ↓isS_str, ↓isT_tup, ↓isT_ftp, ↓isT_ktp, ↓isT_tp, ↓isT_tq, ↓one_one, ↓two_two, ↓startD_cc, ↓startD_cn, ↓startD_nn, ↓FD.ix_str, ↓FD.ix_tup, ↓ix_ftp, ↓ix_ktp, ↓ix_lst, ↓ix_scr, ↓ix_tp, ↓ix_tq, ↓atI0, ↓atI1, ↓atI2, ↓atI3, ↓FD.eq_str, ↓FD.ne_str, ↓FD.eq_int, ↓FD.ne_int, ↓FD.add_int, ↓FD.sub_int, ↓FD.lt_int, ↓FD.le_int, ↓FD.gt_int, ↓FD.ge_int, ↓FD.add_str, ↓FD.add_lst, ↓FD.add_tup, ↓FD.mul_int, ↓FD.mod_int, ↓FD.fdiv_int, ↓FD.pow_int, ↓isN_non, ↓notN_non, ↓FD.len_str, ↓len_tup, ↓len_ftp, ↓len_ktp, ↓len_lst, ↓len_scr, ↓len_tp, ↓len_tq, ↓seq_tup, ↓seq_ftp, ↓seq_ktp, ↓seq_lst, ↓seq_scr, ↓seq_tp, ↓seq_tq, ↓in_tup, ↓in_ftp, ↓in_ktp, ↓in_lst, ↓nin_tup, ↓nin_ftp, ↓nin_ktp, ↓nin_lst, ↓FD.in_str, ↓nin_str, ↓isC_one, ↓asL_lst, ↓asL_scr, ↓if_tt, ↓if_ff, ↓isi_ss, ↓isi_tt, ↓isi_st, ↓isi_ts, ↓ty_str, ↓ty_tup, ↓ty_ftp, ↓ty_ktp, ↓ty_tp, ↓ty_tq, ↓all_lst, ↓any_lst, ↓flat_s, ↓flat_set, ↓tuple_lst, ↓FD.int_int, ↓eq_ftp_nil, ↓ne_ftp_nil, ↓isNon_non, ↓isNon_int, ↓isNon_str, ↓isNon_ptr, ↓isNon_tup, ↓isNon_ftp, ↓inL_strs, ↓flatSs, ↓inL_sets, ↓flatSets, ↓FM.tw, ↓FM.tw3, ↓FM.sl_str, ↓sl_set, ↓cell_upd, ↓lk_sw, ↓lk_ru, ↓lk_st, ↓lk_place, ↓lk_has, ↓lk_keeps, ↓lk_wrongs, ↓lk_goods, ↓lk_ways_from, ↓lk_text, ↓ins_pan, ↓FD.fit_le, ↓cx_K, ↓nox_K, ↓blk_K, ↓bx_K, ↓c1, ↓c2, ↓c3, ↓c4, ↓inL_cons, ↓inL_nil, ↓all_bools, ↓any_bools, ↓in_tp, ↓in_tq, ↓nin_tp, ↓nin_tq, ↓FM.sl_ftp, ↓FM.sl_tup, ↓FM.sl_lst, ↓FM.sl_scr, ↓index_eq, ↓ex_ftp, ↓eqd_str, ↓wf_at, ↓isT_cl, ↓isT_st, ↓isT_lit, ↓ix_lit0, ↓ix_lit1, ↓len_lit, ↓ty_lit, ↓eq_lit, ↓ne_lit, ↓eq_set, ↓ne_set, ↓len_set, ↓ty_set, ↓isS_set, ↓isC_sg, ↓sNever_e, ↓enumD_map, ↓dpAll_strs, ↓dpAll_mapI, ↓ne_lst_nil, ↓eq_lst_nil, ↓isT_grp, ↓len_grp, ↓isDc_wf, ↓wn_at, ↓isT_way, ↓len_way, ↓ty_way, ↓ty_st, ↓len_st, ↓ix_st0, ↓ix_st1, ↓inD_lits, ↓ninD_lits, ↓dpAll_sets, ↓three_three, ↓zip3_sets, ↓isT_z3, ↓inL_lock, ↓ninT_lits, ↓FM.tp_t, ↓FM.tp_f, ↓FM.tq_t, ↓FM.tq_f, ↓isT_pr, ↓tupleP_lst, ↓isT_it, ↓isNon_set, ↓ixN30, ↓ixN31, ↓ixN32, ↓ix_upd, ↓FM.eq_bl, ↓FM.ne_bl, ↓FM.sl_tp, ↓lstOf_lst, ↓okL_lst, ↓gMulS_eq, ↓add_sets, ↓add_setb, ↓add_setp, ↓add_setm, ↓rngE_e, ↓ix_rule0, ↓repr_bb, ↓isB_isD, ↓isB_notD, ↓wLcN_eq, ↓optW_some, ↓optW_none, ↓isNon_way, ↓ne_way0, ↓mulL2, ↓add_rules, ↓add_rulesT, ↓add_rulesF, ↓ne_ftp_sets, ↓ne_ftp_lits, ↓ne_ftp_strs, ↓add_strs, Option.isSome_some, Option.isSome_none, Option.isNone_some, Option.isNone_none, Option.map_some, Option.map_none, isNon_optW, isNon_optL, pick_nil, pick_cons, List.getElem?_cons_zero, List.getElem?_cons_succ, List.nil_append, List.append_nil, List.cons_append, Bool.decide_eq_true, Bool.decide_eq_false, Int.reduceAbs, Int.reduceToNat, Int.reducePow, true_or, or_true, Mem.upd_upd, rng_int, Bool.not_true, Bool.not_false, Bool.false_eq_true, if_false, if_true, true_and, and_true, List.set_cons_zero, List.set_cons_succ, List.length_cons, List.length_nil, List.length_map, eq_self, decide_true, decide_false, Bool.true_eq_false, or_self, Bool.or_self, List.all_cons, List.all_nil, Bool.and_true, Bool.true_and, Bool.or_false, Bool.false_or, Bool.or_true, Bool.true_or, Bool.and_false, Bool.false_and, Int.reduceLT, Int.reduceLE, Int.reduceEq, Nat.reduceLeDiff, Nat.reduceAdd, Nat.reduceLT, wf_some, wn_some, fold_lit, fold_litp, fold_litm, sg_iff, sg_in_pm, isNon_opt, isEmpty_map, ↓reduceIte, nq_0_1, nq_0_2, nq_0_3, nq_0_4, nq_0_5, nq_0_6, nq_0_7, nq_1_0, nq_1_2, nq_1_3, nq_1_4, nq_1_5, nq_1_6, nq_1_7, nq_2_0, nq_2_1, nq_2_3, nq_2_4, nq_2_5, nq_2_6, nq_2_7, nq_3_0, nq_3_1, nq_3_2, nq_3_4, nq_3_5, nq_3_6, nq_3_7, nq_4_0, nq_4_1, nq_4_2, nq_4_3, nq_4_5, nq_4_6, nq_4_7, nq_5_0, nq_5_1, nq_5_2, nq_5_3, nq_5_4, nq_5_6, nq_5_7, nq_6_0, nq_6_1, nq_6_2, nq_6_3, nq_6_4, nq_6_5, nq_6_7, nq_7_0, nq_7_1, nq_7_2, nq_7_3, nq_7_4, nq_7_5, nq_7_6])
theorem ok_Panel_text (T : Tx P w K mg base) : PubM P w K mg base 4 (He.ga K "Panel") "text" ["self"] (sp_Panel_text K) := by
  have S := sc_Panel_text
  refine pubM_of T.d_Panel_text T.h_Panel_text S (fun _ _ _ _ _ _ us hl => match us, hl with | [_], _ => rfl) (fun ds M post h => by unfold sp_Panel_text at h; grind) fun f cdv A outer s H gd hr => ⟨_, (ds_one (ds_ret (de_call (ok_panel_text T) (hr.mono (by decide)) gd (da_cons (de_fld T.c_Panel T.n_Panel_switches (dv 0)) (da_cons (de_fld T.c_Panel T.n_Panel_rules (dv 0)) da_nil))))), ?_⟩
  rintro ds M post ⟨fg, p, rfl, h⟩
  (try walk_at "Panel_text")
  exact h

theorem sc_Panel___eq__ : FnScope ["self", "other"] ["self", "other"] (defScope (inClass (top 34) 11)) := ⟨rfl, rfl, rfl, by decide +kernel, rfl, by decide +kernel, by decide +kernel⟩
def sp_Panel___eq__ (K : PySem.W.Frag) : DSp := fun ds M post => ∃ (fg : Fg) (p : Pan) (d : D), ds = [panF K fg p, d] ∧ ((∃ (gg : Fg) (q : Pan), d = panF K gg q ∧ post (.bl (decide (p.ss = q.ss) && rsEq p.rs q.rs)) M) ∨ ((∃ t, tyN M d = some t) ∧ post (.bl false) M))
theorem cl_Panel___eq__ {fg gg : Fg} {p q : Pan} {M : Mem} {post : WK} : sp_Panel___eq__ K [panF K fg p, panF K gg q] M post = post (.bl (decide (p.ss = q.ss) && rsEq p.rs q.rs)) M := by
  unfold sp_Panel___eq__
  refine propext ⟨fun ⟨f, p2, d, e, h⟩ => ?_, fun h => ⟨fg, p, _, rfl, .inl ⟨gg, q, rfl, h⟩⟩⟩
  simp only [List.cons.injEq, panF_inj, and_true] at e
  obtain ⟨⟨rfl, rfl⟩, rfl⟩ := e
  rcases h with ⟨g2, q2, e2, h⟩ | ⟨⟨t, e2⟩, _⟩
  · rw [panF_inj] at e2
    rw [e2.2]; exact h
  · rw [ty_pan] at e2; cases e2
theorem cl_Panel___eq__1 {fg : Fg} {p : Pan} {d : D} {t : String} {M : Mem} {post : WK} (ht : tyN M d = some t) : sp_Panel___eq__ K [panF K fg p, d] M post = post (.bl false) M := by
  unfold sp_Panel___eq__
  refine propext ⟨fun ⟨f, p2, d2, e, h⟩ => ?_, fun h => ⟨fg, p, _, rfl, .inr ⟨⟨t, ht⟩, h⟩⟩⟩
  simp only [List.cons.injEq, panF_inj, and_true] at e
  obtain ⟨⟨rfl, rfl⟩, rfl⟩ := e
  rcases h with ⟨g2, q2, rfl, h⟩ | ⟨_, h⟩
  · rw [ty_pan] at ht; cases ht
  · exact h
local macro_rules | `(tactic| walk_at "Panel___eq__") => `(tactic| simp only [↓FD.wCM_e, ↓FD.wCMK_e, ↓FD.wMakeV_e, ↓FD.wMethKC_e, ↓FD.wSetSort_e, ↓FD.gSplit_e, ↓FD.gSplitN_e, ↓FD.wSetLenT_e, ↓FD.wRevT_e, ↓FD.wSetLen_e, ↓FD.wRev_e, ↓FD.gDictS_e, ↓FD.gMinS_e, ↓FD.gIndexB_e, ↓FD.gListN_e, ↓FD.gAddC_e, ↓FD.wDispN_e, ↓FD.wMethD_e, ↓FD.gPop0_e, ↓FD.sFin_e, ↓FD.gFldD_e, ↓FD.sCt_e, ↓FD.sFrz_e, ↓FD.gLeS_e, ↓FD.gStrO_e, ↓FD.gBoolO_e, ↓FD.wM0_e, ↓FD.gUpper_e, ↓FD.gUnL_e, ↓FD.sSeq_e, ↓FD.sRet_e, ↓FD.sIf_e, ↓FD.sAsg_e, ↓FD.gSet_e, ↓FD.sDrop_e, ↓FD.sNext_e, ↓FD.sPar_e, ↓FD.sPar3_e, ↓FD.wIf_e, ↓FD.wOp_e, ↓FD.wUn_e, ↓FD.wVar_e, ↓FD.wC_e, ↓FD.wTst_e, ↓FD.wAnd_e, ↓FD.wOr_e, ↓FD.wNot_e, ↓FD.wAndV_e, ↓FD.wOrV_e, ↓FD.wNotV_e, ↓FD.wChain_e, ↓FD.aNil_e, ↓FD.aCons_e, ↓FD.wTup_e, ↓FD.wLst_e, ↓FD.wFtp_e, ↓FD.wNew_e, ↓FD.wCall_e, ↓FD.wB_e, ↓FD.wSl_e, ↓FD.oSome_e, ↓FD.oNone_e, ↓FD.wIsi_e, ↓FD.wIsiC_e, ↓FD.p1_e, ↓FD.p2_e, ↓FD.gLen_e, ↓FD.iLst_e, ↓FD.iTup_e, ↓FD.iStrD_e, ↓FD.iEnT_e, ↓FD.iEnL_e, ↓FD.iRng_e, ↓FD.iRng2_e, ↓FD.gTup_e, ↓FD.gsNil_e, ↓FD.gsCons_e, ↓FD.wM_e, ↓FD.wIxT_e, ↓FD.wFld_e, ↓FD.wMeth_e, ↓FD.wMake_e, ↓FD.sFldD_e, ↓FD.wDGet_e, ↓FD.sDput_e, ↓FD.wDNewK_e, ↓FD.wDNewT_e, ↓FD.wDisp1_e, ↓FD.wIce_e, ↓FD.gSub_e, ↓FD.wCallK_e, ↓FD.t1_e, ↓FD.t2_e, ↓FD.t1w_e, ↓FD.tYesD_e, ↓FD.gDIn_e, ↓FD.gDNin_e, ↓FD.gIndexT_e, ↓FD.gIndex_e, ↓FD.gAbs_e, ↓FD.gMax_e, ↓FD.gMin_e, ↓FD.gDivmod_e, ↓FD.wFz_e, ↓FD.wDGetD_e, ↓FD.t3_e, ↓FD.iZip3D_e, ↓FD.sForIT_e, ↓FD.wIsiO_e, ↓FD.wFmt_e, ↓FD.wTruO_e, ↓FD.gLenO_e, ↓FD.wMakeK_e, ↓FD.gOwn_e, ↓FD.t12_e, ↓FD.iZipMD_e, ↓FD.sForKT_e, ↓FD.wDSetd_e, ↓FD.wVals_e, ↓FD.iRng3_e, ↓FD.iEnS_e, ↓FD.gZ2_eq, ↓zip2_cl, ↓FD.addF_ftp, ↓FD.wPs_nil, ↓FD.wPs_cons, ↓FM.keyed_nil, ↓FM.keyed_str, ↓FM.sortP_lst, ↓FM.sortP_ftp, ↓lk_de_switches, ↓lk_de_rules, ↓lk_de_promises, ↓lk_de_past, ↓lk_de_undo, ↓lk_de_put, ↓lk_de_turn, ↓lk_de_become, ↓lk_de_take, ↓lk_de_promise, ↓lk_de_lift, ↓lk_de_trial, ↓lk_de_as_panel, ↓put_de_past, ↓put_de_promises, ↓lk_sg_setting, ↓lk_sg_log, ↓lk_sg_past, ↓lk_sg_other, ↓insR_stage, ↓lk_bo_panel, ↓lk_bo_setting, ↓lk_bo_log, ↓lk_bo_busy, ↓lk_bo_past, ↓lk_bo_do, ↓lk_bo_do_all, ↓lk_bo_undo, ↓lk_bo_take, ↓lk_bo_trial, ↓lk_bo_is_deed, ↓lk_bo_check_idle, ↓put_bo_setting, ↓put_bo_log, ↓put_bo_busy, ↓put_bo_past, ↓isiO_pan, ↓insT_pan, ↓FD.js_nil, ↓FD.js_cons, ↓FD.wLc2N_eq, ↓FD.addN_lst, ↓sFor_eq, ↓wLc_eq, ↓wLc2_eq, ↓wDc_eq, ↓look_zero, ↓look_succ, ↓got_so, ↓isB_bl, ↓isI_int, ↓isS_str, ↓isT_tup, ↓isT_ftp, ↓isT_ktp, ↓isT_tp, ↓isT_tq, ↓one_one, ↓two_two, ↓startD_cc, ↓startD_cn, ↓startD_nn, ↓FD.ix_str, ↓FD.ix_tup, ↓ix_ftp, ↓ix_ktp, ↓ix_lst, ↓ix_scr, ↓ix_tp, ↓ix_tq, ↓atI0, ↓atI1, ↓atI2, ↓atI3, ↓FD.eq_str, ↓FD.ne_str, ↓FD.eq_int, ↓FD.ne_int, ↓FD.add_int, ↓FD.sub_int, ↓FD.lt_int, ↓FD.le_int, ↓FD.gt_int, ↓FD.ge_int, ↓FD.add_str, ↓FD.add_lst, ↓FD.add_tup, ↓FD.mul_int, ↓FD.mod_int, ↓FD.fdiv_int, ↓FD.pow_int, ↓isN_non, ↓notN_non, ↓FD.len_str, ↓len_tup, ↓len_ftp, ↓len_ktp, ↓len_lst, ↓len_scr, ↓len_tp, ↓len_tq, ↓seq_tup, ↓seq_ftp, ↓seq_ktp, ↓seq_lst, ↓seq_scr, ↓seq_tp, ↓seq_tq, ↓in_tup, ↓in_ftp, ↓in_ktp, ↓in_lst, ↓nin_tup, ↓nin_ftp, ↓nin_ktp, ↓nin_lst, ↓FD.in_str, ↓nin_str, ↓isC_one, ↓asL_lst, ↓asL_scr, ↓if_tt, ↓if_ff, ↓isi_ss, ↓isi_tt, ↓isi_st, ↓isi_ts, ↓ty_str, ↓ty_tup, ↓ty_ftp, ↓ty_ktp, ↓ty_tp, ↓ty_tq, ↓all_lst, ↓any_lst, ↓flat_s, ↓flat_set, ↓tuple_lst, ↓FD.int_int, ↓eq_ftp_nil, ↓ne_ftp_nil, ↓isNon_non, ↓isNon_int, ↓isNon_str, ↓isNon_ptr, ↓isNon_tup, ↓isNon_ftp, ↓inL_strs, ↓flatSs, ↓inL_sets, ↓flatSets, ↓FM.tw, ↓FM.tw3, ↓FM.sl_str, ↓sl_set, ↓cell_upd, ↓lk_sw, ↓lk_ru, ↓lk_st, ↓lk_place, ↓lk_has, ↓lk_keeps, ↓lk_wrongs, ↓lk_goods, ↓lk_ways_from, ↓lk_text, ↓ins_pan, ↓FD.fit_le, ↓cx_K, ↓nox_K, ↓blk_K, ↓bx_K, ↓c1, ↓c2, ↓c3, ↓c4, ↓inL_cons, ↓inL_nil, ↓all_bools, ↓any_bools, ↓in_tp, ↓in_tq, ↓nin_tp, ↓nin_tq, ↓FM.sl_ftp, ↓FM.sl_tup, ↓FM.sl_lst, ↓FM.sl_scr, ↓index_eq, ↓ex_ftp, ↓eqd_str, ↓wf_at, ↓isT_cl, ↓isT_st, ↓isT_lit, ↓ix_lit0, ↓ix_lit1, ↓len_lit, ↓ty_lit, ↓eq_lit, ↓ne_lit, ↓eq_set, ↓ne_set, ↓len_set, ↓ty_set, ↓isS_set, ↓isC_sg, ↓sNever_e, ↓enumD_map, ↓dpAll_strs, ↓dpAll_mapI, ↓ne_lst_nil, ↓eq_lst_nil, ↓isT_grp, ↓len_grp, ↓isDc_wf, ↓wn_at, ↓isT_way, ↓len_way, ↓ty_way, ↓ty_st, ↓len_st, ↓ix_st0, ↓ix_st1, ↓inD_lits, ↓ninD_lits, ↓dpAll_sets, ↓three_three, ↓zip3_sets, ↓isT_z3, ↓inL_lock, ↓ninT_lits, ↓FM.tp_t, ↓FM.tp_f, ↓FM.tq_t, ↓FM.tq_f, ↓isT_pr, ↓tupleP_lst, ↓isT_it, ↓isNon_set, ↓ixN30, ↓ixN31, ↓ixN32, ↓ix_upd, ↓FM.eq_bl, ↓FM.ne_bl, ↓FM.sl_tp, ↓lstOf_lst, ↓okL_lst, ↓gMulS_eq, ↓add_sets, ↓add_setb, ↓add_setp, ↓add_setm, ↓rngE_e, ↓ix_rule0, ↓repr_bb, ↓isB_isD, ↓isB_notD, ↓wLcN_eq, ↓optW_some, ↓optW_none, ↓isNon_way, ↓ne_way0, ↓mulL2, ↓add_rules, ↓add_rulesT, ↓add_rulesF, ↓ne_ftp_sets, ↓ne_ftp_lits, ↓ne_ftp_strs, ↓add_strs, Option.isSome_some, Option.isSome_none, Option.isNone_some, Option.isNone_none, Option.map_some, Option.map_none, isNon_optW, isNon_optL, pick_nil, pick_cons, List.getElem?_cons_zero, List.getElem?_cons_succ, List.nil_append, List.append_nil, List.cons_append, Bool.decide_eq_true, Bool.decide_eq_false, Int.reduceAbs, Int.reduceToNat, Int.reducePow, true_or, or_true, Mem.upd_upd, rng_int, Bool.not_true, Bool.not_false, Bool.false_eq_true, if_false, if_true, true_and, and_true, List.set_cons_zero, List.set_cons_succ, List.length_cons, List.length_nil, List.length_map, eq_self, decide_true, decide_false, Bool.true_eq_false, or_self, Bool.or_self, List.all_cons, List.all_nil, Bool.and_true, Bool.true_and, Bool.or_false, Bool.false_or, Bool.or_true, Bool.true_or, Bool.and_false, Bool.false_and, Int.reduceLT, Int.reduceLE, Int.reduceEq, Nat.reduceLeDiff, Nat.reduceAdd, Nat.reduceLT, wf_some, wn_some, fold_lit, fold_litp, fold_litm, sg_iff, sg_in_pm, isNon_opt, isEmpty_map, ↓reduceIte, nq_0_1, nq_0_2, nq_0_3, nq_0_4, nq_0_5, nq_0_6, nq_0_7, nq_1_0, nq_1_2, nq_1_3, nq_1_4, nq_1_5, nq_1_6, nq_1_7, nq_2_0, nq_2_1, nq_2_3, nq_2_4, nq_2_5, nq_2_6, nq_2_7, nq_3_0, nq_3_1, nq_3_2, nq_3_4, nq_3_5, nq_3_6, nq_3_7, nq_4_0, nq_4_1, nq_4_2, nq_4_3, nq_4_5, nq_4_6, nq_4_7, nq_5_0, nq_5_1, nq_5_2, nq_5_3, nq_5_4, nq_5_6, nq_5_7, nq_6_0, nq_6_1, nq_6_2, nq_6_3, nq_6_4, nq_6_5, nq_6_7, nq_7_0, nq_7_1, nq_7_2, nq_7_3, nq_7_4, nq_7_5, nq_7_6])
theorem ok_Panel___eq__ (T : Tx P w K mg base) : PubM P w K mg base 1 (He.ga K "Panel") "__eq__" ["self", "other"] (sp_Panel___eq__ K) := by
  have S := sc_Panel___eq__
  refine pubM_of T.d_Panel___eq__ T.h_Panel___eq__ S (fun _ _ _ _ _ _ us hl => match us, hl with | [_, _], _ => rfl) (fun ds M post h => by unfold sp_Panel___eq__ at h; grind) fun f cdv A outer s H gd hr => ⟨_, (ds_one (ds_ret (de_and (de_isiO T.q_Panel T.nb_Panel (dv 1) T.m_isinstance) (de_and (de_cmp (o_eq hr) (de_fld T.c_Panel T.n_Panel_switches (dv 0)) (de_fld T.c_Panel T.n_Panel_switches (dv 1))) (de_one (de_cmp (o_eq hr) (de_fld T.c_Panel T.n_Panel_rules (dv 0)) (de_fld T.c_Panel T.n_Panel_rules (dv 1)))))))), ?_⟩
  rintro ds M post ⟨fg, p, d, rfl, h⟩
  have dp : ∀ rs : List Rule, dpAll (rs.map ruleD) ≤ 60 := fun rs => Nat.le_trans (dpAll_rules rs) (by omega)
  rcases h with ⟨gg, q, rfl, h⟩ | ⟨⟨t, ht⟩, h⟩
  · have e : ∀ post' : WK, gEq M (strsF p.ss) (strsF q.ss) post' = post' (.bl (decide (p.ss = q.ss))) M := fun post' => eq_names
    (try walk_at "Panel___eq__")
    rw [e]
    (try walk_at "Panel___eq__")
    by_cases c : p.ss = q.ss
    · simp only [c, decide_true, Bool.true_and, if_true] at h ⊢
      (try walk_at "Panel___eq__")
      rw [eq_rules (dp _) (dp _)]
      (try walk_at "Panel___eq__")
      exact h
    · simp only [c, decide_false, Bool.false_and, Bool.false_eq_true, if_false] at h ⊢
      (try walk_at "Panel___eq__")
      exact h
  · (try walk_at "Panel___eq__")
    rw [isiO_no ht]
    (try walk_at "Panel___eq__")
    exact h

theorem sc_Panel___str__ : FnScope ["self"] ["self"] (defScope (inClass (top 34) 10)) := ⟨rfl, rfl, rfl, by decide +kernel, rfl, by decide +kernel, by decide +kernel⟩
def sp_Panel___str__ (K : PySem.W.Frag) : DSp := fun ds M post => ∃ (fg : Fg) (p : Pan), ds = [panF K fg p] ∧ post (.str (panT p.ss p.rs)) M
theorem cl_Panel___str__ {fg : Fg} {p : Pan} {M : Mem} {post : WK} : sp_Panel___str__ K [panF K fg p] M post = post (.str (panT p.ss p.rs)) M := by
  simp [-Bool.exists_bool, sp_Panel___str__, tp_inj, tq_inj, litD_inj, strs_inj, ruleD_inj, clD_inj, setD_inj, rules_inj, lits_inj, sets_inj, ints_inj, panF_inj, rngs_inj, rngE_inj, sg_inj, and_assoc, Int.natCast_inj]
local macro_rules | `(tactic| walk_at "Panel___str__") => `(tactic| simp only [↓cl_Panel_text, cl_Panel_text, ↓FD.wCM_e, ↓FD.wCMK_e, ↓FD.wMakeV_e, ↓FD.wMethKC_e, ↓FD.wSetSort_e, ↓FD.gSplit_e, ↓FD.gSplitN_e, ↓FD.wSetLenT_e, ↓FD.wRevT_e, ↓FD.wSetLen_e, ↓FD.wRev_e, ↓FD.gDictS_e, ↓FD.gMinS_e, ↓FD.gIndexB_e, ↓FD.gListN_e, ↓FD.gAddC_e, ↓FD.wDispN_e, ↓FD.wMethD_e, ↓FD.gPop0_e, ↓FD.sFin_e, ↓FD.gFldD_e, ↓FD.sCt_e, ↓FD.sFrz_e, ↓FD.gLeS_e, ↓FD.gStrO_e, ↓FD.gBoolO_e, ↓FD.wM0_e, ↓FD.gUpper_e, ↓FD.gUnL_e, ↓FD.sSeq_e, ↓FD.sRet_e, ↓FD.sIf_e, ↓FD.sAsg_e, ↓FD.gSet_e, ↓FD.sDrop_e, ↓FD.sNext_e, ↓FD.sPar_e, ↓FD.sPar3_e, ↓FD.wIf_e, ↓FD.wOp_e, ↓FD.wUn_e, ↓FD.wVar_e, ↓FD.wC_e, ↓FD.wTst_e, ↓FD.wAnd_e, ↓FD.wOr_e, ↓FD.wNot_e, ↓FD.wAndV_e, ↓FD.wOrV_e, ↓FD.wNotV_e, ↓FD.wChain_e, ↓FD.aNil_e, ↓FD.aCons_e, ↓FD.wTup_e, ↓FD.wLst_e, ↓FD.wFtp_e, ↓FD.wNew_e, ↓FD.wCall_e, ↓FD.wB_e, ↓FD.wSl_e, ↓FD.oSome_e, ↓FD.oNone_e, ↓FD.wIsi_e, ↓FD.wIsiC_e, ↓FD.p1_e, ↓FD.p2_e, ↓FD.gLen_e, ↓FD.iLst_e, ↓FD.iTup_e, ↓FD.iStrD_e, ↓FD.iEnT_e, ↓FD.iEnL_e, ↓FD.iRng_e, ↓FD.iRng2_e, ↓FD.gTup_e, ↓FD.gsNil_e, ↓FD.gsCons_e, ↓FD.wM_e, ↓FD.wIxT_e, ↓FD.wFld_e, ↓FD.wMeth_e, ↓FD.wMake_e, ↓FD.sFldD_e, ↓FD.wDGet_e, ↓FD.sDput_e, ↓FD.wDNewK_e, ↓FD.wDNewT_e, ↓FD.wDisp1_e, ↓FD.wIce_e, ↓FD.gSub_e, ↓FD.wCallK_e, ↓FD.t1_e, ↓FD.t2_e, ↓FD.t1w_e, ↓FD.tYesD_e, ↓FD.gDIn_e, ↓FD.gDNin_e, ↓FD.gIndexT_e, ↓FD.gIndex_e, ↓FD.gAbs_e, ↓FD.gMax_e, ↓FD.gMin_e, ↓FD.gDivmod_e, ↓FD.wFz_e, ↓FD.wDGetD_e, ↓FD.t3_e, ↓FD.iZip3D_e, ↓FD.sForIT_e, ↓FD.wIsiO_e, ↓FD.wFmt_e, ↓FD.wTruO_e, ↓FD.gLenO_e, ↓FD.wMakeK_e, ↓FD.gOwn_e, ↓FD.t12_e, ↓FD.iZipMD_e, ↓FD.sForKT_e, ↓FD.wDSetd_e, ↓FD.wVals_e, ↓FD.iRng3_e, ↓FD.iEnS_e, ↓FD.gZ2_eq, ↓zip2_cl, ↓FD.addF_ftp, ↓FD.wPs_nil, ↓FD.wPs_cons, ↓FM.keyed_nil, ↓FM.keyed_str, ↓FM.sortP_lst, ↓FM.sortP_ftp, ↓lk_de_switches, ↓lk_de_rules, ↓lk_de_promises, ↓lk_de_past, ↓lk_de_undo, ↓lk_de_put, ↓lk_de_turn, ↓lk_de_become, ↓lk_de_take, ↓lk_de_promise, ↓lk_de_lift, ↓lk_de_trial, ↓lk_de_as_panel, ↓put_de_past, ↓put_de_promises, ↓lk_sg_setting, ↓lk_sg_log, ↓lk_sg_past, ↓lk_sg_other, ↓insR_stage, ↓lk_bo_panel, ↓lk_bo_setting, ↓lk_bo_log, ↓lk_bo_busy, ↓lk_bo_past, ↓lk_bo_do, ↓lk_bo_do_all, ↓lk_bo_undo, ↓lk_bo_take, ↓lk_bo_trial, ↓lk_bo_is_deed, ↓lk_bo_check_idle, ↓put_bo_setting, ↓put_bo_log, ↓put_bo_busy, ↓put_bo_past, ↓isiO_pan, ↓insT_pan, ↓FD.js_nil, ↓FD.js_cons, ↓FD.wLc2N_eq, ↓FD.addN_lst, ↓sFor_eq, ↓wLc_eq, ↓wLc2_eq, ↓wDc_eq, ↓look_zero, ↓look_succ, ↓got_so, ↓isB_bl, ↓isI_int, ↓isS_str, ↓isT_tup, ↓isT_ftp, ↓isT_ktp, ↓isT_tp, ↓isT_tq, ↓one_one, ↓two_two, ↓startD_cc, ↓startD_cn, ↓startD_nn, ↓FD.ix_str, ↓FD.ix_tup, ↓ix_ftp, ↓ix_ktp, ↓ix_lst, ↓ix_scr, ↓ix_tp, ↓ix_tq, ↓atI0, ↓atI1, ↓atI2, ↓atI3, ↓FD.eq_str, ↓FD.ne_str, ↓FD.eq_int, ↓FD.ne_int, ↓FD.add_int, ↓FD.sub_int, ↓FD.lt_int, ↓FD.le_int, ↓FD.gt_int, ↓FD.ge_int, ↓FD.add_str, ↓FD.add_lst, ↓FD.add_tup, ↓FD.mul_int, ↓FD.mod_int, ↓FD.fdiv_int, ↓FD.pow_int, ↓isN_non, ↓notN_non, ↓FD.len_str, ↓len_tup, ↓len_ftp, ↓len_ktp, ↓len_lst, ↓len_scr, ↓len_tp, ↓len_tq, ↓seq_tup, ↓seq_ftp, ↓seq_ktp, ↓seq_lst, ↓seq_scr, ↓seq_tp, ↓seq_tq, ↓in_tup, ↓in_ftp, ↓in_ktp, ↓in_lst, ↓nin_tup, ↓nin_ftp, ↓nin_ktp, ↓nin_lst, ↓FD.in_str, ↓nin_str, ↓isC_one, ↓asL_lst, ↓asL_scr, ↓if_tt, ↓if_ff, ↓isi_ss, ↓isi_tt, ↓isi_st, ↓isi_ts, ↓ty_str, ↓ty_tup, ↓ty_ftp, ↓ty_ktp, ↓ty_tp, ↓ty_tq, ↓all_lst, ↓any_lst, ↓flat_s, ↓flat_set, ↓tuple_lst, ↓FD.int_int, ↓eq_ftp_nil, ↓ne_ftp_nil, ↓isNon_non, ↓isNon_int, ↓isNon_str, ↓isNon_ptr, ↓isNon_tup, ↓isNon_ftp, ↓inL_strs, ↓flatSs, ↓inL_sets, ↓flatSets, ↓FM.tw, ↓FM.tw3, ↓FM.sl_str, ↓sl_set, ↓cell_upd, ↓lk_sw, ↓lk_ru, ↓lk_st, ↓lk_place, ↓lk_has, ↓lk_keeps, ↓lk_wrongs, ↓lk_goods, ↓lk_ways_from, ↓lk_text, ↓ins_pan, ↓FD.fit_le, ↓cx_K, ↓nox_K, ↓blk_K, ↓bx_K, ↓c1, ↓c2, ↓c3, ↓c4, ↓inL_cons, ↓inL_nil, ↓all_bools, ↓any_bools, ↓in_tp, ↓in_tq, ↓nin_tp, ↓nin_tq, ↓FM.sl_ftp, ↓FM.sl_tup, ↓FM.sl_lst, ↓FM.sl_scr, ↓index_eq, ↓ex_ftp, ↓eqd_str, ↓wf_at, ↓isT_cl, ↓isT_st, ↓isT_lit, ↓ix_lit0, ↓ix_lit1, ↓len_lit, ↓ty_lit, ↓eq_lit, ↓ne_lit, ↓eq_set, ↓ne_set, ↓len_set, ↓ty_set, ↓isS_set, ↓isC_sg, ↓sNever_e, ↓enumD_map, ↓dpAll_strs, ↓dpAll_mapI, ↓ne_lst_nil, ↓eq_lst_nil, ↓isT_grp, ↓len_grp, ↓isDc_wf, ↓wn_at, ↓isT_way, ↓len_way, ↓ty_way, ↓ty_st, ↓len_st, ↓ix_st0, ↓ix_st1, ↓inD_lits, ↓ninD_lits, ↓dpAll_sets, ↓three_three, ↓zip3_sets, ↓isT_z3, ↓inL_lock, ↓ninT_lits, ↓FM.tp_t, ↓FM.tp_f, ↓FM.tq_t, ↓FM.tq_f, ↓isT_pr, ↓tupleP_lst, ↓isT_it, ↓isNon_set, ↓ixN30, ↓ixN31, ↓ixN32, ↓ix_upd, ↓FM.eq_bl, ↓FM.ne_bl, ↓FM.sl_tp, ↓lstOf_lst, ↓okL_lst, ↓gMulS_eq, ↓add_sets, ↓add_setb, ↓add_setp, ↓add_setm, ↓rngE_e, ↓ix_rule0, ↓repr_bb, ↓isB_isD, ↓isB_notD, ↓wLcN_eq, ↓optW_some, ↓optW_none, ↓isNon_way, ↓ne_way0, ↓mulL2, ↓add_rules, ↓add_rulesT, ↓add_rulesF, ↓ne_ftp_sets, ↓ne_ftp_lits, ↓ne_ftp_strs, ↓add_strs, Option.isSome_some, Option.isSome_none, Option.isNone_some, Option.isNone_none, Option.map_some, Option.map_none, isNon_optW, isNon_optL, pick_nil, pick_cons, List.getElem?_cons_zero, List.getElem?_cons_succ, List.nil_append, List.append_nil, List.cons_append, Bool.decide_eq_true, Bool.decide_eq_false, Int.reduceAbs, Int.reduceToNat, Int.reducePow, true_or, or_true, Mem.upd_upd, rng_int, Bool.not_true, Bool.not_false, Bool.false_eq_true, if_false, if_true, true_and, and_true, List.set_cons_zero, List.set_cons_succ, List.length_cons, List.length_nil, List.length_map, eq_self, decide_true, decide_false, Bool.true_eq_false, or_self, Bool.or_self, List.all_cons, List.all_nil, Bool.and_true, Bool.true_and, Bool.or_false, Bool.false_or, Bool.or_true, Bool.true_or, Bool.and_false, Bool.false_and, Int.reduceLT, Int.reduceLE, Int.reduceEq, Nat.reduceLeDiff, Nat.reduceAdd, Nat.reduceLT, wf_some, wn_some, fold_lit, fold_litp, fold_litm, sg_iff, sg_in_pm, isNon_opt, isEmpty_map, ↓reduceIte, nq_0_1, nq_0_2, nq_0_3, nq_0_4, nq_0_5, nq_0_6, nq_0_7, nq_1_0, nq_1_2, nq_1_3, nq_1_4, nq_1_5, nq_1_6, nq_1_7, nq_2_0, nq_2_1, nq_2_3, nq_2_4, nq_2_5, nq_2_6, nq_2_7, nq_3_0, nq_3_1, nq_3_2, nq_3_4, nq_3_5, nq_3_6, nq_3_7, nq_4_0, nq_4_1, nq_4_2, nq_4_3, nq_4_5, nq_4_6, nq_4_7, nq_5_0, nq_5_1, nq_5_2, nq_5_3, nq_5_4, nq_5_6, nq_5_7, nq_6_0, nq_6_1, nq_6_2, nq_6_3, nq_6_4, nq_6_5, nq_6_7, nq_7_0, nq_7_1, nq_7_2, nq_7_3, nq_7_4, nq_7_5, nq_7_6])
theorem ok_Panel___str__ (T : Tx P w K mg base) : PubM P w K mg base 5 (He.ga K "Panel") "__str__" ["self"] (sp_Panel___str__ K) := by
  have S := sc_Panel___str__
  refine pubM_of T.d_Panel___str__ T.h_Panel___str__ S (fun _ _ _ _ _ _ us hl => match us, hl with | [_], _ => rfl) (fun ds M post h => by unfold sp_Panel___str__ at h; grind) fun f cdv A outer s H gd hr => ⟨_, (ds_one (ds_ret (de_joined1 (de_fmt (de_meth0 T.c_Panel (ok_Panel_text T) (hr.mono (by decide)) gd (dv 0)))))), ?_⟩
  rintro ds M post ⟨fg, p, rfl, h⟩
  (try walk_at "Panel___str__")
  exact h

theorem sc_law_draw : FnScope ["_law_bag_here", "_law_wide", "_law_figure", "_law_held", "_law_times"] ["_law_bag_here", "_law_wide"] (defScope (top 37)) := ⟨rfl, rfl, rfl, by decide +kernel, rfl, by decide +kernel, by decide +kernel⟩
def sp_law_draw : DSp := fun ds M post => ∃ (j : Addr) (n : Int), ds = [.ptr j, .int n] ∧ (Jg M j ∧ 0 < n ∧ n < 1073741824 ∧ ∀ v : Nat, (v : Int) < n → ∀ M', Jm j M M' → post (.int (v : Int)) M')
theorem cl_law_draw {j : Addr} {n : Int} {M : Mem} {post : WK} : sp_law_draw [.ptr j, .int n] M post = (Jg M j ∧ 0 < n ∧ n < 1073741824 ∧ ∀ v : Nat, (v : Int) < n → ∀ M', Jm j M M' → post (.int (v : Int)) M') := by
  simp [-Bool.exists_bool, sp_law_draw, tp_inj, tq_inj, litD_inj, strs_inj, ruleD_inj, clD_inj, setD_inj, rules_inj, lits_inj, sets_inj, ints_inj, panF_inj, rngs_inj, rngE_inj, sg_inj, and_assoc, Int.natCast_inj]
local macro_rules | `(tactic| walk_at "law_draw") => `(tactic| simp only [↓FD.wCM_e, ↓FD.wCMK_e, ↓FD.wMakeV_e, ↓FD.wMethKC_e, ↓FD.wSetSort_e, ↓FD.gSplit_e, ↓FD.gSplitN_e, ↓FD.wSetLenT_e, ↓FD.wRevT_e, ↓FD.wSetLen_e, ↓FD.wRev_e, ↓FD.gDictS_e, ↓FD.gMinS_e, ↓FD.gIndexB_e, ↓FD.gListN_e, ↓FD.gAddC_e, ↓FD.wDispN_e, ↓FD.wMethD_e, ↓FD.gPop0_e, ↓FD.sFin_e, ↓FD.gFldD_e, ↓FD.sCt_e, ↓FD.sFrz_e, ↓FD.gLeS_e, ↓FD.gStrO_e, ↓FD.gBoolO_e, ↓FD.wM0_e, ↓FD.gUpper_e, ↓FD.gUnL_e, ↓FD.sSeq_e, ↓FD.sRet_e, ↓FD.sIf_e, ↓FD.sAsg_e, ↓FD.gSet_e, ↓FD.sDrop_e, ↓FD.sNext_e, ↓FD.sPar_e, ↓FD.sPar3_e, ↓FD.wIf_e, ↓FD.wOp_e, ↓FD.wUn_e, ↓FD.wVar_e, ↓FD.wC_e, ↓FD.wTst_e, ↓FD.wAnd_e, ↓FD.wOr_e, ↓FD.wNot_e, ↓FD.wAndV_e, ↓FD.wOrV_e, ↓FD.wNotV_e, ↓FD.wChain_e, ↓FD.aNil_e, ↓FD.aCons_e, ↓FD.wTup_e, ↓FD.wLst_e, ↓FD.wFtp_e, ↓FD.wNew_e, ↓FD.wCall_e, ↓FD.wB_e, ↓FD.wSl_e, ↓FD.oSome_e, ↓FD.oNone_e, ↓FD.wIsi_e, ↓FD.wIsiC_e, ↓FD.p1_e, ↓FD.p2_e, ↓FD.gLen_e, ↓FD.iLst_e, ↓FD.iTup_e, ↓FD.iStrD_e, ↓FD.iEnT_e, ↓FD.iEnL_e, ↓FD.iRng_e, ↓FD.iRng2_e, ↓FD.gTup_e, ↓FD.gsNil_e, ↓FD.gsCons_e, ↓FD.wM_e, ↓FD.wIxT_e, ↓FD.wFld_e, ↓FD.wMeth_e, ↓FD.wMake_e, ↓FD.sFldD_e, ↓FD.wDGet_e, ↓FD.sDput_e, ↓FD.wDNewK_e, ↓FD.wDNewT_e, ↓FD.wDisp1_e, ↓FD.wIce_e, ↓FD.gSub_e, ↓FD.wCallK_e, ↓FD.t1_e, ↓FD.t2_e, ↓FD.t1w_e, ↓FD.tYesD_e, ↓FD.gDIn_e, ↓FD.gDNin_e, ↓FD.gIndexT_e, ↓FD.gIndex_e, ↓FD.gAbs_e, ↓FD.gMax_e, ↓FD.gMin_e, ↓FD.gDivmod_e, ↓FD.wFz_e, ↓FD.wDGetD_e, ↓FD.t3_e, ↓FD.iZip3D_e, ↓FD.sForIT_e, ↓FD.wIsiO_e, ↓FD.wFmt_e, ↓FD.wTruO_e, ↓FD.gLenO_e, ↓FD.wMakeK_e, ↓FD.gOwn_e, ↓FD.t12_e, ↓FD.iZipMD_e, ↓FD.sForKT_e, ↓FD.wDSetd_e, ↓FD.wVals_e, ↓FD.iRng3_e, ↓FD.iEnS_e, ↓FD.gZ2_eq, ↓zip2_cl, ↓FD.addF_ftp, ↓FD.wPs_nil, ↓FD.wPs_cons, ↓FM.keyed_nil, ↓FM.keyed_str, ↓FM.sortP_lst, ↓FM.sortP_ftp, ↓lk_de_switches, ↓lk_de_rules, ↓lk_de_promises, ↓lk_de_past, ↓lk_de_undo, ↓lk_de_put, ↓lk_de_turn, ↓lk_de_become, ↓lk_de_take, ↓lk_de_promise, ↓lk_de_lift, ↓lk_de_trial, ↓lk_de_as_panel, ↓put_de_past, ↓put_de_promises, ↓lk_sg_setting, ↓lk_sg_log, ↓lk_sg_past, ↓lk_sg_other, ↓insR_stage, ↓lk_bo_panel, ↓lk_bo_setting, ↓lk_bo_log, ↓lk_bo_busy, ↓lk_bo_past, ↓lk_bo_do, ↓lk_bo_do_all, ↓lk_bo_undo, ↓lk_bo_take, ↓lk_bo_trial, ↓lk_bo_is_deed, ↓lk_bo_check_idle, ↓put_bo_setting, ↓put_bo_log, ↓put_bo_busy, ↓put_bo_past, ↓isiO_pan, ↓insT_pan, ↓FD.js_nil, ↓FD.js_cons, ↓FD.wLc2N_eq, ↓FD.addN_lst, ↓sFor_eq, ↓wLc_eq, ↓wLc2_eq, ↓wDc_eq, ↓look_zero, ↓look_succ, ↓got_so, ↓isB_bl, ↓isI_int, ↓isS_str, ↓isT_tup, ↓isT_ftp, ↓isT_ktp, ↓isT_tp, ↓isT_tq, ↓one_one, ↓two_two, ↓startD_cc, ↓startD_cn, ↓startD_nn, ↓FD.ix_str, ↓FD.ix_tup, ↓ix_ftp, ↓ix_ktp, ↓ix_lst, ↓ix_scr, ↓ix_tp, ↓ix_tq, ↓atI0, ↓atI1, ↓atI2, ↓atI3, ↓FD.eq_str, ↓FD.ne_str, ↓FD.eq_int, ↓FD.ne_int, ↓FD.add_int, ↓FD.sub_int, ↓FD.lt_int, ↓FD.le_int, ↓FD.gt_int, ↓FD.ge_int, ↓FD.add_str, ↓FD.add_lst, ↓FD.add_tup, ↓FD.mul_int, ↓FD.mod_int, ↓FD.fdiv_int, ↓FD.pow_int, ↓isN_non, ↓notN_non, ↓FD.len_str, ↓len_tup, ↓len_ftp, ↓len_ktp, ↓len_lst, ↓len_scr, ↓len_tp, ↓len_tq, ↓seq_tup, ↓seq_ftp, ↓seq_ktp, ↓seq_lst, ↓seq_scr, ↓seq_tp, ↓seq_tq, ↓in_tup, ↓in_ftp, ↓in_ktp, ↓in_lst, ↓nin_tup, ↓nin_ftp, ↓nin_ktp, ↓nin_lst, ↓FD.in_str, ↓nin_str, ↓isC_one, ↓asL_lst, ↓asL_scr, ↓if_tt, ↓if_ff, ↓isi_ss, ↓isi_tt, ↓isi_st, ↓isi_ts, ↓ty_str, ↓ty_tup, ↓ty_ftp, ↓ty_ktp, ↓ty_tp, ↓ty_tq, ↓all_lst, ↓any_lst, ↓flat_s, ↓flat_set, ↓tuple_lst, ↓FD.int_int, ↓eq_ftp_nil, ↓ne_ftp_nil, ↓isNon_non, ↓isNon_int, ↓isNon_str, ↓isNon_ptr, ↓isNon_tup, ↓isNon_ftp, ↓inL_strs, ↓flatSs, ↓inL_sets, ↓flatSets, ↓FM.tw, ↓FM.tw3, ↓FM.sl_str, ↓sl_set, ↓cell_upd, ↓lk_sw, ↓lk_ru, ↓lk_st, ↓lk_place, ↓lk_has, ↓lk_keeps, ↓lk_wrongs, ↓lk_goods, ↓lk_ways_from, ↓lk_text, ↓ins_pan, ↓FD.fit_le, ↓cx_K, ↓nox_K, ↓blk_K, ↓bx_K, ↓c1, ↓c2, ↓c3, ↓c4, ↓inL_cons, ↓inL_nil, ↓all_bools, ↓any_bools, ↓in_tp, ↓in_tq, ↓nin_tp, ↓nin_tq, ↓FM.sl_ftp, ↓FM.sl_tup, ↓FM.sl_lst, ↓FM.sl_scr, ↓index_eq, ↓ex_ftp, ↓eqd_str, ↓wf_at, ↓isT_cl, ↓isT_st, ↓isT_lit, ↓ix_lit0, ↓ix_lit1, ↓len_lit, ↓ty_lit, ↓eq_lit, ↓ne_lit, ↓eq_set, ↓ne_set, ↓len_set, ↓ty_set, ↓isS_set, ↓isC_sg, ↓sNever_e, ↓enumD_map, ↓dpAll_strs, ↓dpAll_mapI, ↓ne_lst_nil, ↓eq_lst_nil, ↓isT_grp, ↓len_grp, ↓isDc_wf, ↓wn_at, ↓isT_way, ↓len_way, ↓ty_way, ↓ty_st, ↓len_st, ↓ix_st0, ↓ix_st1, ↓inD_lits, ↓ninD_lits, ↓dpAll_sets, ↓three_three, ↓zip3_sets, ↓isT_z3, ↓inL_lock, ↓ninT_lits, ↓FM.tp_t, ↓FM.tp_f, ↓FM.tq_t, ↓FM.tq_f, ↓isT_pr, ↓tupleP_lst, ↓isT_it, ↓isNon_set, ↓ixN30, ↓ixN31, ↓ixN32, ↓ix_upd, ↓FM.eq_bl, ↓FM.ne_bl, ↓FM.sl_tp, ↓lstOf_lst, ↓okL_lst, ↓gMulS_eq, ↓add_sets, ↓add_setb, ↓add_setp, ↓add_setm, ↓rngE_e, ↓ix_rule0, ↓repr_bb, ↓isB_isD, ↓isB_notD, ↓wLcN_eq, ↓optW_some, ↓optW_none, ↓isNon_way, ↓ne_way0, ↓mulL2, ↓add_rules, ↓add_rulesT, ↓add_rulesF, ↓ne_ftp_sets, ↓ne_ftp_lits, ↓ne_ftp_strs, ↓add_strs, Option.isSome_some, Option.isSome_none, Option.isNone_some, Option.isNone_none, Option.map_some, Option.map_none, isNon_optW, isNon_optL, pick_nil, pick_cons, List.getElem?_cons_zero, List.getElem?_cons_succ, List.nil_append, List.append_nil, List.cons_append, Bool.decide_eq_true, Bool.decide_eq_false, Int.reduceAbs, Int.reduceToNat, Int.reducePow, true_or, or_true, Mem.upd_upd, rng_int, Bool.not_true, Bool.not_false, Bool.false_eq_true, if_false, if_true, true_and, and_true, List.set_cons_zero, List.set_cons_succ, List.length_cons, List.length_nil, List.length_map, eq_self, decide_true, decide_false, Bool.true_eq_false, or_self, Bool.or_self, List.all_cons, List.all_nil, Bool.and_true, Bool.true_and, Bool.or_false, Bool.false_or, Bool.or_true, Bool.true_or, Bool.and_false, Bool.false_and, Int.reduceLT, Int.reduceLE, Int.reduceEq, Nat.reduceLeDiff, Nat.reduceAdd, Nat.reduceLT, wf_some, wn_some, fold_lit, fold_litp, fold_litm, sg_iff, sg_in_pm, isNon_opt, isEmpty_map, ↓reduceIte, nq_0_1, nq_0_2, nq_0_3, nq_0_4, nq_0_5, nq_0_6, nq_0_7, nq_1_0, nq_1_2, nq_1_3, nq_1_4, nq_1_5, nq_1_6, nq_1_7, nq_2_0, nq_2_1, nq_2_3, nq_2_4, nq_2_5, nq_2_6, nq_2_7, nq_3_0, nq_3_1, nq_3_2, nq_3_4, nq_3_5, nq_3_6, nq_3_7, nq_4_0, nq_4_1, nq_4_2, nq_4_3, nq_4_5, nq_4_6, nq_4_7, nq_5_0, nq_5_1, nq_5_2, nq_5_3, nq_5_4, nq_5_6, nq_5_7, nq_6_0, nq_6_1, nq_6_2, nq_6_3, nq_6_4, nq_6_5, nq_6_7, nq_7_0, nq_7_1, nq_7_2, nq_7_3, nq_7_4, nq_7_5, nq_7_6])
theorem fn_law_draw (T : Tx P w K mg base) : Fng P w K mg base 1 "_law_draw" (top 37) ["_law_bag_here", "_law_wide"] sp_law_draw := by
  have S := sc_law_draw
  refine fng_of T.d_law_draw T.g_law_draw S (fun ds M post h => by unfold sp_law_draw at h; grind) fun f cdv A outer s H gd hr => ⟨_, (ds_cons (ds_asg (de_op o_add (de_ix o_ix (dv 0) dint) dint) (dg_sub (dv 0) dint))
      (ds_cons (ds_if (dt_cmp o_gt (de_ix o_ix (dv 0) dint) dint)
      (ds_cons (ds_set (i := 2) S.nd (de_op o_mod (de_ty c_int T.m_int (by decide +kernel) (da_cons (de_ix o_ix (dv 0) dint) da_nil)) (dv 1)))
      (ds_cons (ds_asg (de_op o_fdiv (de_ix o_ix (dv 0) dint) (dv 1)) (dg_sub (dv 0) dint))
      (ds_one (ds_ret (dv 2)))))
      ds_nil)
      (ds_cons (ds_set (i := 3) S.nd (de_op o_add (de_ty c_int T.m_int (by decide +kernel) (da_cons (de_ix o_ix (dv 0) dint) da_nil)) (de_op o_mul dint (de_ix o_ix (dv 0) dint))))
      (ds_cons (ds_set (i := 4) S.nd (de_op o_add (de_op o_mod (de_ty c_int T.m_int (by decide +kernel) (da_cons (dv 3) da_nil)) dint) dint))
      (ds_cons (ds_asg (de_op o_mod (de_ty c_int T.m_int (by decide +kernel) (da_cons (de_op o_add (de_op o_add (de_op o_mul (dv 3) (dv 4)) (de_op o_mul dint (de_ix o_ix (dv 0) dint))) dint) da_nil)) dint) (dg_sub (dv 0) dint))
      (ds_one (ds_ret (de_op o_mod (de_op o_fdiv (de_ty c_int T.m_int (by decide +kernel) (da_cons (de_ix o_ix (dv 0) dint) da_nil)) dint) (dv 1))))))))), ?_⟩
  rintro ds M post ⟨j, n, rfl, ⟨a, b, c, e⟩, h0, h1, h⟩
  have up : ∀ x y z, Jm j M (M.upd j (.lst [.int x, .int y, .int z])) := fun x y z => ⟨x, y, z, rfl⟩
  rw [jg_upd e]
  (try walk_at "law_draw")
  by_cases ha : 0 < a
  · rw [if_pos (by simp [ha])]
    obtain ⟨e1, e2⟩ := emod_nat (a := a) h0
    refine ⟨h0, ⟨h0, h1⟩, ?_⟩
    (try walk_at "law_draw")
    rw [← e1]
    exact h _ (by rw [e1]; exact e2) _ (up _ _ _)
  · rw [if_neg (by simp; omega)]
    refine ⟨.inr (by omega), h0, ?_⟩
    (try walk_at "law_draw")
    obtain ⟨e1, e2⟩ := emod_nat (a := ((b + 61001 * (c + 1)) * ((b + 61001 * (c + 1)) % 58013 + 47017) + 11 * (c + 1) + 19) % 2147483549 / 509) h0
    rw [← e1]
    exact h _ (by rw [e1]; exact e2) _ (up _ _ _)
theorem ok_law_draw (T : Tx P w K mg base) : Pub P w K mg base 1 "_law_draw" ["_law_bag_here", "_law_wide"] sp_law_draw := (fn_law_draw T).pub fun _ _ _ _ _ _ us hl => match us, hl with | [_, _], _ => rfl

theorem sc_law_names : FnScope ["_law_bag_here", "_law_many", "_law_pool", "_law_k"] ["_law_bag_here", "_law_many"] (defScope (top 39)) := ⟨rfl, rfl, rfl, by decide +kernel, rfl, by decide +kernel, by decide +kernel⟩
def sp_law_names : DSp := fun ds M post => ∃ (j : Addr) (n : Nat), ds = [.ptr j, .int (n : Int)] ∧ (Jg M j ∧ n ≤ 14 ∧ ∀ ss : List Str, ss.length = n → ss.Nodup → (∀ s ∈ ss, nameOk s = true) → ∀ M', Jm j M M' → post (strsF ss) M')
theorem cl_law_names {j : Addr} {n : Nat} {M : Mem} {post : WK} : sp_law_names [.ptr j, .int (n : Int)] M post = (Jg M j ∧ n ≤ 14 ∧ ∀ ss : List Str, ss.length = n → ss.Nodup → (∀ s ∈ ss, nameOk s = true) → ∀ M', Jm j M M' → post (strsF ss) M') := by
  simp [-Bool.exists_bool, sp_law_names, tp_inj, tq_inj, litD_inj, strs_inj, ruleD_inj, clD_inj, setD_inj, rules_inj, lits_inj, sets_inj, ints_inj, panF_inj, rngs_inj, rngE_inj, sg_inj, and_assoc, Int.natCast_inj]
local macro_rules | `(tactic| walk_at "law_names") => `(tactic| simp only [↓cl_law_draw, cl_law_draw, ↓FD.wCM_e, ↓FD.wCMK_e, ↓FD.wMakeV_e, ↓FD.wMethKC_e, ↓FD.wSetSort_e, ↓FD.gSplit_e, ↓FD.gSplitN_e, ↓FD.wSetLenT_e, ↓FD.wRevT_e, ↓FD.wSetLen_e, ↓FD.wRev_e, ↓FD.gDictS_e, ↓FD.gMinS_e, ↓FD.gIndexB_e, ↓FD.gListN_e, ↓FD.gAddC_e, ↓FD.wDispN_e, ↓FD.wMethD_e, ↓FD.gPop0_e, ↓FD.sFin_e, ↓FD.gFldD_e, ↓FD.sCt_e, ↓FD.sFrz_e, ↓FD.gLeS_e, ↓FD.gStrO_e, ↓FD.gBoolO_e, ↓FD.wM0_e, ↓FD.gUpper_e, ↓FD.gUnL_e, ↓FD.sSeq_e, ↓FD.sRet_e, ↓FD.sIf_e, ↓FD.sAsg_e, ↓FD.gSet_e, ↓FD.sDrop_e, ↓FD.sNext_e, ↓FD.sPar_e, ↓FD.sPar3_e, ↓FD.wIf_e, ↓FD.wOp_e, ↓FD.wUn_e, ↓FD.wVar_e, ↓FD.wC_e, ↓FD.wTst_e, ↓FD.wAnd_e, ↓FD.wOr_e, ↓FD.wNot_e, ↓FD.wAndV_e, ↓FD.wOrV_e, ↓FD.wNotV_e, ↓FD.wChain_e, ↓FD.aNil_e, ↓FD.aCons_e, ↓FD.wTup_e, ↓FD.wLst_e, ↓FD.wFtp_e, ↓FD.wNew_e, ↓FD.wCall_e, ↓FD.wB_e, ↓FD.wSl_e, ↓FD.oSome_e, ↓FD.oNone_e, ↓FD.wIsi_e, ↓FD.wIsiC_e, ↓FD.p1_e, ↓FD.p2_e, ↓FD.gLen_e, ↓FD.iLst_e, ↓FD.iTup_e, ↓FD.iStrD_e, ↓FD.iEnT_e, ↓FD.iEnL_e, ↓FD.iRng_e, ↓FD.iRng2_e, ↓FD.gTup_e, ↓FD.gsNil_e, ↓FD.gsCons_e, ↓FD.wM_e, ↓FD.wIxT_e, ↓FD.wFld_e, ↓FD.wMeth_e, ↓FD.wMake_e, ↓FD.sFldD_e, ↓FD.wDGet_e, ↓FD.sDput_e, ↓FD.wDNewK_e, ↓FD.wDNewT_e, ↓FD.wDisp1_e, ↓FD.wIce_e, ↓FD.gSub_e, ↓FD.wCallK_e, ↓FD.t1_e, ↓FD.t2_e, ↓FD.t1w_e, ↓FD.tYesD_e, ↓FD.gDIn_e, ↓FD.gDNin_e, ↓FD.gIndexT_e, ↓FD.gIndex_e, ↓FD.gAbs_e, ↓FD.gMax_e, ↓FD.gMin_e, ↓FD.gDivmod_e, ↓FD.wFz_e, ↓FD.wDGetD_e, ↓FD.t3_e, ↓FD.iZip3D_e, ↓FD.sForIT_e, ↓FD.wIsiO_e, ↓FD.wFmt_e, ↓FD.wTruO_e, ↓FD.gLenO_e, ↓FD.wMakeK_e, ↓FD.gOwn_e, ↓FD.t12_e, ↓FD.iZipMD_e, ↓FD.sForKT_e, ↓FD.wDSetd_e, ↓FD.wVals_e, ↓FD.iRng3_e, ↓FD.iEnS_e, ↓FD.gZ2_eq, ↓zip2_cl, ↓FD.addF_ftp, ↓FD.wPs_nil, ↓FD.wPs_cons, ↓FM.keyed_nil, ↓FM.keyed_str, ↓FM.sortP_lst, ↓FM.sortP_ftp, ↓lk_de_switches, ↓lk_de_rules, ↓lk_de_promises, ↓lk_de_past, ↓lk_de_undo, ↓lk_de_put, ↓lk_de_turn, ↓lk_de_become, ↓lk_de_take, ↓lk_de_promise, ↓lk_de_lift, ↓lk_de_trial, ↓lk_de_as_panel, ↓put_de_past, ↓put_de_promises, ↓lk_sg_setting, ↓lk_sg_log, ↓lk_sg_past, ↓lk_sg_other, ↓insR_stage, ↓lk_bo_panel, ↓lk_bo_setting, ↓lk_bo_log, ↓lk_bo_busy, ↓lk_bo_past, ↓lk_bo_do, ↓lk_bo_do_all, ↓lk_bo_undo, ↓lk_bo_take, ↓lk_bo_trial, ↓lk_bo_is_deed, ↓lk_bo_check_idle, ↓put_bo_setting, ↓put_bo_log, ↓put_bo_busy, ↓put_bo_past, ↓isiO_pan, ↓insT_pan, ↓FD.js_nil, ↓FD.js_cons, ↓FD.wLc2N_eq, ↓FD.addN_lst, ↓sFor_eq, ↓wLc_eq, ↓wLc2_eq, ↓wDc_eq, ↓look_zero, ↓look_succ, ↓got_so, ↓isB_bl, ↓isI_int, ↓isS_str, ↓isT_tup, ↓isT_ftp, ↓isT_ktp, ↓isT_tp, ↓isT_tq, ↓one_one, ↓two_two, ↓startD_cc, ↓startD_cn, ↓startD_nn, ↓FD.ix_str, ↓FD.ix_tup, ↓ix_ftp, ↓ix_ktp, ↓ix_lst, ↓ix_scr, ↓ix_tp, ↓ix_tq, ↓atI0, ↓atI1, ↓atI2, ↓atI3, ↓FD.eq_str, ↓FD.ne_str, ↓FD.eq_int, ↓FD.ne_int, ↓FD.add_int, ↓FD.sub_int, ↓FD.lt_int, ↓FD.le_int, ↓FD.gt_int, ↓FD.ge_int, ↓FD.add_str, ↓FD.add_lst, ↓FD.add_tup, ↓FD.mul_int, ↓FD.mod_int, ↓FD.fdiv_int, ↓FD.pow_int, ↓isN_non, ↓notN_non, ↓FD.len_str, ↓len_tup, ↓len_ftp, ↓len_ktp, ↓len_lst, ↓len_scr, ↓len_tp, ↓len_tq, ↓seq_tup, ↓seq_ftp, ↓seq_ktp, ↓seq_lst, ↓seq_scr, ↓seq_tp, ↓seq_tq, ↓in_tup, ↓in_ftp, ↓in_ktp, ↓in_lst, ↓nin_tup, ↓nin_ftp, ↓nin_ktp, ↓nin_lst, ↓FD.in_str, ↓nin_str, ↓isC_one, ↓asL_lst, ↓asL_scr, ↓if_tt, ↓if_ff, ↓isi_ss, ↓isi_tt, ↓isi_st, ↓isi_ts, ↓ty_str, ↓ty_tup, ↓ty_ftp, ↓ty_ktp, ↓ty_tp, ↓ty_tq, ↓all_lst, ↓any_lst, ↓flat_s, ↓flat_set, ↓tuple_lst, ↓FD.int_int, ↓eq_ftp_nil, ↓ne_ftp_nil, ↓isNon_non, ↓isNon_int, ↓isNon_str, ↓isNon_ptr, ↓isNon_tup, ↓isNon_ftp, ↓inL_strs, ↓flatSs, ↓inL_sets, ↓flatSets, ↓FM.tw, ↓FM.tw3, ↓FM.sl_str, ↓sl_set, ↓cell_upd, ↓lk_sw, ↓lk_ru, ↓lk_st, ↓lk_place, ↓lk_has, ↓lk_keeps, ↓lk_wrongs, ↓lk_goods, ↓lk_ways_from, ↓lk_text, ↓ins_pan, ↓FD.fit_le, ↓cx_K, ↓nox_K, ↓blk_K, ↓bx_K, ↓c1, ↓c2, ↓c3, ↓c4, ↓inL_cons, ↓inL_nil, ↓all_bools, ↓any_bools, ↓in_tp, ↓in_tq, ↓nin_tp, ↓nin_tq, ↓FM.sl_ftp, ↓FM.sl_tup, ↓FM.sl_lst, ↓FM.sl_scr, ↓index_eq, ↓ex_ftp, ↓eqd_str, ↓wf_at, ↓isT_cl, ↓isT_st, ↓isT_lit, ↓ix_lit0, ↓ix_lit1, ↓len_lit, ↓ty_lit, ↓eq_lit, ↓ne_lit, ↓eq_set, ↓ne_set, ↓len_set, ↓ty_set, ↓isS_set, ↓isC_sg, ↓sNever_e, ↓enumD_map, ↓dpAll_strs, ↓dpAll_mapI, ↓ne_lst_nil, ↓eq_lst_nil, ↓isT_grp, ↓len_grp, ↓isDc_wf, ↓wn_at, ↓isT_way, ↓len_way, ↓ty_way, ↓ty_st, ↓len_st, ↓ix_st0, ↓ix_st1, ↓inD_lits, ↓ninD_lits, ↓dpAll_sets, ↓three_three, ↓zip3_sets, ↓isT_z3, ↓inL_lock, ↓ninT_lits, ↓FM.tp_t, ↓FM.tp_f, ↓FM.tq_t, ↓FM.tq_f, ↓isT_pr, ↓tupleP_lst, ↓isT_it, ↓isNon_set, ↓ixN30, ↓ixN31, ↓ixN32, ↓ix_upd, ↓FM.eq_bl, ↓FM.ne_bl, ↓FM.sl_tp, ↓lstOf_lst, ↓okL_lst, ↓gMulS_eq, ↓add_sets, ↓add_setb, ↓add_setp, ↓add_setm, ↓rngE_e, ↓ix_rule0, ↓repr_bb, ↓isB_isD, ↓isB_notD, ↓wLcN_eq, ↓optW_some, ↓optW_none, ↓isNon_way, ↓ne_way0, ↓mulL2, ↓add_rules, ↓add_rulesT, ↓add_rulesF, ↓ne_ftp_sets, ↓ne_ftp_lits, ↓ne_ftp_strs, ↓add_strs, Option.isSome_some, Option.isSome_none, Option.isNone_some, Option.isNone_none, Option.map_some, Option.map_none, isNon_optW, isNon_optL, pick_nil, pick_cons, List.getElem?_cons_zero, List.getElem?_cons_succ, List.nil_append, List.append_nil, List.cons_append, Bool.decide_eq_true, Bool.decide_eq_false, Int.reduceAbs, Int.reduceToNat, Int.reducePow, true_or, or_true, Mem.upd_upd, rng_int, Bool.not_true, Bool.not_false, Bool.false_eq_true, if_false, if_true, true_and, and_true, List.set_cons_zero, List.set_cons_succ, List.length_cons, List.length_nil, List.length_map, eq_self, decide_true, decide_false, Bool.true_eq_false, or_self, Bool.or_self, List.all_cons, List.all_nil, Bool.and_true, Bool.true_and, Bool.or_false, Bool.false_or, Bool.or_true, Bool.true_or, Bool.and_false, Bool.false_and, Int.reduceLT, Int.reduceLE, Int.reduceEq, Nat.reduceLeDiff, Nat.reduceAdd, Nat.reduceLT, wf_some, wn_some, fold_lit, fold_litp, fold_litm, sg_iff, sg_in_pm, isNon_opt, isEmpty_map, ↓reduceIte, nq_0_1, nq_0_2, nq_0_3, nq_0_4, nq_0_5, nq_0_6, nq_0_7, nq_1_0, nq_1_2, nq_1_3, nq_1_4, nq_1_5, nq_1_6, nq_1_7, nq_2_0, nq_2_1, nq_2_3, nq_2_4, nq_2_5, nq_2_6, nq_2_7, nq_3_0, nq_3_1, nq_3_2, nq_3_4, nq_3_5, nq_3_6, nq_3_7, nq_4_0, nq_4_1, nq_4_2, nq_4_3, nq_4_5, nq_4_6, nq_4_7, nq_5_0, nq_5_1, nq_5_2, nq_5_3, nq_5_4, nq_5_6, nq_5_7, nq_6_0, nq_6_1, nq_6_2, nq_6_3, nq_6_4, nq_6_5, nq_6_7, nq_7_0, nq_7_1, nq_7_2, nq_7_3, nq_7_4, nq_7_5, nq_7_6])
theorem fn_law_names (T : Tx P w K mg base) : Fng P w K mg base 2 "_law_names" (top 39) ["_law_bag_here", "_law_many"] sp_law_names := by
  have S := sc_law_names
  refine fng_of T.d_law_names T.g_law_names S (fun ds M post h => by unfold sp_law_names at h; grind) fun f cdv A outer s H gd hr => ⟨_, (ds_cons (ds_set (i := 2) S.nd (de_new (da_cons dstr (da_cons dstr (da_cons dstr (da_cons dstr (da_cons dstr (da_cons dstr (da_cons dstr (da_cons dstr (da_cons dstr (da_cons dstr (da_cons dstr (da_cons dstr (da_cons dstr (da_cons dstr da_nil))))))))))))))))
      (ds_one (ds_ret (de_fz (de_ty c_tuple T.m_tuple (by decide +kernel) (da_cons (de_lc (own := [("_law_k", 3)]) rfl S.nd (di_range T.m_range (da_cons (dv 1) da_nil)) (blkOk_by (N := ["_law_bag_here", "_law_many", "_law_pool", "_law_k"]) (sc := defScope (top 39)) (by decide +kernel)) tgt1 (fun _ _ _ _ _ => pg_name (i := 3) S.nd rfl (Or.inl rfl)) (fun _ _ _ _ _ => dts_nil) (fun _ _ _ _ _ => (de_ml PySem.F.slot_list_pop PySem.F.type_list_pop m_pop (dv 2) (da_cons (de_call (ok_law_draw T) (hr.mono (by decide)) gd (da_cons (dv 0) (da_cons (de_b c_len T.m_len (by decide +kernel) (da_cons (dv 2) da_nil)) da_nil))) da_nil)))) da_nil)))))), ?_⟩
  rintro ds M post ⟨j, n, rfl, hj, hn, h⟩
  (try walk_at "law_names")
  intro p hp
  have ne := hj.ne hp
  refine ⟨by omega, by omega, ?_⟩
  refine lc_draw (List.range n) rngE (fun acc M' => ∃ ss pool, acc = ss.map D.str ∧ Drawn ss pool ∧ PJ j p (.lst (pool.map D.str)) M M') ⟨[], pool14, rfl, .refl _, PJ.new (Jm.refl hj)⟩ (fun _ _ _ => trivial) ?_ ?_
  · rintro k hk acc M1 hl ⟨ss, pool, rfl, dr, pj⟩ yes hy
    have dl := dr.len
    rw [List.length_map, List.length_range] at hl
    (try walk_at "law_names")
    rw [len_cell pj.cell]
    (try walk_at "law_names")
    refine ⟨okL_cell pj.cell, pj.jg ne, by omega, by omega, ?_⟩
    intro v hv M2 j2
    have pj2 := pj.step ne j2
    have hv2 : v < (pool.map D.str).length := by rw [List.length_map]; omega
    rw [pop_eq pj2.cell hv2, List.getElem_map, map_erase]
    exact hy _ _ ⟨ss ++ [pool[v]'(by rw [List.length_map] at hv2; exact hv2)], _, by simp, dr.pop _, pj2.set⟩
  · rintro acc M1 hl ⟨ss, pool, rfl, dr, pj⟩
    rw [List.length_map, List.length_range] at hl
    rw [tuple_lst]
    obtain ⟨M2, le, jm, _⟩ := pj.out ne hp
    exact ⟨_, M2, le, .same _, h ss hl dr.nd dr.ok M2 jm⟩
theorem ok_law_names (T : Tx P w K mg base) : Pub P w K mg base 2 "_law_names" ["_law_bag_here", "_law_many"] sp_law_names := (fn_law_names T).pub fun _ _ _ _ _ _ us hl => match us, hl with | [_, _], _ => rfl

theorem sc_law_one : FnScope ["_law_bag_here", "_law_some"] ["_law_bag_here", "_law_some"] (defScope (top 38)) := ⟨rfl, rfl, rfl, by decide +kernel, rfl, by decide +kernel, by decide +kernel⟩
def sp_law_one : DSp := fun ds M post => ∃ (j : Addr) (l : List D) (d : D), ds = [.ptr j, d] ∧ (d = .lst l ∨ d = .ftp l ∨ d = .tup l) ∧ (Jg M j ∧ l ≠ [] ∧ l.length < 1073741824 ∧ ∀ x ∈ l, ∀ M', Jm j M M' → post x M')
theorem cl_law_one {j : Addr} {l : List D} {M : Mem} {post : WK} : sp_law_one [.ptr j, .lst l] M post = (Jg M j ∧ l ≠ [] ∧ l.length < 1073741824 ∧ ∀ x ∈ l, ∀ M', Jm j M M' → post x M') := by
  unfold sp_law_one
  refine propext ⟨fun ⟨j2, l2, d, e, c, h⟩ => ?_, fun h => ⟨j, l, _, rfl, .inl rfl, h⟩⟩
  simp only [List.cons.injEq, D.ptr.injEq, and_true] at e
  obtain ⟨rfl, rfl⟩ := e
  rcases c with c | c | c <;> cases c
  exact h
theorem cl_law_one1 {j : Addr} {l : List D} {M : Mem} {post : WK} : sp_law_one [.ptr j, .ftp l] M post = (Jg M j ∧ l ≠ [] ∧ l.length < 1073741824 ∧ ∀ x ∈ l, ∀ M', Jm j M M' → post x M') := by
  unfold sp_law_one
  refine propext ⟨fun ⟨j2, l2, d, e, c, h⟩ => ?_, fun h => ⟨j, l, _, rfl, .inr (.inl rfl), h⟩⟩
  simp only [List.cons.injEq, D.ptr.injEq, and_true] at e
  obtain ⟨rfl, rfl⟩ := e
  rcases c with c | c | c <;> cases c
  exact h
theorem cl_law_one2 {j : Addr} {l : List D} {M : Mem} {post : WK} : sp_law_one [.ptr j, .tup l] M post = (Jg M j ∧ l ≠ [] ∧ l.length < 1073741824 ∧ ∀ x ∈ l, ∀ M', Jm j M M' → post x M') := by
  unfold sp_law_one
  refine propext ⟨fun ⟨j2, l2, d, e, c, h⟩ => ?_, fun h => ⟨j, l, _, rfl, .inr (.inr rfl), h⟩⟩
  simp only [List.cons.injEq, D.ptr.injEq, and_true] at e
  obtain ⟨rfl, rfl⟩ := e
  rcases c with c | c | c <;> cases c
  exact h
local macro_rules | `(tactic| walk_at "law_one") => `(tactic| simp only [↓cl_law_draw, cl_law_draw, ↓FD.wCM_e, ↓FD.wCMK_e, ↓FD.wMakeV_e, ↓FD.wMethKC_e, ↓FD.wSetSort_e, ↓FD.gSplit_e, ↓FD.gSplitN_e, ↓FD.wSetLenT_e, ↓FD.wRevT_e, ↓FD.wSetLen_e, ↓FD.wRev_e, ↓FD.gDictS_e, ↓FD.gMinS_e, ↓FD.gIndexB_e, ↓FD.gListN_e, ↓FD.gAddC_e, ↓FD.wDispN_e, ↓FD.wMethD_e, ↓FD.gPop0_e, ↓FD.sFin_e, ↓FD.gFldD_e, ↓FD.sCt_e, ↓FD.sFrz_e, ↓FD.gLeS_e, ↓FD.gStrO_e, ↓FD.gBoolO_e, ↓FD.wM0_e, ↓FD.gUpper_e, ↓FD.gUnL_e, ↓FD.sSeq_e, ↓FD.sRet_e, ↓FD.sIf_e, ↓FD.sAsg_e, ↓FD.gSet_e, ↓FD.sDrop_e, ↓FD.sNext_e, ↓FD.sPar_e, ↓FD.sPar3_e, ↓FD.wIf_e, ↓FD.wOp_e, ↓FD.wUn_e, ↓FD.wVar_e, ↓FD.wC_e, ↓FD.wTst_e, ↓FD.wAnd_e, ↓FD.wOr_e, ↓FD.wNot_e, ↓FD.wAndV_e, ↓FD.wOrV_e, ↓FD.wNotV_e, ↓FD.wChain_e, ↓FD.aNil_e, ↓FD.aCons_e, ↓FD.wTup_e, ↓FD.wLst_e, ↓FD.wFtp_e, ↓FD.wNew_e, ↓FD.wCall_e, ↓FD.wB_e, ↓FD.wSl_e, ↓FD.oSome_e, ↓FD.oNone_e, ↓FD.wIsi_e, ↓FD.wIsiC_e, ↓FD.p1_e, ↓FD.p2_e, ↓FD.gLen_e, ↓FD.iLst_e, ↓FD.iTup_e, ↓FD.iStrD_e, ↓FD.iEnT_e, ↓FD.iEnL_e, ↓FD.iRng_e, ↓FD.iRng2_e, ↓FD.gTup_e, ↓FD.gsNil_e, ↓FD.gsCons_e, ↓FD.wM_e, ↓FD.wIxT_e, ↓FD.wFld_e, ↓FD.wMeth_e, ↓FD.wMake_e, ↓FD.sFldD_e, ↓FD.wDGet_e, ↓FD.sDput_e, ↓FD.wDNewK_e, ↓FD.wDNewT_e, ↓FD.wDisp1_e, ↓FD.wIce_e, ↓FD.gSub_e, ↓FD.wCallK_e, ↓FD.t1_e, ↓FD.t2_e, ↓FD.t1w_e, ↓FD.tYesD_e, ↓FD.gDIn_e, ↓FD.gDNin_e, ↓FD.gIndexT_e, ↓FD.gIndex_e, ↓FD.gAbs_e, ↓FD.gMax_e, ↓FD.gMin_e, ↓FD.gDivmod_e, ↓FD.wFz_e, ↓FD.wDGetD_e, ↓FD.t3_e, ↓FD.iZip3D_e, ↓FD.sForIT_e, ↓FD.wIsiO_e, ↓FD.wFmt_e, ↓FD.wTruO_e, ↓FD.gLenO_e, ↓FD.wMakeK_e, ↓FD.gOwn_e, ↓FD.t12_e, ↓FD.iZipMD_e, ↓FD.sForKT_e, ↓FD.wDSetd_e, ↓FD.wVals_e, ↓FD.iRng3_e, ↓FD.iEnS_e, ↓FD.gZ2_eq, ↓zip2_cl, ↓FD.addF_ftp, ↓FD.wPs_nil, ↓FD.wPs_cons, ↓FM.keyed_nil, ↓FM.keyed_str, ↓FM.sortP_lst, ↓FM.sortP_ftp, ↓lk_de_switches, ↓lk_de_rules, ↓lk_de_promises, ↓lk_de_past, ↓lk_de_undo, ↓lk_de_put, ↓lk_de_turn, ↓lk_de_become, ↓lk_de_take, ↓lk_de_promise, ↓lk_de_lift, ↓lk_de_trial, ↓lk_de_as_panel, ↓put_de_past, ↓put_de_promises, ↓lk_sg_setting, ↓lk_sg_log, ↓lk_sg_past, ↓lk_sg_other, ↓insR_stage, ↓lk_bo_panel, ↓lk_bo_setting, ↓lk_bo_log, ↓lk_bo_busy, ↓lk_bo_past, ↓lk_bo_do, ↓lk_bo_do_all, ↓lk_bo_undo, ↓lk_bo_take, ↓lk_bo_trial, ↓lk_bo_is_deed, ↓lk_bo_check_idle, ↓put_bo_setting, ↓put_bo_log, ↓put_bo_busy, ↓put_bo_past, ↓isiO_pan, ↓insT_pan, ↓FD.js_nil, ↓FD.js_cons, ↓FD.wLc2N_eq, ↓FD.addN_lst, ↓sFor_eq, ↓wLc_eq, ↓wLc2_eq, ↓wDc_eq, ↓look_zero, ↓look_succ, ↓got_so, ↓isB_bl, ↓isI_int, ↓isS_str, ↓isT_tup, ↓isT_ftp, ↓isT_ktp, ↓isT_tp, ↓isT_tq, ↓one_one, ↓two_two, ↓startD_cc, ↓startD_cn, ↓startD_nn, ↓FD.ix_str, ↓FD.ix_tup, ↓ix_ftp, ↓ix_ktp, ↓ix_lst, ↓ix_scr, ↓ix_tp, ↓ix_tq, ↓atI0, ↓atI1, ↓atI2, ↓atI3, ↓FD.eq_str, ↓FD.ne_str, ↓FD.eq_int, ↓FD.ne_int, ↓FD.add_int, ↓FD.sub_int, ↓FD.lt_int, ↓FD.le_int, ↓FD.gt_int, ↓FD.ge_int, ↓FD.add_str, ↓FD.add_lst, ↓FD.add_tup, ↓FD.mul_int, ↓FD.mod_int, ↓FD.fdiv_int, ↓FD.pow_int, ↓isN_non, ↓notN_non, ↓FD.len_str, ↓len_tup, ↓len_ftp, ↓len_ktp, ↓len_lst, ↓len_scr, ↓len_tp, ↓len_tq, ↓seq_tup, ↓seq_ftp, ↓seq_ktp, ↓seq_lst, ↓seq_scr, ↓seq_tp, ↓seq_tq, ↓in_tup, ↓in_ftp, ↓in_ktp, ↓in_lst, ↓nin_tup, ↓nin_ftp, ↓nin_ktp, ↓nin_lst, ↓FD.in_str, ↓nin_str, ↓isC_one, ↓asL_lst, ↓asL_scr, ↓if_tt, ↓if_ff, ↓isi_ss, ↓isi_tt, ↓isi_st, ↓isi_ts, ↓ty_str, ↓ty_tup, ↓ty_ftp, ↓ty_ktp, ↓ty_tp, ↓ty_tq, ↓all_lst, ↓any_lst, ↓flat_s, ↓flat_set, ↓tuple_lst, ↓FD.int_int, ↓eq_ftp_nil, ↓ne_ftp_nil, ↓isNon_non, ↓isNon_int, ↓isNon_str, ↓isNon_ptr, ↓isNon_tup, ↓isNon_ftp, ↓inL_strs, ↓flatSs, ↓inL_sets, ↓flatSets, ↓FM.tw, ↓FM.tw3, ↓FM.sl_str, ↓sl_set, ↓cell_upd, ↓lk_sw, ↓lk_ru, ↓lk_st, ↓lk_place, ↓lk_has, ↓lk_keeps, ↓lk_wrongs, ↓lk_goods, ↓lk_ways_from, ↓lk_text, ↓ins_pan, ↓FD.fit_le, ↓cx_K, ↓nox_K, ↓blk_K, ↓bx_K, ↓c1, ↓c2, ↓c3, ↓c4, ↓inL_cons, ↓inL_nil, ↓all_bools, ↓any_bools, ↓in_tp, ↓in_tq, ↓nin_tp, ↓nin_tq, ↓FM.sl_ftp, ↓FM.sl_tup, ↓FM.sl_lst, ↓FM.sl_scr, ↓index_eq, ↓ex_ftp, ↓eqd_str, ↓wf_at, ↓isT_cl, ↓isT_st, ↓isT_lit, ↓ix_lit0, ↓ix_lit1, ↓len_lit, ↓ty_lit, ↓eq_lit, ↓ne_lit, ↓eq_set, ↓ne_set, ↓len_set, ↓ty_set, ↓isS_set, ↓isC_sg, ↓sNever_e, ↓enumD_map, ↓dpAll_strs, ↓dpAll_mapI, ↓ne_lst_nil, ↓eq_lst_nil, ↓isT_grp, ↓len_grp, ↓isDc_wf, ↓wn_at, ↓isT_way, ↓len_way, ↓ty_way, ↓ty_st, ↓len_st, ↓ix_st0, ↓ix_st1, ↓inD_lits, ↓ninD_lits, ↓dpAll_sets, ↓three_three, ↓zip3_sets, ↓isT_z3, ↓inL_lock, ↓ninT_lits, ↓FM.tp_t, ↓FM.tp_f, ↓FM.tq_t, ↓FM.tq_f, ↓isT_pr, ↓tupleP_lst, ↓isT_it, ↓isNon_set, ↓ixN30, ↓ixN31, ↓ixN32, ↓ix_upd, ↓FM.eq_bl, ↓FM.ne_bl, ↓FM.sl_tp, ↓lstOf_lst, ↓okL_lst, ↓gMulS_eq, ↓add_sets, ↓add_setb, ↓add_setp, ↓add_setm, ↓rngE_e, ↓ix_rule0, ↓repr_bb, ↓isB_isD, ↓isB_notD, ↓wLcN_eq, ↓optW_some, ↓optW_none, ↓isNon_way, ↓ne_way0, ↓mulL2, ↓add_rules, ↓add_rulesT, ↓add_rulesF, ↓ne_ftp_sets, ↓ne_ftp_lits, ↓ne_ftp_strs, ↓add_strs, Option.isSome_some, Option.isSome_none, Option.isNone_some, Option.isNone_none, Option.map_some, Option.map_none, isNon_optW, isNon_optL, pick_nil, pick_cons, List.getElem?_cons_zero, List.getElem?_cons_succ, List.nil_append, List.append_nil, List.cons_append, Bool.decide_eq_true, Bool.decide_eq_false, Int.reduceAbs, Int.reduceToNat, Int.reducePow, true_or, or_true, Mem.upd_upd, rng_int, Bool.not_true, Bool.not_false, Bool.false_eq_true, if_false, if_true, true_and, and_true, List.set_cons_zero, List.set_cons_succ, List.length_cons, List.length_nil, List.length_map, eq_self, decide_true, decide_false, Bool.true_eq_false, or_self, Bool.or_self, List.all_cons, List.all_nil, Bool.and_true, Bool.true_and, Bool.or_false, Bool.false_or, Bool.or_true, Bool.true_or, Bool.and_false, Bool.false_and, Int.reduceLT, Int.reduceLE, Int.reduceEq, Nat.reduceLeDiff, Nat.reduceAdd, Nat.reduceLT, wf_some, wn_some, fold_lit, fold_litp, fold_litm, sg_iff, sg_in_pm, isNon_opt, isEmpty_map, ↓reduceIte, nq_0_1, nq_0_2, nq_0_3, nq_0_4, nq_0_5, nq_0_6, nq_0_7, nq_1_0, nq_1_2, nq_1_3, nq_1_4, nq_1_5, nq_1_6, nq_1_7, nq_2_0, nq_2_1, nq_2_3, nq_2_4, nq_2_5, nq_2_6, nq_2_7, nq_3_0, nq_3_1, nq_3_2, nq_3_4, nq_3_5, nq_3_6, nq_3_7, nq_4_0, nq_4_1, nq_4_2, nq_4_3, nq_4_5, nq_4_6, nq_4_7, nq_5_0, nq_5_1, nq_5_2, nq_5_3, nq_5_4, nq_5_6, nq_5_7, nq_6_0, nq_6_1, nq_6_2, nq_6_3, nq_6_4, nq_6_5, nq_6_7, nq_7_0, nq_7_1, nq_7_2, nq_7_3, nq_7_4, nq_7_5, nq_7_6])
theorem fn_law_one (T : Tx P w K mg base) : Fng P w K mg base 2 "_law_one" (top 38) ["_law_bag_here", "_law_some"] sp_law_one := by
  have S := sc_law_one
  refine fng_of T.d_law_one T.g_law_one S (fun ds M post h => by unfold sp_law_one at h; grind) fun f cdv A outer s H gd hr => ⟨_, (ds_one (ds_ret (de_ix o_ix (dv 1) (de_call (ok_law_draw T) (hr.mono (by decide)) gd (da_cons (dv 0) (da_cons (de_b c_len T.m_len (by decide +kernel) (da_cons (dv 1) da_nil)) da_nil)))))), ?_⟩
  rintro ds M post ⟨j, l, d, rfl, c, hj, hn, hl, h⟩
  have lp := List.length_pos_iff.mpr hn
  rcases c with rfl | rfl | rfl
  · (try walk_at "law_one")
    refine ⟨hj, by omega, by omega, ?_⟩
    intro v hv M' hM
    rw [atI_lt (by omega)]
    exact h _ (List.getElem_mem _) M' hM
  · (try walk_at "law_one")
    refine ⟨hj, by omega, by omega, ?_⟩
    intro v hv M' hM
    rw [atI_lt (by omega)]
    exact h _ (List.getElem_mem _) M' hM
  · (try walk_at "law_one")
    refine ⟨hj, by omega, by omega, ?_⟩
    intro v hv M' hM
    rw [atI_lt (by omega)]
    exact h _ (List.getElem_mem _) M' hM
theorem ok_law_one (T : Tx P w K mg base) : Pub P w K mg base 2 "_law_one" ["_law_bag_here", "_law_some"] sp_law_one := (fn_law_one T).pub fun _ _ _ _ _ _ us hl => match us, hl with | [_, _], _ => rfl

theorem sc_law_holds : FnScope ["_law_names_here", "_law_literal", "_law_setting"] ["_law_names_here", "_law_literal", "_law_setting"] (defScope (top 43)) := ⟨rfl, rfl, rfl, by decide +kernel, rfl, by decide +kernel, by decide +kernel⟩
def sp_law_holds : DSp := fun ds M post => ∃ (ss : List Str) (a : Lit) (t : List Bool), ds = [strsF ss, litD a, setD t] ∧ (a.n ∈ ss ∧ t.length = ss.length ∧ post (.bl (hasL ss t a)) M)
theorem cl_law_holds {ss : List Str} {t : List Bool} {a : Lit} {M : Mem} {post : WK} : sp_law_holds [strsF ss, litD a, setD t] M post = (a.n ∈ ss ∧ t.length = ss.length ∧ post (.bl (hasL ss t a)) M) := by
  simp [-Bool.exists_bool, sp_law_holds, tp_inj, tq_inj, litD_inj, strs_inj, ruleD_inj, clD_inj, setD_inj, rules_inj, lits_inj, sets_inj, ints_inj, panF_inj, rngs_inj, rngE_inj, sg_inj, and_assoc, Int.natCast_inj]
local macro_rules | `(tactic| walk_at "law_holds") => `(tactic| simp only [↓FD.wCM_e, ↓FD.wCMK_e, ↓FD.wMakeV_e, ↓FD.wMethKC_e, ↓FD.wSetSort_e, ↓FD.gSplit_e, ↓FD.gSplitN_e, ↓FD.wSetLenT_e, ↓FD.wRevT_e, ↓FD.wSetLen_e, ↓FD.wRev_e, ↓FD.gDictS_e, ↓FD.gMinS_e, ↓FD.gIndexB_e, ↓FD.gListN_e, ↓FD.gAddC_e, ↓FD.wDispN_e, ↓FD.wMethD_e, ↓FD.gPop0_e, ↓FD.sFin_e, ↓FD.gFldD_e, ↓FD.sCt_e, ↓FD.sFrz_e, ↓FD.gLeS_e, ↓FD.gStrO_e, ↓FD.gBoolO_e, ↓FD.wM0_e, ↓FD.gUpper_e, ↓FD.gUnL_e, ↓FD.sSeq_e, ↓FD.sRet_e, ↓FD.sIf_e, ↓FD.sAsg_e, ↓FD.gSet_e, ↓FD.sDrop_e, ↓FD.sNext_e, ↓FD.sPar_e, ↓FD.sPar3_e, ↓FD.wIf_e, ↓FD.wOp_e, ↓FD.wUn_e, ↓FD.wVar_e, ↓FD.wC_e, ↓FD.wTst_e, ↓FD.wAnd_e, ↓FD.wOr_e, ↓FD.wNot_e, ↓FD.wAndV_e, ↓FD.wOrV_e, ↓FD.wNotV_e, ↓FD.wChain_e, ↓FD.aNil_e, ↓FD.aCons_e, ↓FD.wTup_e, ↓FD.wLst_e, ↓FD.wFtp_e, ↓FD.wNew_e, ↓FD.wCall_e, ↓FD.wB_e, ↓FD.wSl_e, ↓FD.oSome_e, ↓FD.oNone_e, ↓FD.wIsi_e, ↓FD.wIsiC_e, ↓FD.p1_e, ↓FD.p2_e, ↓FD.gLen_e, ↓FD.iLst_e, ↓FD.iTup_e, ↓FD.iStrD_e, ↓FD.iEnT_e, ↓FD.iEnL_e, ↓FD.iRng_e, ↓FD.iRng2_e, ↓FD.gTup_e, ↓FD.gsNil_e, ↓FD.gsCons_e, ↓FD.wM_e, ↓FD.wIxT_e, ↓FD.wFld_e, ↓FD.wMeth_e, ↓FD.wMake_e, ↓FD.sFldD_e, ↓FD.wDGet_e, ↓FD.sDput_e, ↓FD.wDNewK_e, ↓FD.wDNewT_e, ↓FD.wDisp1_e, ↓FD.wIce_e, ↓FD.gSub_e, ↓FD.wCallK_e, ↓FD.t1_e, ↓FD.t2_e, ↓FD.t1w_e, ↓FD.tYesD_e, ↓FD.gDIn_e, ↓FD.gDNin_e, ↓FD.gIndexT_e, ↓FD.gIndex_e, ↓FD.gAbs_e, ↓FD.gMax_e, ↓FD.gMin_e, ↓FD.gDivmod_e, ↓FD.wFz_e, ↓FD.wDGetD_e, ↓FD.t3_e, ↓FD.iZip3D_e, ↓FD.sForIT_e, ↓FD.wIsiO_e, ↓FD.wFmt_e, ↓FD.wTruO_e, ↓FD.gLenO_e, ↓FD.wMakeK_e, ↓FD.gOwn_e, ↓FD.t12_e, ↓FD.iZipMD_e, ↓FD.sForKT_e, ↓FD.wDSetd_e, ↓FD.wVals_e, ↓FD.iRng3_e, ↓FD.iEnS_e, ↓FD.gZ2_eq, ↓zip2_cl, ↓FD.addF_ftp, ↓FD.wPs_nil, ↓FD.wPs_cons, ↓FM.keyed_nil, ↓FM.keyed_str, ↓FM.sortP_lst, ↓FM.sortP_ftp, ↓lk_de_switches, ↓lk_de_rules, ↓lk_de_promises, ↓lk_de_past, ↓lk_de_undo, ↓lk_de_put, ↓lk_de_turn, ↓lk_de_become, ↓lk_de_take, ↓lk_de_promise, ↓lk_de_lift, ↓lk_de_trial, ↓lk_de_as_panel, ↓put_de_past, ↓put_de_promises, ↓lk_sg_setting, ↓lk_sg_log, ↓lk_sg_past, ↓lk_sg_other, ↓insR_stage, ↓lk_bo_panel, ↓lk_bo_setting, ↓lk_bo_log, ↓lk_bo_busy, ↓lk_bo_past, ↓lk_bo_do, ↓lk_bo_do_all, ↓lk_bo_undo, ↓lk_bo_take, ↓lk_bo_trial, ↓lk_bo_is_deed, ↓lk_bo_check_idle, ↓put_bo_setting, ↓put_bo_log, ↓put_bo_busy, ↓put_bo_past, ↓isiO_pan, ↓insT_pan, ↓FD.js_nil, ↓FD.js_cons, ↓FD.wLc2N_eq, ↓FD.addN_lst, ↓sFor_eq, ↓wLc_eq, ↓wLc2_eq, ↓wDc_eq, ↓look_zero, ↓look_succ, ↓got_so, ↓isB_bl, ↓isI_int, ↓isS_str, ↓isT_tup, ↓isT_ftp, ↓isT_ktp, ↓isT_tp, ↓isT_tq, ↓one_one, ↓two_two, ↓startD_cc, ↓startD_cn, ↓startD_nn, ↓FD.ix_str, ↓FD.ix_tup, ↓ix_ftp, ↓ix_ktp, ↓ix_lst, ↓ix_scr, ↓ix_tp, ↓ix_tq, ↓atI0, ↓atI1, ↓atI2, ↓atI3, ↓FD.eq_str, ↓FD.ne_str, ↓FD.eq_int, ↓FD.ne_int, ↓FD.add_int, ↓FD.sub_int, ↓FD.lt_int, ↓FD.le_int, ↓FD.gt_int, ↓FD.ge_int, ↓FD.add_str, ↓FD.add_lst, ↓FD.add_tup, ↓FD.mul_int, ↓FD.mod_int, ↓FD.fdiv_int, ↓FD.pow_int, ↓isN_non, ↓notN_non, ↓FD.len_str, ↓len_tup, ↓len_ftp, ↓len_ktp, ↓len_lst, ↓len_scr, ↓len_tp, ↓len_tq, ↓seq_tup, ↓seq_ftp, ↓seq_ktp, ↓seq_lst, ↓seq_scr, ↓seq_tp, ↓seq_tq, ↓in_tup, ↓in_ftp, ↓in_ktp, ↓in_lst, ↓nin_tup, ↓nin_ftp, ↓nin_ktp, ↓nin_lst, ↓FD.in_str, ↓nin_str, ↓isC_one, ↓asL_lst, ↓asL_scr, ↓if_tt, ↓if_ff, ↓isi_ss, ↓isi_tt, ↓isi_st, ↓isi_ts, ↓ty_str, ↓ty_tup, ↓ty_ftp, ↓ty_ktp, ↓ty_tp, ↓ty_tq, ↓all_lst, ↓any_lst, ↓flat_s, ↓flat_set, ↓tuple_lst, ↓FD.int_int, ↓eq_ftp_nil, ↓ne_ftp_nil, ↓isNon_non, ↓isNon_int, ↓isNon_str, ↓isNon_ptr, ↓isNon_tup, ↓isNon_ftp, ↓inL_strs, ↓flatSs, ↓inL_sets, ↓flatSets, ↓FM.tw, ↓FM.tw3, ↓FM.sl_str, ↓sl_set, ↓cell_upd, ↓lk_sw, ↓lk_ru, ↓lk_st, ↓lk_place, ↓lk_has, ↓lk_keeps, ↓lk_wrongs, ↓lk_goods, ↓lk_ways_from, ↓lk_text, ↓ins_pan, ↓FD.fit_le, ↓cx_K, ↓nox_K, ↓blk_K, ↓bx_K, ↓c1, ↓c2, ↓c3, ↓c4, ↓inL_cons, ↓inL_nil, ↓all_bools, ↓any_bools, ↓in_tp, ↓in_tq, ↓nin_tp, ↓nin_tq, ↓FM.sl_ftp, ↓FM.sl_tup, ↓FM.sl_lst, ↓FM.sl_scr, ↓index_eq, ↓ex_ftp, ↓eqd_str, ↓wf_at, ↓isT_cl, ↓isT_st, ↓isT_lit, ↓ix_lit0, ↓ix_lit1, ↓len_lit, ↓ty_lit, ↓eq_lit, ↓ne_lit, ↓eq_set, ↓ne_set, ↓len_set, ↓ty_set, ↓isS_set, ↓isC_sg, ↓sNever_e, ↓enumD_map, ↓dpAll_strs, ↓dpAll_mapI, ↓ne_lst_nil, ↓eq_lst_nil, ↓isT_grp, ↓len_grp, ↓isDc_wf, ↓wn_at, ↓isT_way, ↓len_way, ↓ty_way, ↓ty_st, ↓len_st, ↓ix_st0, ↓ix_st1, ↓inD_lits, ↓ninD_lits, ↓dpAll_sets, ↓three_three, ↓zip3_sets, ↓isT_z3, ↓inL_lock, ↓ninT_lits, ↓FM.tp_t, ↓FM.tp_f, ↓FM.tq_t, ↓FM.tq_f, ↓isT_pr, ↓tupleP_lst, ↓isT_it, ↓isNon_set, ↓ixN30, ↓ixN31, ↓ixN32, ↓ix_upd, ↓FM.eq_bl, ↓FM.ne_bl, ↓FM.sl_tp, ↓lstOf_lst, ↓okL_lst, ↓gMulS_eq, ↓add_sets, ↓add_setb, ↓add_setp, ↓add_setm, ↓rngE_e, ↓ix_rule0, ↓repr_bb, ↓isB_isD, ↓isB_notD, ↓wLcN_eq, ↓optW_some, ↓optW_none, ↓isNon_way, ↓ne_way0, ↓mulL2, ↓add_rules, ↓add_rulesT, ↓add_rulesF, ↓ne_ftp_sets, ↓ne_ftp_lits, ↓ne_ftp_strs, ↓add_strs, Option.isSome_some, Option.isSome_none, Option.isNone_some, Option.isNone_none, Option.map_some, Option.map_none, isNon_optW, isNon_optL, pick_nil, pick_cons, List.getElem?_cons_zero, List.getElem?_cons_succ, List.nil_append, List.append_nil, List.cons_append, Bool.decide_eq_true, Bool.decide_eq_false, Int.reduceAbs, Int.reduceToNat, Int.reducePow, true_or, or_true, Mem.upd_upd, rng_int, Bool.not_true, Bool.not_false, Bool.false_eq_true, if_false, if_true, true_and, and_true, List.set_cons_zero, List.set_cons_succ, List.length_cons, List.length_nil, List.length_map, eq_self, decide_true, decide_false, Bool.true_eq_false, or_self, Bool.or_self, List.all_cons, List.all_nil, Bool.and_true, Bool.true_and, Bool.or_false, Bool.false_or, Bool.or_true, Bool.true_or, Bool.and_false, Bool.false_and, Int.reduceLT, Int.reduceLE, Int.reduceEq, Nat.reduceLeDiff, Nat.reduceAdd, Nat.reduceLT, wf_some, wn_some, fold_lit, fold_litp, fold_litm, sg_iff, sg_in_pm, isNon_opt, isEmpty_map, ↓reduceIte, nq_0_1, nq_0_2, nq_0_3, nq_0_4, nq_0_5, nq_0_6, nq_0_7, nq_1_0, nq_1_2, nq_1_3, nq_1_4, nq_1_5, nq_1_6, nq_1_7, nq_2_0, nq_2_1, nq_2_3, nq_2_4, nq_2_5, nq_2_6, nq_2_7, nq_3_0, nq_3_1, nq_3_2, nq_3_4, nq_3_5, nq_3_6, nq_3_7, nq_4_0, nq_4_1, nq_4_2, nq_4_3, nq_4_5, nq_4_6, nq_4_7, nq_5_0, nq_5_1, nq_5_2, nq_5_3, nq_5_4, nq_5_6, nq_5_7, nq_6_0, nq_6_1, nq_6_2, nq_6_3, nq_6_4, nq_6_5, nq_6_7, nq_7_0, nq_7_1, nq_7_2, nq_7_3, nq_7_4, nq_7_5, nq_7_6])
theorem fn_law_holds (T : Tx P w K mg base) : Fng P w K mg base 1 "_law_holds" (top 43) ["_law_names_here", "_law_literal", "_law_setting"] sp_law_holds := by
  have S := sc_law_holds
  refine fng_of T.d_law_holds T.g_law_holds S (fun ds M post h => by unfold sp_law_holds at h; grind) fun f cdv A outer s H gd hr => ⟨_, (ds_one (ds_ret (de_cmp (o_eq hr) (de_ix o_ix (dv 2) (de_ixT (dv 0) (da_cons (de_ix o_ix (dv 1) dint) da_nil))) (de_ix o_ix (dv 1) dint)))), ?_⟩
  rintro ds M post ⟨ss, a, t, rfl, hn, hl, h⟩
  (try walk_at "law_holds")
  simp only [find_eq hn, ix_set (val_at hn hl)]
  (try walk_at "law_holds")
  unfold hasL at h
  rw [Bool.beq_eq_decide_eq] at h
  exact h
theorem ok_law_holds (T : Tx P w K mg base) : Pub P w K mg base 1 "_law_holds" ["_law_names_here", "_law_literal", "_law_setting"] sp_law_holds := (fn_law_holds T).pub fun _ _ _ _ _ _ us hl => match us, hl with | [_, _, _], _ => rfl

theorem sc_law_keeps : FnScope ["_law_names_here", "_law_rule_here", "_law_setting", "_law_near", "_law_far"] ["_law_names_here", "_law_rule_here", "_law_setting"] (defScope (top 44)) := ⟨rfl, rfl, rfl, by decide +kernel, rfl, by decide +kernel, by decide +kernel⟩
def sp_law_keeps : DSp := fun ds M post => ∃ (ss : List Str) (r : Rule) (t : List Bool), ds = [strsF ss, ruleD r, setD t] ∧ (ruleOk ss r = true ∧ t.length = ss.length ∧ post (.bl (keepsR ss t r)) M)
theorem cl_law_keeps {ss : List Str} {r : Rule} {t : List Bool} {M : Mem} {post : WK} : sp_law_keeps [strsF ss, ruleD r, setD t] M post = (ruleOk ss r = true ∧ t.length = ss.length ∧ post (.bl (keepsR ss t r)) M) := by
  simp [-Bool.exists_bool, sp_law_keeps, tp_inj, tq_inj, litD_inj, strs_inj, ruleD_inj, clD_inj, setD_inj, rules_inj, lits_inj, sets_inj, ints_inj, panF_inj, rngs_inj, rngE_inj, sg_inj, and_assoc, Int.natCast_inj]
local macro_rules | `(tactic| walk_at "law_keeps") => `(tactic| simp only [↓cl_law_holds, cl_law_holds, ↓FD.wCM_e, ↓FD.wCMK_e, ↓FD.wMakeV_e, ↓FD.wMethKC_e, ↓FD.wSetSort_e, ↓FD.gSplit_e, ↓FD.gSplitN_e, ↓FD.wSetLenT_e, ↓FD.wRevT_e, ↓FD.wSetLen_e, ↓FD.wRev_e, ↓FD.gDictS_e, ↓FD.gMinS_e, ↓FD.gIndexB_e, ↓FD.gListN_e, ↓FD.gAddC_e, ↓FD.wDispN_e, ↓FD.wMethD_e, ↓FD.gPop0_e, ↓FD.sFin_e, ↓FD.gFldD_e, ↓FD.sCt_e, ↓FD.sFrz_e, ↓FD.gLeS_e, ↓FD.gStrO_e, ↓FD.gBoolO_e, ↓FD.wM0_e, ↓FD.gUpper_e, ↓FD.gUnL_e, ↓FD.sSeq_e, ↓FD.sRet_e, ↓FD.sIf_e, ↓FD.sAsg_e, ↓FD.gSet_e, ↓FD.sDrop_e, ↓FD.sNext_e, ↓FD.sPar_e, ↓FD.sPar3_e, ↓FD.wIf_e, ↓FD.wOp_e, ↓FD.wUn_e, ↓FD.wVar_e, ↓FD.wC_e, ↓FD.wTst_e, ↓FD.wAnd_e, ↓FD.wOr_e, ↓FD.wNot_e, ↓FD.wAndV_e, ↓FD.wOrV_e, ↓FD.wNotV_e, ↓FD.wChain_e, ↓FD.aNil_e, ↓FD.aCons_e, ↓FD.wTup_e, ↓FD.wLst_e, ↓FD.wFtp_e, ↓FD.wNew_e, ↓FD.wCall_e, ↓FD.wB_e, ↓FD.wSl_e, ↓FD.oSome_e, ↓FD.oNone_e, ↓FD.wIsi_e, ↓FD.wIsiC_e, ↓FD.p1_e, ↓FD.p2_e, ↓FD.gLen_e, ↓FD.iLst_e, ↓FD.iTup_e, ↓FD.iStrD_e, ↓FD.iEnT_e, ↓FD.iEnL_e, ↓FD.iRng_e, ↓FD.iRng2_e, ↓FD.gTup_e, ↓FD.gsNil_e, ↓FD.gsCons_e, ↓FD.wM_e, ↓FD.wIxT_e, ↓FD.wFld_e, ↓FD.wMeth_e, ↓FD.wMake_e, ↓FD.sFldD_e, ↓FD.wDGet_e, ↓FD.sDput_e, ↓FD.wDNewK_e, ↓FD.wDNewT_e, ↓FD.wDisp1_e, ↓FD.wIce_e, ↓FD.gSub_e, ↓FD.wCallK_e, ↓FD.t1_e, ↓FD.t2_e, ↓FD.t1w_e, ↓FD.tYesD_e, ↓FD.gDIn_e, ↓FD.gDNin_e, ↓FD.gIndexT_e, ↓FD.gIndex_e, ↓FD.gAbs_e, ↓FD.gMax_e, ↓FD.gMin_e, ↓FD.gDivmod_e, ↓FD.wFz_e, ↓FD.wDGetD_e, ↓FD.t3_e, ↓FD.iZip3D_e, ↓FD.sForIT_e, ↓FD.wIsiO_e, ↓FD.wFmt_e, ↓FD.wTruO_e, ↓FD.gLenO_e, ↓FD.wMakeK_e, ↓FD.gOwn_e, ↓FD.t12_e, ↓FD.iZipMD_e, ↓FD.sForKT_e, ↓FD.wDSetd_e, ↓FD.wVals_e, ↓FD.iRng3_e, ↓FD.iEnS_e, ↓FD.gZ2_eq, ↓zip2_cl, ↓FD.addF_ftp, ↓FD.wPs_nil, ↓FD.wPs_cons, ↓FM.keyed_nil, ↓FM.keyed_str, ↓FM.sortP_lst, ↓FM.sortP_ftp, ↓lk_de_switches, ↓lk_de_rules, ↓lk_de_promises, ↓lk_de_past, ↓lk_de_undo, ↓lk_de_put, ↓lk_de_turn, ↓lk_de_become, ↓lk_de_take, ↓lk_de_promise, ↓lk_de_lift, ↓lk_de_trial, ↓lk_de_as_panel, ↓put_de_past, ↓put_de_promises, ↓lk_sg_setting, ↓lk_sg_log, ↓lk_sg_past, ↓lk_sg_other, ↓insR_stage, ↓lk_bo_panel, ↓lk_bo_setting, ↓lk_bo_log, ↓lk_bo_busy, ↓lk_bo_past, ↓lk_bo_do, ↓lk_bo_do_all, ↓lk_bo_undo, ↓lk_bo_take, ↓lk_bo_trial, ↓lk_bo_is_deed, ↓lk_bo_check_idle, ↓put_bo_setting, ↓put_bo_log, ↓put_bo_busy, ↓put_bo_past, ↓isiO_pan, ↓insT_pan, ↓FD.js_nil, ↓FD.js_cons, ↓FD.wLc2N_eq, ↓FD.addN_lst, ↓sFor_eq, ↓wLc_eq, ↓wLc2_eq, ↓wDc_eq, ↓look_zero, ↓look_succ, ↓got_so, ↓isB_bl, ↓isI_int, ↓isS_str, ↓isT_tup, ↓isT_ftp, ↓isT_ktp, ↓isT_tp, ↓isT_tq, ↓one_one, ↓two_two, ↓startD_cc, ↓startD_cn, ↓startD_nn, ↓FD.ix_str, ↓FD.ix_tup, ↓ix_ftp, ↓ix_ktp, ↓ix_lst, ↓ix_scr, ↓ix_tp, ↓ix_tq, ↓atI0, ↓atI1, ↓atI2, ↓atI3, ↓FD.eq_str, ↓FD.ne_str, ↓FD.eq_int, ↓FD.ne_int, ↓FD.add_int, ↓FD.sub_int, ↓FD.lt_int, ↓FD.le_int, ↓FD.gt_int, ↓FD.ge_int, ↓FD.add_str, ↓FD.add_lst, ↓FD.add_tup, ↓FD.mul_int, ↓FD.mod_int, ↓FD.fdiv_int, ↓FD.pow_int, ↓isN_non, ↓notN_non, ↓FD.len_str, ↓len_tup, ↓len_ftp, ↓len_ktp, ↓len_lst, ↓len_scr, ↓len_tp, ↓len_tq, ↓seq_tup, ↓seq_ftp, ↓seq_ktp, ↓seq_lst, ↓seq_scr, ↓seq_tp, ↓seq_tq, ↓in_tup, ↓in_ftp, ↓in_ktp, ↓in_lst, ↓nin_tup, ↓nin_ftp, ↓nin_ktp, ↓nin_lst, ↓FD.in_str, ↓nin_str, ↓isC_one, ↓asL_lst, ↓asL_scr, ↓if_tt, ↓if_ff, ↓isi_ss, ↓isi_tt, ↓isi_st, ↓isi_ts, ↓ty_str, ↓ty_tup, ↓ty_ftp, ↓ty_ktp, ↓ty_tp, ↓ty_tq, ↓all_lst, ↓any_lst, ↓flat_s, ↓flat_set, ↓tuple_lst, ↓FD.int_int, ↓eq_ftp_nil, ↓ne_ftp_nil, ↓isNon_non, ↓isNon_int, ↓isNon_str, ↓isNon_ptr, ↓isNon_tup, ↓isNon_ftp, ↓inL_strs, ↓flatSs, ↓inL_sets, ↓flatSets, ↓FM.tw, ↓FM.tw3, ↓FM.sl_str, ↓sl_set, ↓cell_upd, ↓lk_sw, ↓lk_ru, ↓lk_st, ↓lk_place, ↓lk_has, ↓lk_keeps, ↓lk_wrongs, ↓lk_goods, ↓lk_ways_from, ↓lk_text, ↓ins_pan, ↓FD.fit_le, ↓cx_K, ↓nox_K, ↓blk_K, ↓bx_K, ↓c1, ↓c2, ↓c3, ↓c4, ↓inL_cons, ↓inL_nil, ↓all_bools, ↓any_bools, ↓in_tp, ↓in_tq, ↓nin_tp, ↓nin_tq, ↓FM.sl_ftp, ↓FM.sl_tup, ↓FM.sl_lst, ↓FM.sl_scr, ↓index_eq, ↓ex_ftp, ↓eqd_str, ↓wf_at, ↓isT_cl, ↓isT_st, ↓isT_lit, ↓ix_lit0, ↓ix_lit1, ↓len_lit, ↓ty_lit, ↓eq_lit, ↓ne_lit, ↓eq_set, ↓ne_set, ↓len_set, ↓ty_set, ↓isS_set, ↓isC_sg, ↓sNever_e, ↓enumD_map, ↓dpAll_strs, ↓dpAll_mapI, ↓ne_lst_nil, ↓eq_lst_nil, ↓isT_grp, ↓len_grp, ↓isDc_wf, ↓wn_at, ↓isT_way, ↓len_way, ↓ty_way, ↓ty_st, ↓len_st, ↓ix_st0, ↓ix_st1, ↓inD_lits, ↓ninD_lits, ↓dpAll_sets, ↓three_three, ↓zip3_sets, ↓isT_z3, ↓inL_lock, ↓ninT_lits, ↓FM.tp_t, ↓FM.tp_f, ↓FM.tq_t, ↓FM.tq_f, ↓isT_pr, ↓tupleP_lst, ↓isT_it, ↓isNon_set, ↓ixN30, ↓ixN31, ↓ixN32, ↓ix_upd, ↓FM.eq_bl, ↓FM.ne_bl, ↓FM.sl_tp, ↓lstOf_lst, ↓okL_lst, ↓gMulS_eq, ↓add_sets, ↓add_setb, ↓add_setp, ↓add_setm, ↓rngE_e, ↓ix_rule0, ↓repr_bb, ↓isB_isD, ↓isB_notD, ↓wLcN_eq, ↓optW_some, ↓optW_none, ↓isNon_way, ↓ne_way0, ↓mulL2, ↓add_rules, ↓add_rulesT, ↓add_rulesF, ↓ne_ftp_sets, ↓ne_ftp_lits, ↓ne_ftp_strs, ↓add_strs, Option.isSome_some, Option.isSome_none, Option.isNone_some, Option.isNone_none, Option.map_some, Option.map_none, isNon_optW, isNon_optL, pick_nil, pick_cons, List.getElem?_cons_zero, List.getElem?_cons_succ, List.nil_append, List.append_nil, List.cons_append, Bool.decide_eq_true, Bool.decide_eq_false, Int.reduceAbs, Int.reduceToNat, Int.reducePow, true_or, or_true, Mem.upd_upd, rng_int, Bool.not_true, Bool.not_false, Bool.false_eq_true, if_false, if_true, true_and, and_true, List.set_cons_zero, List.set_cons_succ, List.length_cons, List.length_nil, List.length_map, eq_self, decide_true, decide_false, Bool.true_eq_false, or_self, Bool.or_self, List.all_cons, List.all_nil, Bool.and_true, Bool.true_and, Bool.or_false, Bool.false_or, Bool.or_true, Bool.true_or, Bool.and_false, Bool.false_and, Int.reduceLT, Int.reduceLE, Int.reduceEq, Nat.reduceLeDiff, Nat.reduceAdd, Nat.reduceLT, wf_some, wn_some, fold_lit, fold_litp, fold_litm, sg_iff, sg_in_pm, isNon_opt, isEmpty_map, ↓reduceIte, nq_0_1, nq_0_2, nq_0_3, nq_0_4, nq_0_5, nq_0_6, nq_0_7, nq_1_0, nq_1_2, nq_1_3, nq_1_4, nq_1_5, nq_1_6, nq_1_7, nq_2_0, nq_2_1, nq_2_3, nq_2_4, nq_2_5, nq_2_6, nq_2_7, nq_3_0, nq_3_1, nq_3_2, nq_3_4, nq_3_5, nq_3_6, nq_3_7, nq_4_0, nq_4_1, nq_4_2, nq_4_3, nq_4_5, nq_4_6, nq_4_7, nq_5_0, nq_5_1, nq_5_2, nq_5_3, nq_5_4, nq_5_6, nq_5_7, nq_6_0, nq_6_1, nq_6_2, nq_6_3, nq_6_4, nq_6_5, nq_6_7, nq_7_0, nq_7_1, nq_7_2, nq_7_3, nq_7_4, nq_7_5, nq_7_6])
theorem fn_law_keeps (T : Tx P w K mg base) : Fng P w K mg base 2 "_law_keeps" (top 44) ["_law_names_here", "_law_rule_here", "_law_setting"] sp_law_keeps := by
  have S := sc_law_keeps
  refine fng_of T.d_law_keeps T.g_law_keeps S (fun ds M post h => by unfold sp_law_keeps at h; grind) fun f cdv A outer s H gd hr => ⟨_, (ds_cons (ds_if (dt_cmp (o_eq hr) (de_ix o_ix (dv 1) dint) dstr)
      (ds_one (ds_ret (de_call (ok_law_holds T) (hr.mono (by decide)) gd (da_cons (dv 0) (da_cons (de_ix o_ix (dv 1) dint) (da_cons (dv 2) da_nil))))))
      ds_nil)
      (ds_cons (ds_if (dt_cmp o_in (de_ix o_ix (dv 1) dint) (de_lst (da_cons dstr (da_cons dstr da_nil))))
      (ds_cons (ds_set (i := 3) S.nd (de_ix o_ix (dv 2) (de_ixT (dv 0) (da_cons (de_ix o_ix (dv 1) dint) da_nil))))
      (ds_cons (ds_set (i := 4) S.nd (de_ix o_ix (dv 2) (de_ixT (dv 0) (da_cons (de_ix o_ix (dv 1) dint) da_nil))))
      (ds_one (ds_ret (de_cmp (o_eq hr) (de_cmp (o_eq hr) (dv 3) (dv 4)) (de_cmp (o_eq hr) (de_ix o_ix (dv 1) dint) dstr))))))
      ds_nil)
      (ds_cons (ds_par (i := 3) (j := 4) rfl S.nd (da_cons (de_call (ok_law_holds T) (hr.mono (by decide)) gd (da_cons (dv 0) (da_cons (de_ix o_ix (dv 1) dint) (da_cons (dv 2) da_nil)))) (da_cons (de_call (ok_law_holds T) (hr.mono (by decide)) gd (da_cons (dv 0) (da_cons (de_ix o_ix (dv 1) dint) (da_cons (dv 2) da_nil)))) da_nil)))
      (ds_cons (ds_if (dt_cmp (o_eq hr) (de_ix o_ix (dv 1) dint) dstr)
      (ds_one (ds_ret (de_or (dv 3) (de_one (dv 4)))))
      ds_nil)
      (ds_one (ds_ret (de_if (dt_cmp (o_eq hr) (de_ix o_ix (dv 1) dint) dstr) (de_or (de_not (dv 3)) (de_one (dv 4))) (de_not (de_and (dv 3) (de_one (dv 4))))))))))), ?_⟩
  rintro ds M post ⟨ss, r, t, rfl, hr2, hl, h⟩
  cases r <;> unfold ruleD <;> simp [ruleOk, litOk] at hr2
  · rename_i a
    (try walk_at "law_keeps")
    refine ⟨hr2, hl, ?_⟩
    have e : keepsR ss t (.be a) = hasL ss t a := by simp [keepsR, clauses, keepsC]
    rw [e] at h
    exact h
  · rename_i a b
    have e : keepsR ss t (.either a b) = (hasL ss t a || hasL ss t b) := by simp [keepsR, clauses, keepsC]
    rw [e] at h
    (try walk_at "law_keeps")
    refine ⟨hr2.1.1, hl, hr2.1.2, hl, ?_⟩
    cases h1 : hasL ss t a <;> rw [h1] at h <;> (try walk_at "law_keeps") <;> exact h
  · rename_i a b
    have e : keepsR ss t (.needs a b) = (!hasL ss t a || hasL ss t b) := by simp [keepsR, clauses, keepsC, has_op]
    rw [e] at h
    (try walk_at "law_keeps")
    refine ⟨hr2.1.1, hl, hr2.1.2, hl, ?_⟩
    cases h1 : hasL ss t a <;> rw [h1] at h <;> (try walk_at "law_keeps") <;> exact h
  · rename_i a b
    have e : keepsR ss t (.bars a b) = (!(hasL ss t a && hasL ss t b)) := by simp [keepsR, clauses, keepsC, has_op]
    rw [e] at h
    (try walk_at "law_keeps")
    refine ⟨hr2.1.1, hl, hr2.1.2, hl, ?_⟩
    cases h1 : hasL ss t a <;> rw [h1] at h <;> (try walk_at "law_keeps") <;> exact h
  · rename_i f x y
    have e : keepsR ss t (.same f x y) = (decide (val ss t x = val ss t y)) := by
      simp [keepsR, clauses, keepsC, hasL]
      cases val ss t x <;> cases val ss t y <;> rfl
    rw [e] at h
    (try walk_at "law_keeps")
    simp only [find_eq hr2.1.1, ix_set (val_at hr2.1.1 hl), find_eq hr2.1.2, ix_set (val_at hr2.1.2 hl)]
    (try walk_at "law_keeps")
    exact h
  · rename_i f x y
    have e : keepsR ss t (.unlike f x y) = (!decide (val ss t x = val ss t y)) := by
      simp [keepsR, clauses, keepsC, hasL]
      cases val ss t x <;> cases val ss t y <;> rfl
    rw [e] at h
    (try walk_at "law_keeps")
    simp only [find_eq hr2.1.1, ix_set (val_at hr2.1.1 hl), find_eq hr2.1.2, ix_set (val_at hr2.1.2 hl)]
    (try walk_at "law_keeps")
    exact h
theorem ok_law_keeps (T : Tx P w K mg base) : Pub P w K mg base 2 "_law_keeps" ["_law_names_here", "_law_rule_here", "_law_setting"] sp_law_keeps := (fn_law_keeps T).pub fun _ _ _ _ _ _ us hl => match us, hl with | [_, _, _], _ => rfl

theorem sc_law_rule : FnScope ["_law_bag_here", "_law_names_here", "_law_base", "_law_off", "_law_turn", "_law_x", "_law_y", "_law_near", "_law_far", "_law_word", "_law_rule_here"] ["_law_bag_here", "_law_names_here", "_law_base", "_law_off"] (defScope (top 40)) := ⟨rfl, rfl, rfl, by decide +kernel, rfl, by decide +kernel, by decide +kernel⟩
def sp_law_rule : DSp := fun ds M post => ∃ (j : Addr) (ss : List Str) (t : List Bool) (o : Int), ds = [.ptr j, strsF ss, setD t, .int o] ∧ (Jg M j ∧ ss ≠ [] ∧ ss.length ≤ 1000 ∧ ss.Nodup ∧ t.length = ss.length ∧ ∀ r, ruleOk ss r = true → (o ≠ 1 → keepsR ss t r = true) → ∀ M', Jm j M M' → post (ruleD r) M')
theorem cl_law_rule {j : Addr} {ss : List Str} {t : List Bool} {o : Int} {M : Mem} {post : WK} : sp_law_rule [.ptr j, strsF ss, setD t, .int o] M post = (Jg M j ∧ ss ≠ [] ∧ ss.length ≤ 1000 ∧ ss.Nodup ∧ t.length = ss.length ∧ ∀ r, ruleOk ss r = true → (o ≠ 1 → keepsR ss t r = true) → ∀ M', Jm j M M' → post (ruleD r) M') := by
  simp [-Bool.exists_bool, sp_law_rule, tp_inj, tq_inj, litD_inj, strs_inj, ruleD_inj, clD_inj, setD_inj, rules_inj, lits_inj, sets_inj, ints_inj, panF_inj, rngs_inj, rngE_inj, sg_inj, and_assoc, Int.natCast_inj]
local macro_rules | `(tactic| walk_at "law_rule") => `(tactic| simp only [↓cl_law_draw, cl_law_draw, ↓cl_law_one, cl_law_one, ↓cl_law_keeps, cl_law_keeps, ↓FD.wCM_e, ↓FD.wCMK_e, ↓FD.wMakeV_e, ↓FD.wMethKC_e, ↓FD.wSetSort_e, ↓FD.gSplit_e, ↓FD.gSplitN_e, ↓FD.wSetLenT_e, ↓FD.wRevT_e, ↓FD.wSetLen_e, ↓FD.wRev_e, ↓FD.gDictS_e, ↓FD.gMinS_e, ↓FD.gIndexB_e, ↓FD.gListN_e, ↓FD.gAddC_e, ↓FD.wDispN_e, ↓FD.wMethD_e, ↓FD.gPop0_e, ↓FD.sFin_e, ↓FD.gFldD_e, ↓FD.sCt_e, ↓FD.sFrz_e, ↓FD.gLeS_e, ↓FD.gStrO_e, ↓FD.gBoolO_e, ↓FD.wM0_e, ↓FD.gUpper_e, ↓FD.gUnL_e, ↓FD.sSeq_e, ↓FD.sRet_e, ↓FD.sIf_e, ↓FD.sAsg_e, ↓FD.gSet_e, ↓FD.sDrop_e, ↓FD.sNext_e, ↓FD.sPar_e, ↓FD.sPar3_e, ↓FD.wIf_e, ↓FD.wOp_e, ↓FD.wUn_e, ↓FD.wVar_e, ↓FD.wC_e, ↓FD.wTst_e, ↓FD.wAnd_e, ↓FD.wOr_e, ↓FD.wNot_e, ↓FD.wAndV_e, ↓FD.wOrV_e, ↓FD.wNotV_e, ↓FD.wChain_e, ↓FD.aNil_e, ↓FD.aCons_e, ↓FD.wTup_e, ↓FD.wLst_e, ↓FD.wFtp_e, ↓FD.wNew_e, ↓FD.wCall_e, ↓FD.wB_e, ↓FD.wSl_e, ↓FD.oSome_e, ↓FD.oNone_e, ↓FD.wIsi_e, ↓FD.wIsiC_e, ↓FD.p1_e, ↓FD.p2_e, ↓FD.gLen_e, ↓FD.iLst_e, ↓FD.iTup_e, ↓FD.iStrD_e, ↓FD.iEnT_e, ↓FD.iEnL_e, ↓FD.iRng_e, ↓FD.iRng2_e, ↓FD.gTup_e, ↓FD.gsNil_e, ↓FD.gsCons_e, ↓FD.wM_e, ↓FD.wIxT_e, ↓FD.wFld_e, ↓FD.wMeth_e, ↓FD.wMake_e, ↓FD.sFldD_e, ↓FD.wDGet_e, ↓FD.sDput_e, ↓FD.wDNewK_e, ↓FD.wDNewT_e, ↓FD.wDisp1_e, ↓FD.wIce_e, ↓FD.gSub_e, ↓FD.wCallK_e, ↓FD.t1_e, ↓FD.t2_e, ↓FD.t1w_e, ↓FD.tYesD_e, ↓FD.gDIn_e, ↓FD.gDNin_e, ↓FD.gIndexT_e, ↓FD.gIndex_e, ↓FD.gAbs_e, ↓FD.gMax_e, ↓FD.gMin_e, ↓FD.gDivmod_e, ↓FD.wFz_e, ↓FD.wDGetD_e, ↓FD.t3_e, ↓FD.iZip3D_e, ↓FD.sForIT_e, ↓FD.wIsiO_e, ↓FD.wFmt_e, ↓FD.wTruO_e, ↓FD.gLenO_e, ↓FD.wMakeK_e, ↓FD.gOwn_e, ↓FD.t12_e, ↓FD.iZipMD_e, ↓FD.sForKT_e, ↓FD.wDSetd_e, ↓FD.wVals_e, ↓FD.iRng3_e, ↓FD.iEnS_e, ↓FD.gZ2_eq, ↓zip2_cl, ↓FD.addF_ftp, ↓FD.wPs_nil, ↓FD.wPs_cons, ↓FM.keyed_nil, ↓FM.keyed_str, ↓FM.sortP_lst, ↓FM.sortP_ftp, ↓lk_de_switches, ↓lk_de_rules, ↓lk_de_promises, ↓lk_de_past, ↓lk_de_undo, ↓lk_de_put, ↓lk_de_turn, ↓lk_de_become, ↓lk_de_take, ↓lk_de_promise, ↓lk_de_lift, ↓lk_de_trial, ↓lk_de_as_panel, ↓put_de_past, ↓put_de_promises, ↓lk_sg_setting, ↓lk_sg_log, ↓lk_sg_past, ↓lk_sg_other, ↓insR_stage, ↓lk_bo_panel, ↓lk_bo_setting, ↓lk_bo_log, ↓lk_bo_busy, ↓lk_bo_past, ↓lk_bo_do, ↓lk_bo_do_all, ↓lk_bo_undo, ↓lk_bo_take, ↓lk_bo_trial, ↓lk_bo_is_deed, ↓lk_bo_check_idle, ↓put_bo_setting, ↓put_bo_log, ↓put_bo_busy, ↓put_bo_past, ↓isiO_pan, ↓insT_pan, ↓FD.js_nil, ↓FD.js_cons, ↓FD.wLc2N_eq, ↓FD.addN_lst, ↓sFor_eq, ↓wLc_eq, ↓wLc2_eq, ↓wDc_eq, ↓look_zero, ↓look_succ, ↓got_so, ↓isB_bl, ↓isI_int, ↓isS_str, ↓isT_tup, ↓isT_ftp, ↓isT_ktp, ↓isT_tp, ↓isT_tq, ↓one_one, ↓two_two, ↓startD_cc, ↓startD_cn, ↓startD_nn, ↓FD.ix_str, ↓FD.ix_tup, ↓ix_ftp, ↓ix_ktp, ↓ix_lst, ↓ix_scr, ↓ix_tp, ↓ix_tq, ↓atI0, ↓atI1, ↓atI2, ↓atI3, ↓FD.eq_str, ↓FD.ne_str, ↓FD.eq_int, ↓FD.ne_int, ↓FD.add_int, ↓FD.sub_int, ↓FD.lt_int, ↓FD.le_int, ↓FD.gt_int, ↓FD.ge_int, ↓FD.add_str, ↓FD.add_lst, ↓FD.add_tup, ↓FD.mul_int, ↓FD.mod_int, ↓FD.fdiv_int, ↓FD.pow_int, ↓isN_non, ↓notN_non, ↓FD.len_str, ↓len_tup, ↓len_ftp, ↓len_ktp, ↓len_lst, ↓len_scr, ↓len_tp, ↓len_tq, ↓seq_tup, ↓seq_ftp, ↓seq_ktp, ↓seq_lst, ↓seq_scr, ↓seq_tp, ↓seq_tq, ↓in_tup, ↓in_ftp, ↓in_ktp, ↓in_lst, ↓nin_tup, ↓nin_ftp, ↓nin_ktp, ↓nin_lst, ↓FD.in_str, ↓nin_str, ↓isC_one, ↓asL_lst, ↓asL_scr, ↓if_tt, ↓if_ff, ↓isi_ss, ↓isi_tt, ↓isi_st, ↓isi_ts, ↓ty_str, ↓ty_tup, ↓ty_ftp, ↓ty_ktp, ↓ty_tp, ↓ty_tq, ↓all_lst, ↓any_lst, ↓flat_s, ↓flat_set, ↓tuple_lst, ↓FD.int_int, ↓eq_ftp_nil, ↓ne_ftp_nil, ↓isNon_non, ↓isNon_int, ↓isNon_str, ↓isNon_ptr, ↓isNon_tup, ↓isNon_ftp, ↓inL_strs, ↓flatSs, ↓inL_sets, ↓flatSets, ↓FM.tw, ↓FM.tw3, ↓FM.sl_str, ↓sl_set, ↓cell_upd, ↓lk_sw, ↓lk_ru, ↓lk_st, ↓lk_place, ↓lk_has, ↓lk_keeps, ↓lk_wrongs, ↓lk_goods, ↓lk_ways_from, ↓lk_text, ↓ins_pan, ↓FD.fit_le, ↓cx_K, ↓nox_K, ↓blk_K, ↓bx_K, ↓c1, ↓c2, ↓c3, ↓c4, ↓inL_cons, ↓inL_nil, ↓all_bools, ↓any_bools, ↓in_tp, ↓in_tq, ↓nin_tp, ↓nin_tq, ↓FM.sl_ftp, ↓FM.sl_tup, ↓FM.sl_lst, ↓FM.sl_scr, ↓index_eq, ↓ex_ftp, ↓eqd_str, ↓wf_at, ↓isT_cl, ↓isT_st, ↓isT_lit, ↓ix_lit0, ↓ix_lit1, ↓len_lit, ↓ty_lit, ↓eq_lit, ↓ne_lit, ↓eq_set, ↓ne_set, ↓len_set, ↓ty_set, ↓isS_set, ↓isC_sg, ↓sNever_e, ↓enumD_map, ↓dpAll_strs, ↓dpAll_mapI, ↓ne_lst_nil, ↓eq_lst_nil, ↓isT_grp, ↓len_grp, ↓isDc_wf, ↓wn_at, ↓isT_way, ↓len_way, ↓ty_way, ↓ty_st, ↓len_st, ↓ix_st0, ↓ix_st1, ↓inD_lits, ↓ninD_lits, ↓dpAll_sets, ↓three_three, ↓zip3_sets, ↓isT_z3, ↓inL_lock, ↓ninT_lits, ↓FM.tp_t, ↓FM.tp_f, ↓FM.tq_t, ↓FM.tq_f, ↓isT_pr, ↓tupleP_lst, ↓isT_it, ↓isNon_set, ↓ixN30, ↓ixN31, ↓ixN32, ↓ix_upd, ↓FM.eq_bl, ↓FM.ne_bl, ↓FM.sl_tp, ↓lstOf_lst, ↓okL_lst, ↓gMulS_eq, ↓add_sets, ↓add_setb, ↓add_setp, ↓add_setm, ↓rngE_e, ↓ix_rule0, ↓repr_bb, ↓isB_isD, ↓isB_notD, ↓wLcN_eq, ↓optW_some, ↓optW_none, ↓isNon_way, ↓ne_way0, ↓mulL2, ↓add_rules, ↓add_rulesT, ↓add_rulesF, ↓ne_ftp_sets, ↓ne_ftp_lits, ↓ne_ftp_strs, ↓add_strs, Option.isSome_some, Option.isSome_none, Option.isNone_some, Option.isNone_none, Option.map_some, Option.map_none, isNon_optW, isNon_optL, pick_nil, pick_cons, List.getElem?_cons_zero, List.getElem?_cons_succ, List.nil_append, List.append_nil, List.cons_append, Bool.decide_eq_true, Bool.decide_eq_false, Int.reduceAbs, Int.reduceToNat, Int.reducePow, true_or, or_true, Mem.upd_upd, rng_int, Bool.not_true, Bool.not_false, Bool.false_eq_true, if_false, if_true, true_and, and_true, List.set_cons_zero, List.set_cons_succ, List.length_cons, List.length_nil, List.length_map, eq_self, decide_true, decide_false, Bool.true_eq_false, or_self, Bool.or_self, List.all_cons, List.all_nil, Bool.and_true, Bool.true_and, Bool.or_false, Bool.false_or, Bool.or_true, Bool.true_or, Bool.and_false, Bool.false_and, Int.reduceLT, Int.reduceLE, Int.reduceEq, Nat.reduceLeDiff, Nat.reduceAdd, Nat.reduceLT, wf_some, wn_some, fold_lit, fold_litp, fold_litm, sg_iff, sg_in_pm, isNon_opt, isEmpty_map, ↓reduceIte, nq_0_1, nq_0_2, nq_0_3, nq_0_4, nq_0_5, nq_0_6, nq_0_7, nq_1_0, nq_1_2, nq_1_3, nq_1_4, nq_1_5, nq_1_6, nq_1_7, nq_2_0, nq_2_1, nq_2_3, nq_2_4, nq_2_5, nq_2_6, nq_2_7, nq_3_0, nq_3_1, nq_3_2, nq_3_4, nq_3_5, nq_3_6, nq_3_7, nq_4_0, nq_4_1, nq_4_2, nq_4_3, nq_4_5, nq_4_6, nq_4_7, nq_5_0, nq_5_1, nq_5_2, nq_5_3, nq_5_4, nq_5_6, nq_5_7, nq_6_0, nq_6_1, nq_6_2, nq_6_3, nq_6_4, nq_6_5, nq_6_7, nq_7_0, nq_7_1, nq_7_2, nq_7_3, nq_7_4, nq_7_5, nq_7_6])
theorem fn_law_rule (T : Tx P w K mg base) : Fng P w K mg base 3 "_law_rule" (top 40) ["_law_bag_here", "_law_names_here", "_law_base", "_law_off"] sp_law_rule := by
  have S := sc_law_rule
  refine fng_of T.d_law_rule T.g_law_rule S (fun ds M post h => by unfold sp_law_rule at h; grind) fun f cdv A outer s H gd hr => ⟨_, (ds_cons (ds_for PassesOwn.never rfl (di_range T.m_range (da_cons dint da_nil)) (dg_name (i := 4) S.nd)
      (ds_cons (ds_par (i := 5) (j := 6) rfl S.nd (da_cons (de_call (ok_law_draw T) (hr.mono (by decide)) gd (da_cons (dv 0) (da_cons (de_b c_len T.m_len (by decide +kernel) (da_cons (dv 1) da_nil)) da_nil))) (da_cons (de_call (ok_law_draw T) (hr.mono (by decide)) gd (da_cons (dv 0) (da_cons (de_b c_len T.m_len (by decide +kernel) (da_cons (dv 1) da_nil)) da_nil))) da_nil)))
      (ds_cons (ds_par (i := 7) (j := 8) rfl S.nd (da_cons (de_tup (da_cons (de_ix o_ix (dv 1) (dv 5)) (da_cons (de_ix o_ix dstr (de_call (ok_law_draw T) (hr.mono (by decide)) gd (da_cons (dv 0) (da_cons dint da_nil)))) da_nil))) (da_cons (de_tup (da_cons (de_ix o_ix (dv 1) (dv 6)) (da_cons (de_ix o_ix dstr (de_call (ok_law_draw T) (hr.mono (by decide)) gd (da_cons (dv 0) (da_cons dint da_nil)))) da_nil))) da_nil)))
      (ds_cons (ds_set (i := 9) S.nd (de_call (ok_law_one T) (hr.mono (by decide)) gd (da_cons (dv 0) (da_cons (de_lst (da_cons dstr (da_cons dstr (da_cons dstr (da_cons dstr (da_cons dstr (da_cons dstr (da_cons dstr da_nil)))))))) da_nil))))
      (ds_cons (ds_set (i := 10) S.nd (de_if (dt_cmp o_in (dv 9) (de_lst (da_cons dstr (da_cons dstr da_nil)))) (de_tup (da_cons (dv 9) (da_cons (de_ix o_ix (dv 1) (dv 5)) (da_cons (de_ix o_ix (dv 1) (dv 6)) da_nil)))) (de_tup (da_cons (dv 9) (da_cons (dv 7) (da_cons (dv 8) da_nil))))))
      (ds_cons (ds_set (i := 10) S.nd (de_if (PW.pt (dw_or (dt_cmp (o_eq hr) (dv 9) dstr) (dw_or1 (dt_cmp (o_eq hr) (dv 5) (dv 6))))) (de_tup (da_cons dstr (da_cons (dv 7) da_nil))) (dv 10)))
      (ds_one (ds_if (PW.pt (dw_or (dt_cmp (o_eq hr) (dv 3) dint) (dw_or1 (dt_val (de_call (ok_law_keeps T) (hr.mono (by decide)) gd (da_cons (dv 1) (da_cons (dv 10) (da_cons (dv 2) da_nil))))))))
      (ds_one (ds_ret (dv 10)))
      ds_nil))))))))
      (ds_one (ds_ret (de_tup (da_cons dstr (da_cons (de_tup (da_cons (de_ix o_ix (dv 1) dint) (da_cons (de_ix o_ix (dv 2) dint) da_nil))) da_nil)))))), ?_⟩
  rintro ds M post ⟨j, ss, t, o, rfl, hj, hne, hl, nd, tl, h⟩
  have lp := List.length_pos_iff.mpr hne
  (try walk_at "law_rule")
  rw [rng_eq]
  refine for_map (List.range 30) rngE (fun i Γ' M' => (∃ x1 x2 x3 x4 x5 x6 x7, Γ' = [some (.ptr j), some (strsF ss), some (setD t), some (.int o), x1, x2, x3, x4, x5, x6, x7]) ∧ Jm j M M') ⟨⟨_, _, _, _, _, _, _, rfl⟩, .refl hj⟩ (fun _ _ _ _ => trivial) ?_ ?_
  · rintro i k hk Γ' M' ⟨⟨x1, x2, x3, x4, x5, x6, x7, rfl⟩, j0⟩
    (try walk_at "law_rule")
    refine ⟨j0.jg, by omega, by omega, ?_⟩
    intro v hv M1 j1
    refine ⟨j1.jg, by omega, by omega, ?_⟩
    intro u hu M2 j2
    rw [atI_map (l := ss) (f := D.str) (("" : Str)) (by omega)]
    refine ⟨j2.jg, ?_⟩
    intro s1 hs1 M3 j3
    rw [at_pm (by omega), ← sg_eq]
    rw [atI_map (l := ss) (f := D.str) (("" : Str)) (by omega)]
    refine ⟨j3.jg, ?_⟩
    intro s2 hs2 M4 j4
    rw [at_pm (by omega), ← sg_eq]
    refine ⟨j4.jg, by simp, ?_⟩
    intro w hw M5 j5
    have J := j0.trans (j1.trans (j2.trans (j3.trans (j4.trans j5))))
    have m1 := getD_mem (l := ss) (i := v) (("" : Str)) (by omega)
    have m2 := getD_mem (l := ss) (i := u) (("" : Str)) (by omega)
    generalize decide (s1 = 0) = b1
    generalize decide (s2 = 0) = b2
    have fin : ∀ (r : Rule) (N : Mem → Prop), ruleOk ss r = true → N M5 → (if decide (o = 1) = true then post (ruleD r) M5 else sp_law_keeps [strsF ss, ruleD r, setD t] M5 fun d M1 => isB d fun b => if b = true then post (ruleD r) M1 else N M1) := fun r N hr2 hN => by
      by_cases ho : o = 1
      · rw [if_pos (by simp [ho])]; exact h r hr2 (fun z => absurd ho z) M5 J
      · rw [if_neg (by simp [ho]), cl_law_keeps]
        refine ⟨hr2, tl, ?_⟩
        rw [isB_bl]
        by_cases hk : keepsR ss t r = true
        · rw [if_pos hk]; exact h r hr2 (fun _ => hk) M5 J
        · rw [if_neg hk]; exact hN
    have kb : ruleOk ss (.be ⟨ss.getD v "", b1⟩) = true := by simp only [ruleOk, litOk]; exact decide_eq_true m1
    simp only [List.mem_cons, List.not_mem_nil, or_false] at hw
    by_cases e : v = u
    · subst e
      rcases hw with rfl | rfl | rfl | rfl | rfl | rfl | rfl
      all_goals
        (try walk_at "law_rule")
        try simp only [atI_map (l := ss) (f := D.str) (("" : Str)) (show v < ss.length by omega)]
        (try walk_at "law_rule")
        exact fin (.be ⟨ss.getD v "", b1⟩) _ kb ⟨⟨_, _, _, _, _, _, _, rfl⟩, J⟩
    · have ne : ¬ ss.getD v "" = ss.getD u "" := fun z => e (getD_inj nd _ (by omega) (by omega) z)
      have ne2 : ¬ ((v : Int) = (u : Int)) := by omega
      have k1 : (decide (ss.getD v "" ∈ ss) && decide (ss.getD u "" ∈ ss) && !decide (ss.getD v "" = ss.getD u "")) = true := by
        rw [decide_eq_true m1, decide_eq_true m2, decide_eq_false ne]; rfl
      rcases hw with rfl | rfl | rfl | rfl | rfl | rfl | rfl
      all_goals
        (try walk_at "law_rule")
        try simp only [atI_map (l := ss) (f := D.str) (("" : Str)) (show v < ss.length by omega), atI_map (l := ss) (f := D.str) (("" : Str)) (show u < ss.length by omega)]
        try simp only [ne2, decide_false, Bool.false_eq_true, if_false]
        (try walk_at "law_rule")
      · exact fin (.either ⟨ss.getD v "", b1⟩ ⟨ss.getD u "", b2⟩) _ k1 ⟨⟨_, _, _, _, _, _, _, rfl⟩, J⟩
      · exact fin (.needs ⟨ss.getD v "", b1⟩ ⟨ss.getD u "", b2⟩) _ k1 ⟨⟨_, _, _, _, _, _, _, rfl⟩, J⟩
      · exact fin (.needs ⟨ss.getD v "", b1⟩ ⟨ss.getD u "", b2⟩) _ k1 ⟨⟨_, _, _, _, _, _, _, rfl⟩, J⟩
      · exact fin (.bars ⟨ss.getD v "", b1⟩ ⟨ss.getD u "", b2⟩) _ k1 ⟨⟨_, _, _, _, _, _, _, rfl⟩, J⟩
      · exact fin (.same false (ss.getD v "") (ss.getD u "")) _ k1 ⟨⟨_, _, _, _, _, _, _, rfl⟩, J⟩
      · exact fin (.unlike false (ss.getD v "") (ss.getD u "")) _ k1 ⟨⟨_, _, _, _, _, _, _, rfl⟩, J⟩
      · exact fin (.be ⟨ss.getD v "", b1⟩) _ kb ⟨⟨_, _, _, _, _, _, _, rfl⟩, J⟩
  · rintro Γ' M' ⟨⟨x1, x2, x3, x4, x5, x6, x7, rfl⟩, j1⟩
    obtain ⟨s0, ss', rfl⟩ := List.exists_cons_of_ne_nil hne
    obtain ⟨b0, t', rfl⟩ : ∃ b0 t', t = b0 :: t' := List.exists_cons_of_ne_nil (fun z => by rw [z] at tl; simp at tl)
    have e0 : ∀ post', gIx M' (setD (b0 :: t')) (.int 0) post' = post' (.str (sg b0)) M' := fun _ => ix_set (i := 0) rfl
    have e1 : ∀ post', gIx M' (strsF (s0 :: ss')) (.int 0) post' = post' (.str s0) M' := fun _ => by rw [ix_ftp, List.map_cons, atI0, got_so]
    (try walk_at "law_rule")
    simp only [e0, e1]
    (try walk_at "law_rule")
    rw [List.map_cons, atI0, got_so]
    exact h (.be ⟨s0, b0⟩) (by simp [ruleOk, litOk]) (fun _ => by simp [keepsR, clauses, keepsC, hasL, val]) M' j1
theorem ok_law_rule (T : Tx P w K mg base) : Pub P w K mg base 3 "_law_rule" ["_law_bag_here", "_law_names_here", "_law_base", "_law_off"] sp_law_rule := (fn_law_rule T).pub fun _ _ _ _ _ _ us hl => match us, hl with | [_, _, _, _], _ => rfl

theorem sc_law_panel : FnScope ["_law_bag_here", "_law_wide", "_law_most", "_law_names_here", "_law_base", "_law_name", "_law_found", "_law_k"] ["_law_bag_here", "_law_wide", "_law_most"] (defScope (top 41)) := ⟨rfl, rfl, rfl, by decide +kernel, rfl, by decide +kernel, by decide +kernel⟩
def sp_law_panel : DSp := fun ds M post => ∃ (j : Addr) (m b : Int), ds = [.ptr j, .int m, .int b] ∧ (Jg M j ∧ 0 < m ∧ m ≤ 10 ∧ 0 ≤ b ∧ b ≤ 239 ∧ ∀ (p : Pan) (t : List Bool), (p.ss.length : Int) ≤ m → (p.rs.length : Int) ≤ b + 1 → t.length = p.ss.length → ∀ M', Jm j M M' → post (.lst [strsF p.ss, .ftp (p.rs.map ruleD), setD t]) M')
theorem cl_law_panel {j : Addr} {m b : Int} {M : Mem} {post : WK} : sp_law_panel [.ptr j, .int m, .int b] M post = (Jg M j ∧ 0 < m ∧ m ≤ 10 ∧ 0 ≤ b ∧ b ≤ 239 ∧ ∀ (p : Pan) (t : List Bool), (p.ss.length : Int) ≤ m → (p.rs.length : Int) ≤ b + 1 → t.length = p.ss.length → ∀ M', Jm j M M' → post (.lst [strsF p.ss, .ftp (p.rs.map ruleD), setD t]) M') := by
  simp [-Bool.exists_bool, sp_law_panel, tp_inj, tq_inj, litD_inj, strs_inj, ruleD_inj, clD_inj, setD_inj, rules_inj, lits_inj, sets_inj, ints_inj, panF_inj, rngs_inj, rngE_inj, sg_inj, and_assoc, Int.natCast_inj]
local macro_rules | `(tactic| walk_at "law_panel") => `(tactic| simp only [↓cl_law_draw, cl_law_draw, ↓cl_law_names, cl_law_names, ↓cl_law_rule, cl_law_rule, ↓FD.wCM_e, ↓FD.wCMK_e, ↓FD.wMakeV_e, ↓FD.wMethKC_e, ↓FD.wSetSort_e, ↓FD.gSplit_e, ↓FD.gSplitN_e, ↓FD.wSetLenT_e, ↓FD.wRevT_e, ↓FD.wSetLen_e, ↓FD.wRev_e, ↓FD.gDictS_e, ↓FD.gMinS_e, ↓FD.gIndexB_e, ↓FD.gListN_e, ↓FD.gAddC_e, ↓FD.wDispN_e, ↓FD.wMethD_e, ↓FD.gPop0_e, ↓FD.sFin_e, ↓FD.gFldD_e, ↓FD.sCt_e, ↓FD.sFrz_e, ↓FD.gLeS_e, ↓FD.gStrO_e, ↓FD.gBoolO_e, ↓FD.wM0_e, ↓FD.gUpper_e, ↓FD.gUnL_e, ↓FD.sSeq_e, ↓FD.sRet_e, ↓FD.sIf_e, ↓FD.sAsg_e, ↓FD.gSet_e, ↓FD.sDrop_e, ↓FD.sNext_e, ↓FD.sPar_e, ↓FD.sPar3_e, ↓FD.wIf_e, ↓FD.wOp_e, ↓FD.wUn_e, ↓FD.wVar_e, ↓FD.wC_e, ↓FD.wTst_e, ↓FD.wAnd_e, ↓FD.wOr_e, ↓FD.wNot_e, ↓FD.wAndV_e, ↓FD.wOrV_e, ↓FD.wNotV_e, ↓FD.wChain_e, ↓FD.aNil_e, ↓FD.aCons_e, ↓FD.wTup_e, ↓FD.wLst_e, ↓FD.wFtp_e, ↓FD.wNew_e, ↓FD.wCall_e, ↓FD.wB_e, ↓FD.wSl_e, ↓FD.oSome_e, ↓FD.oNone_e, ↓FD.wIsi_e, ↓FD.wIsiC_e, ↓FD.p1_e, ↓FD.p2_e, ↓FD.gLen_e, ↓FD.iLst_e, ↓FD.iTup_e, ↓FD.iStrD_e, ↓FD.iEnT_e, ↓FD.iEnL_e, ↓FD.iRng_e, ↓FD.iRng2_e, ↓FD.gTup_e, ↓FD.gsNil_e, ↓FD.gsCons_e, ↓FD.wM_e, ↓FD.wIxT_e, ↓FD.wFld_e, ↓FD.wMeth_e, ↓FD.wMake_e, ↓FD.sFldD_e, ↓FD.wDGet_e, ↓FD.sDput_e, ↓FD.wDNewK_e, ↓FD.wDNewT_e, ↓FD.wDisp1_e, ↓FD.wIce_e, ↓FD.gSub_e, ↓FD.wCallK_e, ↓FD.t1_e, ↓FD.t2_e, ↓FD.t1w_e, ↓FD.tYesD_e, ↓FD.gDIn_e, ↓FD.gDNin_e, ↓FD.gIndexT_e, ↓FD.gIndex_e, ↓FD.gAbs_e, ↓FD.gMax_e, ↓FD.gMin_e, ↓FD.gDivmod_e, ↓FD.wFz_e, ↓FD.wDGetD_e, ↓FD.t3_e, ↓FD.iZip3D_e, ↓FD.sForIT_e, ↓FD.wIsiO_e, ↓FD.wFmt_e, ↓FD.wTruO_e, ↓FD.gLenO_e, ↓FD.wMakeK_e, ↓FD.gOwn_e, ↓FD.t12_e, ↓FD.iZipMD_e, ↓FD.sForKT_e, ↓FD.wDSetd_e, ↓FD.wVals_e, ↓FD.iRng3_e, ↓FD.iEnS_e, ↓FD.gZ2_eq, ↓zip2_cl, ↓FD.addF_ftp, ↓FD.wPs_nil, ↓FD.wPs_cons, ↓FM.keyed_nil, ↓FM.keyed_str, ↓FM.sortP_lst, ↓FM.sortP_ftp, ↓lk_de_switches, ↓lk_de_rules, ↓lk_de_promises, ↓lk_de_past, ↓lk_de_undo, ↓lk_de_put, ↓lk_de_turn, ↓lk_de_become, ↓lk_de_take, ↓lk_de_promise, ↓lk_de_lift, ↓lk_de_trial, ↓lk_de_as_panel, ↓put_de_past, ↓put_de_promises, ↓lk_sg_setting, ↓lk_sg_log, ↓lk_sg_past, ↓lk_sg_other, ↓insR_stage, ↓lk_bo_panel, ↓lk_bo_setting, ↓lk_bo_log, ↓lk_bo_busy, ↓lk_bo_past, ↓lk_bo_do, ↓lk_bo_do_all, ↓lk_bo_undo, ↓lk_bo_take, ↓lk_bo_trial, ↓lk_bo_is_deed, ↓lk_bo_check_idle, ↓put_bo_setting, ↓put_bo_log, ↓put_bo_busy, ↓put_bo_past, ↓isiO_pan, ↓insT_pan, ↓FD.js_nil, ↓FD.js_cons, ↓FD.wLc2N_eq, ↓FD.addN_lst, ↓sFor_eq, ↓wLc_eq, ↓wLc2_eq, ↓wDc_eq, ↓look_zero, ↓look_succ, ↓got_so, ↓isB_bl, ↓isI_int, ↓isS_str, ↓isT_tup, ↓isT_ftp, ↓isT_ktp, ↓isT_tp, ↓isT_tq, ↓one_one, ↓two_two, ↓startD_cc, ↓startD_cn, ↓startD_nn, ↓FD.ix_str, ↓FD.ix_tup, ↓ix_ftp, ↓ix_ktp, ↓ix_lst, ↓ix_scr, ↓ix_tp, ↓ix_tq, ↓atI0, ↓atI1, ↓atI2, ↓atI3, ↓FD.eq_str, ↓FD.ne_str, ↓FD.eq_int, ↓FD.ne_int, ↓FD.add_int, ↓FD.sub_int, ↓FD.lt_int, ↓FD.le_int, ↓FD.gt_int, ↓FD.ge_int, ↓FD.add_str, ↓FD.add_lst, ↓FD.add_tup, ↓FD.mul_int, ↓FD.mod_int, ↓FD.fdiv_int, ↓FD.pow_int, ↓isN_non, ↓notN_non, ↓FD.len_str, ↓len_tup, ↓len_ftp, ↓len_ktp, ↓len_lst, ↓len_scr, ↓len_tp, ↓len_tq, ↓seq_tup, ↓seq_ftp, ↓seq_ktp, ↓seq_lst, ↓seq_scr, ↓seq_tp, ↓seq_tq, ↓in_tup, ↓in_ftp, ↓in_ktp, ↓in_lst, ↓nin_tup, ↓nin_ftp, ↓nin_ktp, ↓nin_lst, ↓FD.in_str, ↓nin_str, ↓isC_one, ↓asL_lst, ↓asL_scr, ↓if_tt, ↓if_ff, ↓isi_ss, ↓isi_tt, ↓isi_st, ↓isi_ts, ↓ty_str, ↓ty_tup, ↓ty_ftp, ↓ty_ktp, ↓ty_tp, ↓ty_tq, ↓all_lst, ↓any_lst, ↓flat_s, ↓flat_set, ↓tuple_lst, ↓FD.int_int, ↓eq_ftp_nil, ↓ne_ftp_nil, ↓isNon_non, ↓isNon_int, ↓isNon_str, ↓isNon_ptr, ↓isNon_tup, ↓isNon_ftp, ↓inL_strs, ↓flatSs, ↓inL_sets, ↓flatSets, ↓FM.tw, ↓FM.tw3, ↓FM.sl_str, ↓sl_set, ↓cell_upd, ↓lk_sw, ↓lk_ru, ↓lk_st, ↓lk_place, ↓lk_has, ↓lk_keeps, ↓lk_wrongs, ↓lk_goods, ↓lk_ways_from, ↓lk_text, ↓ins_pan, ↓FD.fit_le, ↓cx_K, ↓nox_K, ↓blk_K, ↓bx_K, ↓c1, ↓c2, ↓c3, ↓c4, ↓inL_cons, ↓inL_nil, ↓all_bools, ↓any_bools, ↓in_tp, ↓in_tq, ↓nin_tp, ↓nin_tq, ↓FM.sl_ftp, ↓FM.sl_tup, ↓FM.sl_lst, ↓FM.sl_scr, ↓index_eq, ↓ex_ftp, ↓eqd_str, ↓wf_at, ↓isT_cl, ↓isT_st, ↓isT_lit, ↓ix_lit0, ↓ix_lit1, ↓len_lit, ↓ty_lit, ↓eq_lit, ↓ne_lit, ↓eq_set, ↓ne_set, ↓len_set, ↓ty_set, ↓isS_set, ↓isC_sg, ↓sNever_e, ↓enumD_map, ↓dpAll_strs, ↓dpAll_mapI, ↓ne_lst_nil, ↓eq_lst_nil, ↓isT_grp, ↓len_grp, ↓isDc_wf, ↓wn_at, ↓isT_way, ↓len_way, ↓ty_way, ↓ty_st, ↓len_st, ↓ix_st0, ↓ix_st1, ↓inD_lits, ↓ninD_lits, ↓dpAll_sets, ↓three_three, ↓zip3_sets, ↓isT_z3, ↓inL_lock, ↓ninT_lits, ↓FM.tp_t, ↓FM.tp_f, ↓FM.tq_t, ↓FM.tq_f, ↓isT_pr, ↓tupleP_lst, ↓isT_it, ↓isNon_set, ↓ixN30, ↓ixN31, ↓ixN32, ↓ix_upd, ↓FM.eq_bl, ↓FM.ne_bl, ↓FM.sl_tp, ↓lstOf_lst, ↓okL_lst, ↓gMulS_eq, ↓add_sets, ↓add_setb, ↓add_setp, ↓add_setm, ↓rngE_e, ↓ix_rule0, ↓repr_bb, ↓isB_isD, ↓isB_notD, ↓wLcN_eq, ↓optW_some, ↓optW_none, ↓isNon_way, ↓ne_way0, ↓mulL2, ↓add_rules, ↓add_rulesT, ↓add_rulesF, ↓ne_ftp_sets, ↓ne_ftp_lits, ↓ne_ftp_strs, ↓add_strs, Option.isSome_some, Option.isSome_none, Option.isNone_some, Option.isNone_none, Option.map_some, Option.map_none, isNon_optW, isNon_optL, pick_nil, pick_cons, List.getElem?_cons_zero, List.getElem?_cons_succ, List.nil_append, List.append_nil, List.cons_append, Bool.decide_eq_true, Bool.decide_eq_false, Int.reduceAbs, Int.reduceToNat, Int.reducePow, true_or, or_true, Mem.upd_upd, rng_int, Bool.not_true, Bool.not_false, Bool.false_eq_true, if_false, if_true, true_and, and_true, List.set_cons_zero, List.set_cons_succ, List.length_cons, List.length_nil, List.length_map, eq_self, decide_true, decide_false, Bool.true_eq_false, or_self, Bool.or_self, List.all_cons, List.all_nil, Bool.and_true, Bool.true_and, Bool.or_false, Bool.false_or, Bool.or_true, Bool.true_or, Bool.and_false, Bool.false_and, Int.reduceLT, Int.reduceLE, Int.reduceEq, Nat.reduceLeDiff, Nat.reduceAdd, Nat.reduceLT, wf_some, wn_some, fold_lit, fold_litp, fold_litm, sg_iff, sg_in_pm, isNon_opt, isEmpty_map, ↓reduceIte, nq_0_1, nq_0_2, nq_0_3, nq_0_4, nq_0_5, nq_0_6, nq_0_7, nq_1_0, nq_1_2, nq_1_3, nq_1_4, nq_1_5, nq_1_6, nq_1_7, nq_2_0, nq_2_1, nq_2_3, nq_2_4, nq_2_5, nq_2_6, nq_2_7, nq_3_0, nq_3_1, nq_3_2, nq_3_4, nq_3_5, nq_3_6, nq_3_7, nq_4_0, nq_4_1, nq_4_2, nq_4_3, nq_4_5, nq_4_6, nq_4_7, nq_5_0, nq_5_1, nq_5_2, nq_5_3, nq_5_4, nq_5_6, nq_5_7, nq_6_0, nq_6_1, nq_6_2, nq_6_3, nq_6_4, nq_6_5, nq_6_7, nq_7_0, nq_7_1, nq_7_2, nq_7_3, nq_7_4, nq_7_5, nq_7_6])
theorem fn_law_panel (T : Tx P w K mg base) : Fng P w K mg base 4 "_law_panel" (top 41) ["_law_bag_here", "_law_wide", "_law_most"] sp_law_panel := by
  have S := sc_law_panel
  refine fng_of T.d_law_panel T.g_law_panel S (fun ds M post h => by unfold sp_law_panel at h; grind) fun f cdv A outer s H gd hr => ⟨_, (ds_cons (ds_set (i := 3) S.nd (de_call (ok_law_names T) (hr.mono (by decide)) gd (da_cons (dv 0) (da_cons (de_op o_add dint (de_call (ok_law_draw T) (hr.mono (by decide)) gd (da_cons (dv 0) (da_cons (dv 1) da_nil)))) da_nil))))
      (ds_cons (ds_set (i := 4) S.nd (de_ms PySem.F.slot_str_join PySem.F.type_str_join m_join dstr (da_cons (de_lc (own := [("_law_name", 5)]) rfl S.nd (di_tup (dv 3)) (blkOk_by (N := ["_law_bag_here", "_law_wide", "_law_most", "_law_names_here", "_law_base", "_law_name", "_law_found", "_law_k"]) (sc := defScope (top 41)) (by decide +kernel)) tgt1 (fun _ _ _ _ _ => pg_name (i := 5) S.nd rfl (Or.inl rfl)) (fun _ _ _ _ _ => dts_nil) (fun _ _ _ _ _ => (de_ix o_ix dstr (de_call (ok_law_draw T) (hr.mono (by decide)) gd (da_cons (dv 0) (da_cons dint da_nil)))))) da_nil)))
      (ds_cons (ds_setLcN (i := 6) (own := [("_law_k", 7)]) rfl S.nd (di_range T.m_range (da_cons (de_call (ok_law_draw T) (hr.mono (by decide)) gd (da_cons (dv 0) (da_cons (de_op o_add (dv 2) dint) da_nil))) da_nil)) (blkOk_by (N := ["_law_bag_here", "_law_wide", "_law_most", "_law_names_here", "_law_base", "_law_name", "_law_found", "_law_k"]) (sc := defScope (top 41)) (by decide +kernel)) tgt1 (fun _ _ _ _ _ => pg_name (i := 7) S.nd rfl (Or.inl rfl)) (fun _ _ _ _ _ => dts_nil) (fun _ _ _ _ _ => (de_call (ok_law_rule T) (hr.mono (by decide)) gd (da_cons (dv 0) (da_cons (dv 3) (da_cons (dv 4) (da_cons dint da_nil)))))) (sw_true rfl rfl rfl (by decide +kernel)))
      (ds_cons (ds_if (dt_cmp (o_eq hr) (de_call (ok_law_draw T) (hr.mono (by decide)) gd (da_cons (dv 0) (da_cons dint da_nil))) dint)
      (ds_one (ds_expr (de_ml PySem.F.slot_list_append PySem.F.type_list_append m_append (dv 6) (da_cons (de_call (ok_law_rule T) (hr.mono (by decide)) gd (da_cons (dv 0) (da_cons (dv 3) (da_cons (dv 4) (da_cons dint da_nil))))) da_nil))))
      ds_nil)
      (ds_one (ds_ret (de_fz (de_lst (da_cons (dv 3) (da_cons (de_ty c_tuple T.m_tuple (by decide +kernel) (da_cons (dv 6) da_nil)) (da_cons (dv 4) da_nil))))))))))), ?_⟩
  rintro ds M post ⟨j, m, b, rfl, hj, hm, hm2, hb0, hb, h⟩
  (try walk_at "law_panel")
  refine ⟨hj, by omega, by omega, ?_⟩
  intro v hv M1 j1
  have e1 : (1 + (v : Int)) = ((1 + v : Nat) : Int) := by push_cast; rfl
  rw [e1]
  (try walk_at "law_panel")
  refine ⟨j1.jg, by omega, ?_⟩
  intro ss sl nd nok M2 j2
  have hne : ss ≠ [] := fun z => by rw [z] at sl; simp at sl; omega
  refine ⟨⟨_, rfl⟩, ?_⟩
  refine lc_draw ss D.str (fun acc M' => ∃ ts : List Bool, acc = ts.map (fun b => D.str (sg b)) ∧ Jm j M2 M') ⟨[], rfl, .refl j2.jg⟩ (fun _ _ _ => trivial) ?_ ?_
  · rintro s hs acc M3 hl ⟨ts, rfl, j3⟩ yes hy
    (try walk_at "law_panel")
    refine ⟨j3.jg, ?_⟩
    intro u hu M4 j4
    rw [at_pm (by omega), ← sg_eq]
    exact hy _ _ ⟨ts ++ [decide (u = 0)], by simp, j3.trans j4⟩
  · rintro acc M3 hl ⟨ts, rfl, j3⟩
    rw [List.length_map] at hl
    rw [jn_signs (by omega)]
    (try walk_at "law_panel")
    refine ⟨j3.jg, by omega, by omega, ?_⟩
    intro d hd M4 j4
    refine ⟨by omega, by omega, ?_⟩
    refine lc_draw (List.range d) rngE (fun acc M' => ∃ rs : List Rule, acc = rs.map ruleD ∧ InS ss rs ∧ Jm j M3 M') ⟨[], rfl, fun r hr => (by cases hr), j4⟩ (fun _ _ _ => trivial) ?_ ?_
    · rintro k hk acc M5 hl2 ⟨rs, rfl, hin, j5⟩ yes hy
      (try walk_at "law_panel")
      refine ⟨j5.jg, hne, by omega, nd, by omega, ?_⟩
      intro r hr2 _ M6 j6
      exact hy _ _ ⟨rs ++ [r], by simp, hin.app (fun r' h' => by rw [List.mem_singleton.mp h']; exact hr2), j5.trans j6⟩
    · rintro acc M5 hl2 ⟨rs, rfl, hin, j5⟩
      rw [List.length_map, List.length_range] at hl2
      have J := j1.trans (j2.trans (j3.trans j5))
      have sw : swOk ss := ⟨hne, by omega, nd, nok⟩
      refine ⟨_, rfl, ?_⟩
      intro p hp
      have hpM := J.none hp
      have ne := hj.ne hpM
      have pj : PJ j p (.lst (rs.map ruleD)) M (M5.upd p (.lst (rs.map ruleD))) := PJ.new J
      refine ⟨pj.jg ne, ?_⟩
      intro c hc M6 j6
      have pj2 := pj.step ne j6
      have fin : ∀ (rs' : List Rule) (M7 : Mem), InS ss rs' → (rs'.length : Int) ≤ b + 1 → PJ j p (.lst (rs'.map ruleD)) M M7 → gTuple M7 [.ptr p] fun d M1 => ∃ d' M2, M2.le M1 ∧ Fz M1 M2 (.lst [strsF ss, d, setD ts]) d' ∧ post d' M2 := fun rs' M7 hi hb2 pj3 => by
        rw [tuple_cell pj3.cell]
        obtain ⟨M8, le, jm, _⟩ := pj3.out ne hpM
        exact ⟨_, M8, le, .same _, h ⟨ss, rs', sw, hi, by omega⟩ ts (by show (ss.length : Int) ≤ m; omega) hb2 hl M8 jm⟩
      by_cases hc0 : c = 0
      · rw [if_pos (by simp [hc0])]
        refine ⟨okL_cell pj2.cell, pj2.jg ne, hne, by omega, nd, hl, ?_⟩
        intro r hr2 _ M7 j7
        have pj3 := pj2.step ne j7
        rw [append_eq pj3.cell]
        refine ⟨by rw [List.length_map]; omega, ?_⟩
        have e2 : rs.map ruleD ++ [ruleD r] = (rs ++ [r]).map ruleD := by simp
        rw [e2]
        exact fin (rs ++ [r]) _ (hin.app fun r' h' => by rw [List.mem_singleton.mp h']; exact hr2) (by rw [List.length_append]; simp; omega) pj3.set
      · rw [if_neg (by simp; omega)]
        exact fin rs M6 hin (by omega) pj2
theorem ok_law_panel (T : Tx P w K mg base) : Pub P w K mg base 4 "_law_panel" ["_law_bag_here", "_law_wide", "_law_most"] sp_law_panel := (fn_law_panel T).pub fun _ _ _ _ _ _ us hl => match us, hl with | [_, _, _], _ => rfl

theorem sc_law_made : FnScope ["_law_parts"] ["_law_parts"] (defScope (top 42)) := ⟨rfl, rfl, rfl, by decide +kernel, rfl, by decide +kernel, by decide +kernel⟩
def sp_law_made (K : PySem.W.Frag) : DSp := fun ds M post => ∃ (p : Pan) (x : D), ds = [.lst [strsF p.ss, .ftp (p.rs.map ruleD), x]] ∧ post (panD K p) M
theorem cl_law_made {p : Pan} {x : D} {M : Mem} {post : WK} : sp_law_made K [.lst [strsF p.ss, .ftp (p.rs.map ruleD), x]] M post = post (panD K p) M := by
  unfold sp_law_made
  refine propext ⟨fun ⟨q, y, e, h⟩ => ?_, fun h => ⟨p, x, rfl, h⟩⟩
  simp only [List.cons.injEq, D.lst.injEq, D.ftp.injEq, strs_inj, rules_inj, and_true] at e
  rw [Pan.ext' e.1 e.2.1]
  exact h
local macro_rules | `(tactic| walk_at "law_made") => `(tactic| simp only [↓FD.wCM_e, ↓FD.wCMK_e, ↓FD.wMakeV_e, ↓FD.wMethKC_e, ↓FD.wSetSort_e, ↓FD.gSplit_e, ↓FD.gSplitN_e, ↓FD.wSetLenT_e, ↓FD.wRevT_e, ↓FD.wSetLen_e, ↓FD.wRev_e, ↓FD.gDictS_e, ↓FD.gMinS_e, ↓FD.gIndexB_e, ↓FD.gListN_e, ↓FD.gAddC_e, ↓FD.wDispN_e, ↓FD.wMethD_e, ↓FD.gPop0_e, ↓FD.sFin_e, ↓FD.gFldD_e, ↓FD.sCt_e, ↓FD.sFrz_e, ↓FD.gLeS_e, ↓FD.gStrO_e, ↓FD.gBoolO_e, ↓FD.wM0_e, ↓FD.gUpper_e, ↓FD.gUnL_e, ↓FD.sSeq_e, ↓FD.sRet_e, ↓FD.sIf_e, ↓FD.sAsg_e, ↓FD.gSet_e, ↓FD.sDrop_e, ↓FD.sNext_e, ↓FD.sPar_e, ↓FD.sPar3_e, ↓FD.wIf_e, ↓FD.wOp_e, ↓FD.wUn_e, ↓FD.wVar_e, ↓FD.wC_e, ↓FD.wTst_e, ↓FD.wAnd_e, ↓FD.wOr_e, ↓FD.wNot_e, ↓FD.wAndV_e, ↓FD.wOrV_e, ↓FD.wNotV_e, ↓FD.wChain_e, ↓FD.aNil_e, ↓FD.aCons_e, ↓FD.wTup_e, ↓FD.wLst_e, ↓FD.wFtp_e, ↓FD.wNew_e, ↓FD.wCall_e, ↓FD.wB_e, ↓FD.wSl_e, ↓FD.oSome_e, ↓FD.oNone_e, ↓FD.wIsi_e, ↓FD.wIsiC_e, ↓FD.p1_e, ↓FD.p2_e, ↓FD.gLen_e, ↓FD.iLst_e, ↓FD.iTup_e, ↓FD.iStrD_e, ↓FD.iEnT_e, ↓FD.iEnL_e, ↓FD.iRng_e, ↓FD.iRng2_e, ↓FD.gTup_e, ↓FD.gsNil_e, ↓FD.gsCons_e, ↓FD.wM_e, ↓FD.wIxT_e, ↓FD.wFld_e, ↓FD.wMeth_e, ↓FD.wMake_e, ↓FD.sFldD_e, ↓FD.wDGet_e, ↓FD.sDput_e, ↓FD.wDNewK_e, ↓FD.wDNewT_e, ↓FD.wDisp1_e, ↓FD.wIce_e, ↓FD.gSub_e, ↓FD.wCallK_e, ↓FD.t1_e, ↓FD.t2_e, ↓FD.t1w_e, ↓FD.tYesD_e, ↓FD.gDIn_e, ↓FD.gDNin_e, ↓FD.gIndexT_e, ↓FD.gIndex_e, ↓FD.gAbs_e, ↓FD.gMax_e, ↓FD.gMin_e, ↓FD.gDivmod_e, ↓FD.wFz_e, ↓FD.wDGetD_e, ↓FD.t3_e, ↓FD.iZip3D_e, ↓FD.sForIT_e, ↓FD.wIsiO_e, ↓FD.wFmt_e, ↓FD.wTruO_e, ↓FD.gLenO_e, ↓FD.wMakeK_e, ↓FD.gOwn_e, ↓FD.t12_e, ↓FD.iZipMD_e, ↓FD.sForKT_e, ↓FD.wDSetd_e, ↓FD.wVals_e, ↓FD.iRng3_e, ↓FD.iEnS_e, ↓FD.gZ2_eq, ↓zip2_cl, ↓FD.addF_ftp, ↓FD.wPs_nil, ↓FD.wPs_cons, ↓FM.keyed_nil, ↓FM.keyed_str, ↓FM.sortP_lst, ↓FM.sortP_ftp, ↓lk_de_switches, ↓lk_de_rules, ↓lk_de_promises, ↓lk_de_past, ↓lk_de_undo, ↓lk_de_put, ↓lk_de_turn, ↓lk_de_become, ↓lk_de_take, ↓lk_de_promise, ↓lk_de_lift, ↓lk_de_trial, ↓lk_de_as_panel, ↓put_de_past, ↓put_de_promises, ↓lk_sg_setting, ↓lk_sg_log, ↓lk_sg_past, ↓lk_sg_other, ↓insR_stage, ↓lk_bo_panel, ↓lk_bo_setting, ↓lk_bo_log, ↓lk_bo_busy, ↓lk_bo_past, ↓lk_bo_do, ↓lk_bo_do_all, ↓lk_bo_undo, ↓lk_bo_take, ↓lk_bo_trial, ↓lk_bo_is_deed, ↓lk_bo_check_idle, ↓put_bo_setting, ↓put_bo_log, ↓put_bo_busy, ↓put_bo_past, ↓isiO_pan, ↓insT_pan, ↓FD.js_nil, ↓FD.js_cons, ↓FD.wLc2N_eq, ↓FD.addN_lst, ↓sFor_eq, ↓wLc_eq, ↓wLc2_eq, ↓wDc_eq, ↓look_zero, ↓look_succ, ↓got_so, ↓isB_bl, ↓isI_int, ↓isS_str, ↓isT_tup, ↓isT_ftp, ↓isT_ktp, ↓isT_tp, ↓isT_tq, ↓one_one, ↓two_two, ↓startD_cc, ↓startD_cn, ↓startD_nn, ↓FD.ix_str, ↓FD.ix_tup, ↓ix_ftp, ↓ix_ktp, ↓ix_lst, ↓ix_scr, ↓ix_tp, ↓ix_tq, ↓atI0, ↓atI1, ↓atI2, ↓atI3, ↓FD.eq_str, ↓FD.ne_str, ↓FD.eq_int, ↓FD.ne_int, ↓FD.add_int, ↓FD.sub_int, ↓FD.lt_int, ↓FD.le_int, ↓FD.gt_int, ↓FD.ge_int, ↓FD.add_str, ↓FD.add_lst, ↓FD.add_tup, ↓FD.mul_int, ↓FD.mod_int, ↓FD.fdiv_int, ↓FD.pow_int, ↓isN_non, ↓notN_non, ↓FD.len_str, ↓len_tup, ↓len_ftp, ↓len_ktp, ↓len_lst, ↓len_scr, ↓len_tp, ↓len_tq, ↓seq_tup, ↓seq_ftp, ↓seq_ktp, ↓seq_lst, ↓seq_scr, ↓seq_tp, ↓seq_tq, ↓in_tup, ↓in_ftp, ↓in_ktp, ↓in_lst, ↓nin_tup, ↓nin_ftp, ↓nin_ktp, ↓nin_lst, ↓FD.in_str, ↓nin_str, ↓isC_one, ↓asL_lst, ↓asL_scr, ↓if_tt, ↓if_ff, ↓isi_ss, ↓isi_tt, ↓isi_st, ↓isi_ts, ↓ty_str, ↓ty_tup, ↓ty_ftp, ↓ty_ktp, ↓ty_tp, ↓ty_tq, ↓all_lst, ↓any_lst, ↓flat_s, ↓flat_set, ↓tuple_lst, ↓FD.int_int, ↓eq_ftp_nil, ↓ne_ftp_nil, ↓isNon_non, ↓isNon_int, ↓isNon_str, ↓isNon_ptr, ↓isNon_tup, ↓isNon_ftp, ↓inL_strs, ↓flatSs, ↓inL_sets, ↓flatSets, ↓FM.tw, ↓FM.tw3, ↓FM.sl_str, ↓sl_set, ↓cell_upd, ↓lk_sw, ↓lk_ru, ↓lk_st, ↓lk_place, ↓lk_has, ↓lk_keeps, ↓lk_wrongs, ↓lk_goods, ↓lk_ways_from, ↓lk_text, ↓ins_pan, ↓FD.fit_le, ↓cx_K, ↓nox_K, ↓blk_K, ↓bx_K, ↓c1, ↓c2, ↓c3, ↓c4, ↓inL_cons, ↓inL_nil, ↓all_bools, ↓any_bools, ↓in_tp, ↓in_tq, ↓nin_tp, ↓nin_tq, ↓FM.sl_ftp, ↓FM.sl_tup, ↓FM.sl_lst, ↓FM.sl_scr, ↓index_eq, ↓ex_ftp, ↓eqd_str, ↓wf_at, ↓isT_cl, ↓isT_st, ↓isT_lit, ↓ix_lit0, ↓ix_lit1, ↓len_lit, ↓ty_lit, ↓eq_lit, ↓ne_lit, ↓eq_set, ↓ne_set, ↓len_set, ↓ty_set, ↓isS_set, ↓isC_sg, ↓sNever_e, ↓enumD_map, ↓dpAll_strs, ↓dpAll_mapI, ↓ne_lst_nil, ↓eq_lst_nil, ↓isT_grp, ↓len_grp, ↓isDc_wf, ↓wn_at, ↓isT_way, ↓len_way, ↓ty_way, ↓ty_st, ↓len_st, ↓ix_st0, ↓ix_st1, ↓inD_lits, ↓ninD_lits, ↓dpAll_sets, ↓three_three, ↓zip3_sets, ↓isT_z3, ↓inL_lock, ↓ninT_lits, ↓FM.tp_t, ↓FM.tp_f, ↓FM.tq_t, ↓FM.tq_f, ↓isT_pr, ↓tupleP_lst, ↓isT_it, ↓isNon_set, ↓ixN30, ↓ixN31, ↓ixN32, ↓ix_upd, ↓FM.eq_bl, ↓FM.ne_bl, ↓FM.sl_tp, ↓lstOf_lst, ↓okL_lst, ↓gMulS_eq, ↓add_sets, ↓add_setb, ↓add_setp, ↓add_setm, ↓rngE_e, ↓ix_rule0, ↓repr_bb, ↓isB_isD, ↓isB_notD, ↓wLcN_eq, ↓optW_some, ↓optW_none, ↓isNon_way, ↓ne_way0, ↓mulL2, ↓add_rules, ↓add_rulesT, ↓add_rulesF, ↓ne_ftp_sets, ↓ne_ftp_lits, ↓ne_ftp_strs, ↓add_strs, Option.isSome_some, Option.isSome_none, Option.isNone_some, Option.isNone_none, Option.map_some, Option.map_none, isNon_optW, isNon_optL, pick_nil, pick_cons, List.getElem?_cons_zero, List.getElem?_cons_succ, List.nil_append, List.append_nil, List.cons_append, Bool.decide_eq_true, Bool.decide_eq_false, Int.reduceAbs, Int.reduceToNat, Int.reducePow, true_or, or_true, Mem.upd_upd, rng_int, Bool.not_true, Bool.not_false, Bool.false_eq_true, if_false, if_true, true_and, and_true, List.set_cons_zero, List.set_cons_succ, List.length_cons, List.length_nil, List.length_map, eq_self, decide_true, decide_false, Bool.true_eq_false, or_self, Bool.or_self, List.all_cons, List.all_nil, Bool.and_true, Bool.true_and, Bool.or_false, Bool.false_or, Bool.or_true, Bool.true_or, Bool.and_false, Bool.false_and, Int.reduceLT, Int.reduceLE, Int.reduceEq, Nat.reduceLeDiff, Nat.reduceAdd, Nat.reduceLT, wf_some, wn_some, fold_lit, fold_litp, fold_litm, sg_iff, sg_in_pm, isNon_opt, isEmpty_map, ↓reduceIte, nq_0_1, nq_0_2, nq_0_3, nq_0_4, nq_0_5, nq_0_6, nq_0_7, nq_1_0, nq_1_2, nq_1_3, nq_1_4, nq_1_5, nq_1_6, nq_1_7, nq_2_0, nq_2_1, nq_2_3, nq_2_4, nq_2_5, nq_2_6, nq_2_7, nq_3_0, nq_3_1, nq_3_2, nq_3_4, nq_3_5, nq_3_6, nq_3_7, nq_4_0, nq_4_1, nq_4_2, nq_4_3, nq_4_5, nq_4_6, nq_4_7, nq_5_0, nq_5_1, nq_5_2, nq_5_3, nq_5_4, nq_5_6, nq_5_7, nq_6_0, nq_6_1, nq_6_2, nq_6_3, nq_6_4, nq_6_5, nq_6_7, nq_7_0, nq_7_1, nq_7_2, nq_7_3, nq_7_4, nq_7_5, nq_7_6])
theorem fn_law_made (T : Tx P w K mg base) : Fng P w K mg base 7 "_law_made" (top 42) ["_law_parts"] (sp_law_made K) := by
  have S := sc_law_made
  refine fng_of T.d_law_made T.g_law_made S (fun ds M post h => by unfold sp_law_made at h; grind) fun f cdv A outer s H gd hr => ⟨_, (ds_one (ds_ret (de_fz (de_make (mk_Panel T) (hr.mono (by decide)) gd (da_cons (de_ix o_ix (dv 0) dint) (da_cons (de_ix o_ix (dv 0) dint) da_nil)))))), ?_⟩
  rintro ds M post ⟨p, x, rfl, h⟩
  (try walk_at "law_made")
  intro a ha
  refine ⟨a, .t, p, rfl, Mem.upd_same, ?_⟩
  intro M' le fz
  rw [Mem.del_upd ha] at le fz
  exact ⟨rfl, panD K p, M, le, fz, h⟩
theorem ok_law_made (T : Tx P w K mg base) : Pub P w K mg base 7 "_law_made" ["_law_parts"] (sp_law_made K) := (fn_law_made T).pub fun _ _ _ _ _ _ us hl => match us, hl with | [_], _ => rfl

theorem sc_law_rule_text : FnScope ["_law_rule_here", "_law_literal"] ["_law_rule_here"] (defScope (top 45)) := ⟨rfl, rfl, rfl, by decide +kernel, rfl, by decide +kernel, by decide +kernel⟩
def sp_law_rule_text : DSp := fun ds M post => ∃ (ss : List Str) (r : Rule), ds = [ruleD r] ∧ ((∀ s ∈ ss, nameOk s = true) ∧ ruleOk ss r = true ∧ post (.str (ruleT r)) M)
theorem cl_law_rule_text {r : Rule} {M : Mem} {post : WK} : sp_law_rule_text [ruleD r] M post = ∃ ss : List Str, (∀ s ∈ ss, nameOk s = true) ∧ ruleOk ss r = true ∧ post (.str (ruleT r)) M := by
  unfold sp_law_rule_text
  refine propext ⟨fun ⟨ss, q, e, h⟩ => ?_, fun ⟨ss, h⟩ => ⟨ss, r, rfl, h⟩⟩
  simp only [List.cons.injEq, ruleD_inj, and_true] at e
  subst e
  exact ⟨ss, h⟩
local macro_rules | `(tactic| walk_at "law_rule_text") => `(tactic| simp only [↓FD.wCM_e, ↓FD.wCMK_e, ↓FD.wMakeV_e, ↓FD.wMethKC_e, ↓FD.wSetSort_e, ↓FD.gSplit_e, ↓FD.gSplitN_e, ↓FD.wSetLenT_e, ↓FD.wRevT_e, ↓FD.wSetLen_e, ↓FD.wRev_e, ↓FD.gDictS_e, ↓FD.gMinS_e, ↓FD.gIndexB_e, ↓FD.gListN_e, ↓FD.gAddC_e, ↓FD.wDispN_e, ↓FD.wMethD_e, ↓FD.gPop0_e, ↓FD.sFin_e, ↓FD.gFldD_e, ↓FD.sCt_e, ↓FD.sFrz_e, ↓FD.gLeS_e, ↓FD.gStrO_e, ↓FD.gBoolO_e, ↓FD.wM0_e, ↓FD.gUpper_e, ↓FD.gUnL_e, ↓FD.sSeq_e, ↓FD.sRet_e, ↓FD.sIf_e, ↓FD.sAsg_e, ↓FD.gSet_e, ↓FD.sDrop_e, ↓FD.sNext_e, ↓FD.sPar_e, ↓FD.sPar3_e, ↓FD.wIf_e, ↓FD.wOp_e, ↓FD.wUn_e, ↓FD.wVar_e, ↓FD.wC_e, ↓FD.wTst_e, ↓FD.wAnd_e, ↓FD.wOr_e, ↓FD.wNot_e, ↓FD.wAndV_e, ↓FD.wOrV_e, ↓FD.wNotV_e, ↓FD.wChain_e, ↓FD.aNil_e, ↓FD.aCons_e, ↓FD.wTup_e, ↓FD.wLst_e, ↓FD.wFtp_e, ↓FD.wNew_e, ↓FD.wCall_e, ↓FD.wB_e, ↓FD.wSl_e, ↓FD.oSome_e, ↓FD.oNone_e, ↓FD.wIsi_e, ↓FD.wIsiC_e, ↓FD.p1_e, ↓FD.p2_e, ↓FD.gLen_e, ↓FD.iLst_e, ↓FD.iTup_e, ↓FD.iStrD_e, ↓FD.iEnT_e, ↓FD.iEnL_e, ↓FD.iRng_e, ↓FD.iRng2_e, ↓FD.gTup_e, ↓FD.gsNil_e, ↓FD.gsCons_e, ↓FD.wM_e, ↓FD.wIxT_e, ↓FD.wFld_e, ↓FD.wMeth_e, ↓FD.wMake_e, ↓FD.sFldD_e, ↓FD.wDGet_e, ↓FD.sDput_e, ↓FD.wDNewK_e, ↓FD.wDNewT_e, ↓FD.wDisp1_e, ↓FD.wIce_e, ↓FD.gSub_e, ↓FD.wCallK_e, ↓FD.t1_e, ↓FD.t2_e, ↓FD.t1w_e, ↓FD.tYesD_e, ↓FD.gDIn_e, ↓FD.gDNin_e, ↓FD.gIndexT_e, ↓FD.gIndex_e, ↓FD.gAbs_e, ↓FD.gMax_e, ↓FD.gMin_e, ↓FD.gDivmod_e, ↓FD.wFz_e, ↓FD.wDGetD_e, ↓FD.t3_e, ↓FD.iZip3D_e, ↓FD.sForIT_e, ↓FD.wIsiO_e, ↓FD.wFmt_e, ↓FD.wTruO_e, ↓FD.gLenO_e, ↓FD.wMakeK_e, ↓FD.gOwn_e, ↓FD.t12_e, ↓FD.iZipMD_e, ↓FD.sForKT_e, ↓FD.wDSetd_e, ↓FD.wVals_e, ↓FD.iRng3_e, ↓FD.iEnS_e, ↓FD.gZ2_eq, ↓zip2_cl, ↓FD.addF_ftp, ↓FD.wPs_nil, ↓FD.wPs_cons, ↓FM.keyed_nil, ↓FM.keyed_str, ↓FM.sortP_lst, ↓FM.sortP_ftp, ↓lk_de_switches, ↓lk_de_rules, ↓lk_de_promises, ↓lk_de_past, ↓lk_de_undo, ↓lk_de_put, ↓lk_de_turn, ↓lk_de_become, ↓lk_de_take, ↓lk_de_promise, ↓lk_de_lift, ↓lk_de_trial, ↓lk_de_as_panel, ↓put_de_past, ↓put_de_promises, ↓lk_sg_setting, ↓lk_sg_log, ↓lk_sg_past, ↓lk_sg_other, ↓insR_stage, ↓lk_bo_panel, ↓lk_bo_setting, ↓lk_bo_log, ↓lk_bo_busy, ↓lk_bo_past, ↓lk_bo_do, ↓lk_bo_do_all, ↓lk_bo_undo, ↓lk_bo_take, ↓lk_bo_trial, ↓lk_bo_is_deed, ↓lk_bo_check_idle, ↓put_bo_setting, ↓put_bo_log, ↓put_bo_busy, ↓put_bo_past, ↓isiO_pan, ↓insT_pan, ↓FD.js_nil, ↓FD.js_cons, ↓FD.wLc2N_eq, ↓FD.addN_lst, ↓sFor_eq, ↓wLc_eq, ↓wLc2_eq, ↓wDc_eq, ↓look_zero, ↓look_succ, ↓got_so, ↓isB_bl, ↓isI_int, ↓isS_str, ↓isT_tup, ↓isT_ftp, ↓isT_ktp, ↓isT_tp, ↓isT_tq, ↓one_one, ↓two_two, ↓startD_cc, ↓startD_cn, ↓startD_nn, ↓FD.ix_str, ↓FD.ix_tup, ↓ix_ftp, ↓ix_ktp, ↓ix_lst, ↓ix_scr, ↓ix_tp, ↓ix_tq, ↓atI0, ↓atI1, ↓atI2, ↓atI3, ↓FD.eq_str, ↓FD.ne_str, ↓FD.eq_int, ↓FD.ne_int, ↓FD.add_int, ↓FD.sub_int, ↓FD.lt_int, ↓FD.le_int, ↓FD.gt_int, ↓FD.ge_int, ↓FD.add_str, ↓FD.add_lst, ↓FD.add_tup, ↓FD.mul_int, ↓FD.mod_int, ↓FD.fdiv_int, ↓FD.pow_int, ↓isN_non, ↓notN_non, ↓FD.len_str, ↓len_tup, ↓len_ftp, ↓len_ktp, ↓len_lst, ↓len_scr, ↓len_tp, ↓len_tq, ↓seq_tup, ↓seq_ftp, ↓seq_ktp, ↓seq_lst, ↓seq_scr, ↓seq_tp, ↓seq_tq, ↓in_tup, ↓in_ftp, ↓in_ktp, ↓in_lst, ↓nin_tup, ↓nin_ftp, ↓nin_ktp, ↓nin_lst, ↓FD.in_str, ↓nin_str, ↓isC_one, ↓asL_lst, ↓asL_scr, ↓if_tt, ↓if_ff, ↓isi_ss, ↓isi_tt, ↓isi_st, ↓isi_ts, ↓ty_str, ↓ty_tup, ↓ty_ftp, ↓ty_ktp, ↓ty_tp, ↓ty_tq, ↓all_lst, ↓any_lst, ↓flat_s, ↓flat_set, ↓tuple_lst, ↓FD.int_int, ↓eq_ftp_nil, ↓ne_ftp_nil, ↓isNon_non, ↓isNon_int, ↓isNon_str, ↓isNon_ptr, ↓isNon_tup, ↓isNon_ftp, ↓inL_strs, ↓flatSs, ↓inL_sets, ↓flatSets, ↓FM.tw, ↓FM.tw3, ↓FM.sl_str, ↓sl_set, ↓cell_upd, ↓lk_sw, ↓lk_ru, ↓lk_st, ↓lk_place, ↓lk_has, ↓lk_keeps, ↓lk_wrongs, ↓lk_goods, ↓lk_ways_from, ↓lk_text, ↓ins_pan, ↓FD.fit_le, ↓cx_K, ↓nox_K, ↓blk_K, ↓bx_K, ↓c1, ↓c2, ↓c3, ↓c4, ↓inL_cons, ↓inL_nil, ↓all_bools, ↓any_bools, ↓in_tp, ↓in_tq, ↓nin_tp, ↓nin_tq, ↓FM.sl_ftp, ↓FM.sl_tup, ↓FM.sl_lst, ↓FM.sl_scr, ↓index_eq, ↓ex_ftp, ↓eqd_str, ↓wf_at, ↓isT_cl, ↓isT_st, ↓isT_lit, ↓ix_lit0, ↓ix_lit1, ↓len_lit, ↓ty_lit, ↓eq_lit, ↓ne_lit, ↓eq_set, ↓ne_set, ↓len_set, ↓ty_set, ↓isS_set, ↓isC_sg, ↓sNever_e, ↓enumD_map, ↓dpAll_strs, ↓dpAll_mapI, ↓ne_lst_nil, ↓eq_lst_nil, ↓isT_grp, ↓len_grp, ↓isDc_wf, ↓wn_at, ↓isT_way, ↓len_way, ↓ty_way, ↓ty_st, ↓len_st, ↓ix_st0, ↓ix_st1, ↓inD_lits, ↓ninD_lits, ↓dpAll_sets, ↓three_three, ↓zip3_sets, ↓isT_z3, ↓inL_lock, ↓ninT_lits, ↓FM.tp_t, ↓FM.tp_f, ↓FM.tq_t, ↓FM.tq_f, ↓isT_pr, ↓tupleP_lst, ↓isT_it, ↓isNon_set, ↓ixN30, ↓ixN31, ↓ixN32, ↓ix_upd, ↓FM.eq_bl, ↓FM.ne_bl, ↓FM.sl_tp, ↓lstOf_lst, ↓okL_lst, ↓gMulS_eq, ↓add_sets, ↓add_setb, ↓add_setp, ↓add_setm, ↓rngE_e, ↓ix_rule0, ↓repr_bb, ↓isB_isD, ↓isB_notD, ↓wLcN_eq, ↓optW_some, ↓optW_none, ↓isNon_way, ↓ne_way0, ↓mulL2, ↓add_rules, ↓add_rulesT, ↓add_rulesF, ↓ne_ftp_sets, ↓ne_ftp_lits, ↓ne_ftp_strs, ↓add_strs, Option.isSome_some, Option.isSome_none, Option.isNone_some, Option.isNone_none, Option.map_some, Option.map_none, isNon_optW, isNon_optL, pick_nil, pick_cons, List.getElem?_cons_zero, List.getElem?_cons_succ, List.nil_append, List.append_nil, List.cons_append, Bool.decide_eq_true, Bool.decide_eq_false, Int.reduceAbs, Int.reduceToNat, Int.reducePow, true_or, or_true, Mem.upd_upd, rng_int, Bool.not_true, Bool.not_false, Bool.false_eq_true, if_false, if_true, true_and, and_true, List.set_cons_zero, List.set_cons_succ, List.length_cons, List.length_nil, List.length_map, eq_self, decide_true, decide_false, Bool.true_eq_false, or_self, Bool.or_self, List.all_cons, List.all_nil, Bool.and_true, Bool.true_and, Bool.or_false, Bool.false_or, Bool.or_true, Bool.true_or, Bool.and_false, Bool.false_and, Int.reduceLT, Int.reduceLE, Int.reduceEq, Nat.reduceLeDiff, Nat.reduceAdd, Nat.reduceLT, wf_some, wn_some, fold_lit, fold_litp, fold_litm, sg_iff, sg_in_pm, isNon_opt, isEmpty_map, ↓reduceIte, nq_0_1, nq_0_2, nq_0_3, nq_0_4, nq_0_5, nq_0_6, nq_0_7, nq_1_0, nq_1_2, nq_1_3, nq_1_4, nq_1_5, nq_1_6, nq_1_7, nq_2_0, nq_2_1, nq_2_3, nq_2_4, nq_2_5, nq_2_6, nq_2_7, nq_3_0, nq_3_1, nq_3_2, nq_3_4, nq_3_5, nq_3_6, nq_3_7, nq_4_0, nq_4_1, nq_4_2, nq_4_3, nq_4_5, nq_4_6, nq_4_7, nq_5_0, nq_5_1, nq_5_2, nq_5_3, nq_5_4, nq_5_6, nq_5_7, nq_6_0, nq_6_1, nq_6_2, nq_6_3, nq_6_4, nq_6_5, nq_6_7, nq_7_0, nq_7_1, nq_7_2, nq_7_3, nq_7_4, nq_7_5, nq_7_6])
theorem fn_law_rule_text (T : Tx P w K mg base) : Fng P w K mg base 1 "_law_rule_text" (top 45) ["_law_rule_here"] sp_law_rule_text := by
  have S := sc_law_rule_text
  refine fng_of T.d_law_rule_text T.g_law_rule_text S (fun ds M post h => by unfold sp_law_rule_text at h; grind) fun f cdv A outer s H gd hr => ⟨_, (ds_cons (ds_if (dt_cmp o_in (de_ix o_ix (dv 0) dint) (de_lst (da_cons dstr (da_cons dstr da_nil))))
      (ds_one (ds_ret (de_ms PySem.F.slot_str_join PySem.F.type_str_join m_join dstr (da_cons (dv 0) da_nil))))
      ds_nil)
      (ds_one (ds_ret (de_ms PySem.F.slot_str_join PySem.F.type_str_join m_join dstr (da_cons (de_op o_add (de_lst (da_cons (de_ix o_ix (dv 0) dint) da_nil)) (de_lc (own := [("_law_literal", 1)]) rfl S.nd (di_tup (de_slice o_slice (dv 0) (do_some dint) do_none)) (blkOk_by (N := ["_law_rule_here", "_law_literal"]) (sc := defScope (top 45)) (by decide +kernel)) tgt1 (fun _ _ _ _ _ => pg_name (i := 1) S.nd rfl (Or.inl rfl)) (fun _ _ _ _ _ => dts_nil) (fun _ _ _ _ _ => (de_op o_add (de_ix o_ix (dv 1) dint) (de_ix o_ix (dv 1) dint))))) da_nil))))), ?_⟩
  rintro ds M post ⟨ss, r, rfl, hs, hr2, h⟩
  have hk := hr2
  have sp : tOk 1 (" " : Str) := tOk_dec (by decide +kernel)
  cases r <;> unfold ruleD <;> simp [ruleOk, litOk] at hr2
  · rename_i a
    have n1 := hs _ hr2
    (try walk_at "law_rule_text")
    have ec : cutL [D.str "be", litD a] (some 1) none = [a].map litD := rfl
    rw [ec]
    refine ⟨⟨_, rfl⟩, ?_⟩
    refine lc_map [a] litD (fun a => D.str (litT a)) trivial ?_ ?_
    · intro b hb yes hy
      rw [List.mem_singleton.mp hb] at hy ⊢
      have nl := (litT_ok n1).2
      unfold litT at nl hy
      rw [em_app] at nl hy
      rw [Str.length_append] at nl
      (try walk_at "law_rule_text")
      exact ⟨by omega, hy⟩
    · (try walk_at "law_rule_text")
      have e : D.str "be" :: List.map (fun a => D.str (litT a)) [a] = [("be" : Str), litT a].map D.str := rfl
      rw [e, jn_lst (m := 9) (k := 1) sp (fun s hs => ?_) (by simp)]
      · exact h
      · simp only [List.mem_cons, List.not_mem_nil, or_false] at hs
        rcases hs with rfl | rfl
        · exact tOk_dec (by decide +kernel)
        · exact litT_ok n1
  · rename_i a b
    have n1 := hs _ hr2.1.1
    have n2 := hs _ hr2.1.2
    (try walk_at "law_rule_text")
    have ec : cutL [D.str "either", litD a, litD b] (some 1) none = [a, b].map litD := rfl
    rw [ec]
    refine ⟨⟨_, rfl⟩, ?_⟩
    refine lc_map [a, b] litD (fun a => D.str (litT a)) trivial ?_ ?_
    · intro c hc yes hy
      have nl : (litT c).length ≤ 9 := by
        simp only [List.mem_cons, List.not_mem_nil, or_false] at hc
        rcases hc with rfl | rfl
        · exact (litT_ok n1).2
        · exact (litT_ok n2).2
      unfold litT at nl hy
      rw [em_app] at nl hy
      rw [Str.length_append] at nl
      (try walk_at "law_rule_text")
      exact ⟨by omega, hy⟩
    · (try walk_at "law_rule_text")
      have e : D.str "either" :: List.map (fun a => D.str (litT a)) [a, b] = [("either" : Str), litT a, litT b].map D.str := rfl
      rw [e, jn_lst (m := 9) (k := 1) sp (fun s hs => ?_) (by simp)]
      · exact h
      · simp only [List.mem_cons, List.not_mem_nil, or_false] at hs
        rcases hs with rfl | rfl | rfl
        · exact tOk_dec (by decide +kernel)
        · exact litT_ok n1
        · exact litT_ok n2
  · rename_i a b
    have n1 := hs _ hr2.1.1
    have n2 := hs _ hr2.1.2
    (try walk_at "law_rule_text")
    have ec : cutL [D.str "needs", litD a, litD b] (some 1) none = [a, b].map litD := rfl
    rw [ec]
    refine ⟨⟨_, rfl⟩, ?_⟩
    refine lc_map [a, b] litD (fun a => D.str (litT a)) trivial ?_ ?_
    · intro c hc yes hy
      have nl : (litT c).length ≤ 9 := by
        simp only [List.mem_cons, List.not_mem_nil, or_false] at hc
        rcases hc with rfl | rfl
        · exact (litT_ok n1).2
        · exact (litT_ok n2).2
      unfold litT at nl hy
      rw [em_app] at nl hy
      rw [Str.length_append] at nl
      (try walk_at "law_rule_text")
      exact ⟨by omega, hy⟩
    · (try walk_at "law_rule_text")
      have e : D.str "needs" :: List.map (fun a => D.str (litT a)) [a, b] = [("needs" : Str), litT a, litT b].map D.str := rfl
      rw [e, jn_lst (m := 9) (k := 1) sp (fun s hs => ?_) (by simp)]
      · exact h
      · simp only [List.mem_cons, List.not_mem_nil, or_false] at hs
        rcases hs with rfl | rfl | rfl
        · exact tOk_dec (by decide +kernel)
        · exact litT_ok n1
        · exact litT_ok n2
  · rename_i a b
    have n1 := hs _ hr2.1.1
    have n2 := hs _ hr2.1.2
    (try walk_at "law_rule_text")
    have ec : cutL [D.str "bars", litD a, litD b] (some 1) none = [a, b].map litD := rfl
    rw [ec]
    refine ⟨⟨_, rfl⟩, ?_⟩
    refine lc_map [a, b] litD (fun a => D.str (litT a)) trivial ?_ ?_
    · intro c hc yes hy
      have nl : (litT c).length ≤ 9 := by
        simp only [List.mem_cons, List.not_mem_nil, or_false] at hc
        rcases hc with rfl | rfl
        · exact (litT_ok n1).2
        · exact (litT_ok n2).2
      unfold litT at nl hy
      rw [em_app] at nl hy
      rw [Str.length_append] at nl
      (try walk_at "law_rule_text")
      exact ⟨by omega, hy⟩
    · (try walk_at "law_rule_text")
      have e : D.str "bars" :: List.map (fun a => D.str (litT a)) [a, b] = [("bars" : Str), litT a, litT b].map D.str := rfl
      rw [e, jn_lst (m := 9) (k := 1) sp (fun s hs => ?_) (by simp)]
      · exact h
      · simp only [List.mem_cons, List.not_mem_nil, or_false] at hs
        rcases hs with rfl | rfl | rfl
        · exact tOk_dec (by decide +kernel)
        · exact litT_ok n1
        · exact litT_ok n2
  · rename_i f x y
    (try walk_at "law_rule_text")
    rw [show tp f [D.str (Str.ofString "same"), .str x, .str y] = tq (if f = true then .t else .f) ([("same" : Str), x, y].map D.str) from tp_fg _ _, jn_tq (m := 9) (k := 1) sp (fun s h2 => ?_) (by simp)]
    · rw [ruleT_join (l := [("same" : Str), x, y]) hs hk (split_rule hs hk)]
      exact ⟨⟨_, rfl⟩, h⟩
    · simp only [List.mem_cons, List.not_mem_nil, or_false] at h2
      rcases h2 with rfl | rfl | rfl
      · exact tOk_dec (by decide +kernel)
      · exact (tOk.of_name (hs _ hr2.1.1)).mono (by omega)
      · exact (tOk.of_name (hs _ hr2.1.2)).mono (by omega)
  · rename_i f x y
    (try walk_at "law_rule_text")
    rw [show tp f [D.str (Str.ofString "unlike"), .str x, .str y] = tq (if f = true then .t else .f) ([("unlike" : Str), x, y].map D.str) from tp_fg _ _, jn_tq (m := 9) (k := 1) sp (fun s h2 => ?_) (by simp)]
    · rw [ruleT_join (l := [("unlike" : Str), x, y]) hs hk (split_rule hs hk)]
      exact ⟨⟨_, rfl⟩, h⟩
    · simp only [List.mem_cons, List.not_mem_nil, or_false] at h2
      rcases h2 with rfl | rfl | rfl
      · exact tOk_dec (by decide +kernel)
      · exact (tOk.of_name (hs _ hr2.1.1)).mono (by omega)
      · exact (tOk.of_name (hs _ hr2.1.2)).mono (by omega)
theorem ok_law_rule_text (T : Tx P w K mg base) : Pub P w K mg base 1 "_law_rule_text" ["_law_rule_here"] sp_law_rule_text := (fn_law_rule_text T).pub fun _ _ _ _ _ _ us hl => match us, hl with | [_], _ => rfl

theorem sc_law_text : FnScope ["_law_parts", "_law_rule_here"] ["_law_parts"] (defScope (top 46)) := ⟨rfl, rfl, rfl, by decide +kernel, rfl, by decide +kernel, by decide +kernel⟩
def sp_law_text : DSp := fun ds M post => ∃ (fg : Fg) (p : Pan) (t : List D), ds = [.lst (strsF p.ss :: tq fg (p.rs.map ruleD) :: t)] ∧ post (.str (panT p.ss p.rs)) M
local macro_rules | `(tactic| walk_at "law_text") => `(tactic| simp only [↓cl_law_rule_text, cl_law_rule_text, ↓FD.wCM_e, ↓FD.wCMK_e, ↓FD.wMakeV_e, ↓FD.wMethKC_e, ↓FD.wSetSort_e, ↓FD.gSplit_e, ↓FD.gSplitN_e, ↓FD.wSetLenT_e, ↓FD.wRevT_e, ↓FD.wSetLen_e, ↓FD.wRev_e, ↓FD.gDictS_e, ↓FD.gMinS_e, ↓FD.gIndexB_e, ↓FD.gListN_e, ↓FD.gAddC_e, ↓FD.wDispN_e, ↓FD.wMethD_e, ↓FD.gPop0_e, ↓FD.sFin_e, ↓FD.gFldD_e, ↓FD.sCt_e, ↓FD.sFrz_e, ↓FD.gLeS_e, ↓FD.gStrO_e, ↓FD.gBoolO_e, ↓FD.wM0_e, ↓FD.gUpper_e, ↓FD.gUnL_e, ↓FD.sSeq_e, ↓FD.sRet_e, ↓FD.sIf_e, ↓FD.sAsg_e, ↓FD.gSet_e, ↓FD.sDrop_e, ↓FD.sNext_e, ↓FD.sPar_e, ↓FD.sPar3_e, ↓FD.wIf_e, ↓FD.wOp_e, ↓FD.wUn_e, ↓FD.wVar_e, ↓FD.wC_e, ↓FD.wTst_e, ↓FD.wAnd_e, ↓FD.wOr_e, ↓FD.wNot_e, ↓FD.wAndV_e, ↓FD.wOrV_e, ↓FD.wNotV_e, ↓FD.wChain_e, ↓FD.aNil_e, ↓FD.aCons_e, ↓FD.wTup_e, ↓FD.wLst_e, ↓FD.wFtp_e, ↓FD.wNew_e, ↓FD.wCall_e, ↓FD.wB_e, ↓FD.wSl_e, ↓FD.oSome_e, ↓FD.oNone_e, ↓FD.wIsi_e, ↓FD.wIsiC_e, ↓FD.p1_e, ↓FD.p2_e, ↓FD.gLen_e, ↓FD.iLst_e, ↓FD.iTup_e, ↓FD.iStrD_e, ↓FD.iEnT_e, ↓FD.iEnL_e, ↓FD.iRng_e, ↓FD.iRng2_e, ↓FD.gTup_e, ↓FD.gsNil_e, ↓FD.gsCons_e, ↓FD.wM_e, ↓FD.wIxT_e, ↓FD.wFld_e, ↓FD.wMeth_e, ↓FD.wMake_e, ↓FD.sFldD_e, ↓FD.wDGet_e, ↓FD.sDput_e, ↓FD.wDNewK_e, ↓FD.wDNewT_e, ↓FD.wDisp1_e, ↓FD.wIce_e, ↓FD.gSub_e, ↓FD.wCallK_e, ↓FD.t1_e, ↓FD.t2_e, ↓FD.t1w_e, ↓FD.tYesD_e, ↓FD.gDIn_e, ↓FD.gDNin_e, ↓FD.gIndexT_e, ↓FD.gIndex_e, ↓FD.gAbs_e, ↓FD.gMax_e, ↓FD.gMin_e, ↓FD.gDivmod_e, ↓FD.wFz_e, ↓FD.wDGetD_e, ↓FD.t3_e, ↓FD.iZip3D_e, ↓FD.sForIT_e, ↓FD.wIsiO_e, ↓FD.wFmt_e, ↓FD.wTruO_e, ↓FD.gLenO_e, ↓FD.wMakeK_e, ↓FD.gOwn_e, ↓FD.t12_e, ↓FD.iZipMD_e, ↓FD.sForKT_e, ↓FD.wDSetd_e, ↓FD.wVals_e, ↓FD.iRng3_e, ↓FD.iEnS_e, ↓FD.gZ2_eq, ↓zip2_cl, ↓FD.addF_ftp, ↓FD.wPs_nil, ↓FD.wPs_cons, ↓FM.keyed_nil, ↓FM.keyed_str, ↓FM.sortP_lst, ↓FM.sortP_ftp, ↓lk_de_switches, ↓lk_de_rules, ↓lk_de_promises, ↓lk_de_past, ↓lk_de_undo, ↓lk_de_put, ↓lk_de_turn, ↓lk_de_become, ↓lk_de_take, ↓lk_de_promise, ↓lk_de_lift, ↓lk_de_trial, ↓lk_de_as_panel, ↓put_de_past, ↓put_de_promises, ↓lk_sg_setting, ↓lk_sg_log, ↓lk_sg_past, ↓lk_sg_other, ↓insR_stage, ↓lk_bo_panel, ↓lk_bo_setting, ↓lk_bo_log, ↓lk_bo_busy, ↓lk_bo_past, ↓lk_bo_do, ↓lk_bo_do_all, ↓lk_bo_undo, ↓lk_bo_take, ↓lk_bo_trial, ↓lk_bo_is_deed, ↓lk_bo_check_idle, ↓put_bo_setting, ↓put_bo_log, ↓put_bo_busy, ↓put_bo_past, ↓isiO_pan, ↓insT_pan, ↓FD.js_nil, ↓FD.js_cons, ↓FD.wLc2N_eq, ↓FD.addN_lst, ↓sFor_eq, ↓wLc_eq, ↓wLc2_eq, ↓wDc_eq, ↓look_zero, ↓look_succ, ↓got_so, ↓isB_bl, ↓isI_int, ↓isS_str, ↓isT_tup, ↓isT_ftp, ↓isT_ktp, ↓isT_tp, ↓isT_tq, ↓one_one, ↓two_two, ↓startD_cc, ↓startD_cn, ↓startD_nn, ↓FD.ix_str, ↓FD.ix_tup, ↓ix_ftp, ↓ix_ktp, ↓ix_lst, ↓ix_scr, ↓ix_tp, ↓ix_tq, ↓atI0, ↓atI1, ↓atI2, ↓atI3, ↓FD.eq_str, ↓FD.ne_str, ↓FD.eq_int, ↓FD.ne_int, ↓FD.add_int, ↓FD.sub_int, ↓FD.lt_int, ↓FD.le_int, ↓FD.gt_int, ↓FD.ge_int, ↓FD.add_str, ↓FD.add_lst, ↓FD.add_tup, ↓FD.mul_int, ↓FD.mod_int, ↓FD.fdiv_int, ↓FD.pow_int, ↓isN_non, ↓notN_non, ↓FD.len_str, ↓len_tup, ↓len_ftp, ↓len_ktp, ↓len_lst, ↓len_scr, ↓len_tp, ↓len_tq, ↓seq_tup, ↓seq_ftp, ↓seq_ktp, ↓seq_lst, ↓seq_scr, ↓seq_tp, ↓seq_tq, ↓in_tup, ↓in_ftp, ↓in_ktp, ↓in_lst, ↓nin_tup, ↓nin_ftp, ↓nin_ktp, ↓nin_lst, ↓FD.in_str, ↓nin_str, ↓isC_one, ↓asL_lst, ↓asL_scr, ↓if_tt, ↓if_ff, ↓isi_ss, ↓isi_tt, ↓isi_st, ↓isi_ts, ↓ty_str, ↓ty_tup, ↓ty_ftp, ↓ty_ktp, ↓ty_tp, ↓ty_tq, ↓all_lst, ↓any_lst, ↓flat_s, ↓flat_set, ↓tuple_lst, ↓FD.int_int, ↓eq_ftp_nil, ↓ne_ftp_nil, ↓isNon_non, ↓isNon_int, ↓isNon_str, ↓isNon_ptr, ↓isNon_tup, ↓isNon_ftp, ↓inL_strs, ↓flatSs, ↓inL_sets, ↓flatSets, ↓FM.tw, ↓FM.tw3, ↓FM.sl_str, ↓sl_set, ↓cell_upd, ↓lk_sw, ↓lk_ru, ↓lk_st, ↓lk_place, ↓lk_has, ↓lk_keeps, ↓lk_wrongs, ↓lk_goods, ↓lk_ways_from, ↓lk_text, ↓ins_pan, ↓FD.fit_le, ↓cx_K, ↓nox_K, ↓blk_K, ↓bx_K, ↓c1, ↓c2, ↓c3, ↓c4, ↓inL_cons, ↓inL_nil, ↓all_bools, ↓any_bools, ↓in_tp, ↓in_tq, ↓nin_tp, ↓nin_tq, ↓FM.sl_ftp, ↓FM.sl_tup, ↓FM.sl_lst, ↓FM.sl_scr, ↓index_eq, ↓ex_ftp, ↓eqd_str, ↓wf_at, ↓isT_cl, ↓isT_st, ↓isT_lit, ↓ix_lit0, ↓ix_lit1, ↓len_lit, ↓ty_lit, ↓eq_lit, ↓ne_lit, ↓eq_set, ↓ne_set, ↓len_set, ↓ty_set, ↓isS_set, ↓isC_sg, ↓sNever_e, ↓enumD_map, ↓dpAll_strs, ↓dpAll_mapI, ↓ne_lst_nil, ↓eq_lst_nil, ↓isT_grp, ↓len_grp, ↓isDc_wf, ↓wn_at, ↓isT_way, ↓len_way, ↓ty_way, ↓ty_st, ↓len_st, ↓ix_st0, ↓ix_st1, ↓inD_lits, ↓ninD_lits, ↓dpAll_sets, ↓three_three, ↓zip3_sets, ↓isT_z3, ↓inL_lock, ↓ninT_lits, ↓FM.tp_t, ↓FM.tp_f, ↓FM.tq_t, ↓FM.tq_f, ↓isT_pr, ↓tupleP_lst, ↓isT_it, ↓isNon_set, ↓ixN30, ↓ixN31, ↓ixN32, ↓ix_upd, ↓FM.eq_bl, ↓FM.ne_bl, ↓FM.sl_tp, ↓lstOf_lst, ↓okL_lst, ↓gMulS_eq, ↓add_sets, ↓add_setb, ↓add_setp, ↓add_setm, ↓rngE_e, ↓ix_rule0, ↓repr_bb, ↓isB_isD, ↓isB_notD, ↓wLcN_eq, ↓optW_some, ↓optW_none, ↓isNon_way, ↓ne_way0, ↓mulL2, ↓add_rules, ↓add_rulesT, ↓add_rulesF, ↓ne_ftp_sets, ↓ne_ftp_lits, ↓ne_ftp_strs, ↓add_strs, Option.isSome_some, Option.isSome_none, Option.isNone_some, Option.isNone_none, Option.map_some, Option.map_none, isNon_optW, isNon_optL, pick_nil, pick_cons, List.getElem?_cons_zero, List.getElem?_cons_succ, List.nil_append, List.append_nil, List.cons_append, Bool.decide_eq_true, Bool.decide_eq_false, Int.reduceAbs, Int.reduceToNat, Int.reducePow, true_or, or_true, Mem.upd_upd, rng_int, Bool.not_true, Bool.not_false, Bool.false_eq_true, if_false, if_true, true_and, and_true, List.set_cons_zero, List.set_cons_succ, List.length_cons, List.length_nil, List.length_map, eq_self, decide_true, decide_false, Bool.true_eq_false, or_self, Bool.or_self, List.all_cons, List.all_nil, Bool.and_true, Bool.true_and, Bool.or_false, Bool.false_or, Bool.or_true, Bool.true_or, Bool.and_false, Bool.false_and, Int.reduceLT, Int.reduceLE, Int.reduceEq, Nat.reduceLeDiff, Nat.reduceAdd, Nat.reduceLT, wf_some, wn_some, fold_lit, fold_litp, fold_litm, sg_iff, sg_in_pm, isNon_opt, isEmpty_map, ↓reduceIte, nq_0_1, nq_0_2, nq_0_3, nq_0_4, nq_0_5, nq_0_6, nq_0_7, nq_1_0, nq_1_2, nq_1_3, nq_1_4, nq_1_5, nq_1_6, nq_1_7, nq_2_0, nq_2_1, nq_2_3, nq_2_4, nq_2_5, nq_2_6, nq_2_7, nq_3_0, nq_3_1, nq_3_2, nq_3_4, nq_3_5, nq_3_6, nq_3_7, nq_4_0, nq_4_1, nq_4_2, nq_4_3, nq_4_5, nq_4_6, nq_4_7, nq_5_0, nq_5_1, nq_5_2, nq_5_3, nq_5_4, nq_5_6, nq_5_7, nq_6_0, nq_6_1, nq_6_2, nq_6_3, nq_6_4, nq_6_5, nq_6_7, nq_7_0, nq_7_1, nq_7_2, nq_7_3, nq_7_4, nq_7_5, nq_7_6])
theorem fn_law_text (T : Tx P w K mg base) : Fng P w K mg base 2 "_law_text" (top 46) ["_law_parts"] sp_law_text := by
  have S := sc_law_text
  refine fng_of T.d_law_text T.g_law_text S (fun ds M post h => by unfold sp_law_text at h; grind) fun f cdv A outer s H gd hr => ⟨_, (ds_one (ds_ret (de_ms PySem.F.slot_str_join PySem.F.type_str_join m_join dstr (da_cons (de_op o_add (de_lst (da_cons (de_op o_add dstr (de_ms PySem.F.slot_str_join PySem.F.type_str_join m_join dstr (da_cons (de_ix o_ix (dv 0) dint) da_nil))) da_nil)) (de_lc (own := [("_law_rule_here", 1)]) rfl S.nd (di_tup (de_ix o_ix (dv 0) dint)) (blkOk_by (N := ["_law_parts", "_law_rule_here"]) (sc := defScope (top 46)) (by decide +kernel)) tgt1 (fun _ _ _ _ _ => pg_name (i := 1) S.nd rfl (Or.inl rfl)) (fun _ _ _ _ _ => dts_nil) (fun _ _ _ _ _ => (de_call (ok_law_rule_text T) (hr.mono (by decide)) gd (da_cons (dv 1) da_nil))))) da_nil)))), ?_⟩
  rintro ds M post ⟨fg, p, t, rfl, h⟩
  have ln := p.len
  have l10 := p.sw.2.1
  have nm := p.sw.2.2.2
  have cm : tOk 2 (", " : Str) := tOk_dec (by decide +kernel)
  have nl : tOk 1 ("\n" : Str) := tOk_dec (by decide +kernel)
  have j1 := (tOk.join (n := 10) cm (fun s hs => tOk.of_name (nm s hs)) l10).2
  have j2 : (Str.ofString "switches ").length = 9 := by decide +kernel
  (try walk_at "law_text")
  rw [jn_ftp (m := 8) cm (fun s hs => tOk.of_name (nm s hs)) (by omega)]
  (try walk_at "law_text")
  refine ⟨⟨_, rfl⟩, ⟨_, rfl⟩, by omega, ?_⟩
  refine lc_map p.rs ruleD (fun r => D.str (ruleT r)) trivial ?_ ?_
  · intro r hr2 yes hy
    (try walk_at "law_text")
    exact ⟨p.ss, nm, p.ru r hr2, hy⟩
  · (try walk_at "law_text")
    have e : D.str (Str.ofString "switches " ++ Txt.join (Str.ofString ", ") p.ss) :: (p.rs.map fun r => D.str (ruleT r)) = ((Str.ofString "switches " ++ Txt.join (Str.ofString ", ") p.ss) :: p.rs.map ruleT).map D.str := by rw [List.map_cons, List.map_map]; rfl
    rw [e, jn_lst (m := 109) nl rows_ok (by rw [List.length_cons, List.length_map]; omega)]
    exact ⟨by omega, h⟩
theorem ok_law_text (T : Tx P w K mg base) : Pub P w K mg base 2 "_law_text" ["_law_parts"] sp_law_text := (fn_law_text T).pub fun _ _ _ _ _ _ us hl => match us, hl with | [_], _ => rfl

theorem sc_law_right : FnScope ["_law_bag_here", "_law_made_here", "_law_turn", "_law_parts", "_law_mine", "_law_line", "_law_mate", "_law_each"] ["_law_bag_here"] (defScope (top 47)) := ⟨rfl, rfl, rfl, by decide +kernel, rfl, by decide +kernel, by decide +kernel⟩
def sp_law_right : DSp := fun ds M post => ∃ (j : Addr), ds = [.ptr j] ∧ (Jg M j ∧ ∀ M', Jw j M M' → post (.bl true) M')
theorem cl_law_right {j : Addr} {M : Mem} {post : WK} : sp_law_right [.ptr j] M post = (Jg M j ∧ ∀ M', Jw j M M' → post (.bl true) M') := by
  simp [-Bool.exists_bool, sp_law_right, tp_inj, tq_inj, litD_inj, strs_inj, ruleD_inj, clD_inj, setD_inj, rules_inj, lits_inj, sets_inj, ints_inj, panF_inj, rngs_inj, rngE_inj, sg_inj, and_assoc, Int.natCast_inj]
theorem kwCM_Panel_read_text (T : Tx P w K mg base) : PubCMK P w K mg base 7 (He.ga K "Panel") "read" ["text"] [0, 1] ["cls", "text"] (sp_Panel_read K) := (fnA_Panel_read T).cmk T.cm_Panel_read ["text"] [0, 1] (fun _ _ _ _ _ _ us ws h1 h2 => match us, ws, h1, h2 with | [_], [_], _, _ => rfl)
local macro_rules | `(tactic| walk_at "law_right") => `(tactic| simp only [↓cl_law_panel, cl_law_panel, ↓cl_law_made, cl_law_made, ↓cl_Panel___eq__, cl_Panel___eq__, ↓cl_Panel_text, cl_Panel_text, ↓cl_Panel___str__, cl_Panel___str__, ↓cl_Panel_read, cl_Panel_read, ↓FD.wCM_e, ↓FD.wCMK_e, ↓FD.wMakeV_e, ↓FD.wMethKC_e, ↓FD.wSetSort_e, ↓FD.gSplit_e, ↓FD.gSplitN_e, ↓FD.wSetLenT_e, ↓FD.wRevT_e, ↓FD.wSetLen_e, ↓FD.wRev_e, ↓FD.gDictS_e, ↓FD.gMinS_e, ↓FD.gIndexB_e, ↓FD.gListN_e, ↓FD.gAddC_e, ↓FD.wDispN_e, ↓FD.wMethD_e, ↓FD.gPop0_e, ↓FD.sFin_e, ↓FD.gFldD_e, ↓FD.sCt_e, ↓FD.sFrz_e, ↓FD.gLeS_e, ↓FD.gStrO_e, ↓FD.gBoolO_e, ↓FD.wM0_e, ↓FD.gUpper_e, ↓FD.gUnL_e, ↓FD.sSeq_e, ↓FD.sRet_e, ↓FD.sIf_e, ↓FD.sAsg_e, ↓FD.gSet_e, ↓FD.sDrop_e, ↓FD.sNext_e, ↓FD.sPar_e, ↓FD.sPar3_e, ↓FD.wIf_e, ↓FD.wOp_e, ↓FD.wUn_e, ↓FD.wVar_e, ↓FD.wC_e, ↓FD.wTst_e, ↓FD.wAnd_e, ↓FD.wOr_e, ↓FD.wNot_e, ↓FD.wAndV_e, ↓FD.wOrV_e, ↓FD.wNotV_e, ↓FD.wChain_e, ↓FD.aNil_e, ↓FD.aCons_e, ↓FD.wTup_e, ↓FD.wLst_e, ↓FD.wFtp_e, ↓FD.wNew_e, ↓FD.wCall_e, ↓FD.wB_e, ↓FD.wSl_e, ↓FD.oSome_e, ↓FD.oNone_e, ↓FD.wIsi_e, ↓FD.wIsiC_e, ↓FD.p1_e, ↓FD.p2_e, ↓FD.gLen_e, ↓FD.iLst_e, ↓FD.iTup_e, ↓FD.iStrD_e, ↓FD.iEnT_e, ↓FD.iEnL_e, ↓FD.iRng_e, ↓FD.iRng2_e, ↓FD.gTup_e, ↓FD.gsNil_e, ↓FD.gsCons_e, ↓FD.wM_e, ↓FD.wIxT_e, ↓FD.wFld_e, ↓FD.wMeth_e, ↓FD.wMake_e, ↓FD.sFldD_e, ↓FD.wDGet_e, ↓FD.sDput_e, ↓FD.wDNewK_e, ↓FD.wDNewT_e, ↓FD.wDisp1_e, ↓FD.wIce_e, ↓FD.gSub_e, ↓FD.wCallK_e, ↓FD.t1_e, ↓FD.t2_e, ↓FD.t1w_e, ↓FD.tYesD_e, ↓FD.gDIn_e, ↓FD.gDNin_e, ↓FD.gIndexT_e, ↓FD.gIndex_e, ↓FD.gAbs_e, ↓FD.gMax_e, ↓FD.gMin_e, ↓FD.gDivmod_e, ↓FD.wFz_e, ↓FD.wDGetD_e, ↓FD.t3_e, ↓FD.iZip3D_e, ↓FD.sForIT_e, ↓FD.wIsiO_e, ↓FD.wFmt_e, ↓FD.wTruO_e, ↓FD.gLenO_e, ↓FD.wMakeK_e, ↓FD.gOwn_e, ↓FD.t12_e, ↓FD.iZipMD_e, ↓FD.sForKT_e, ↓FD.wDSetd_e, ↓FD.wVals_e, ↓FD.iRng3_e, ↓FD.iEnS_e, ↓FD.gZ2_eq, ↓zip2_cl, ↓FD.addF_ftp, ↓FD.wPs_nil, ↓FD.wPs_cons, ↓FM.keyed_nil, ↓FM.keyed_str, ↓FM.sortP_lst, ↓FM.sortP_ftp, ↓lk_de_switches, ↓lk_de_rules, ↓lk_de_promises, ↓lk_de_past, ↓lk_de_undo, ↓lk_de_put, ↓lk_de_turn, ↓lk_de_become, ↓lk_de_take, ↓lk_de_promise, ↓lk_de_lift, ↓lk_de_trial, ↓lk_de_as_panel, ↓put_de_past, ↓put_de_promises, ↓lk_sg_setting, ↓lk_sg_log, ↓lk_sg_past, ↓lk_sg_other, ↓insR_stage, ↓lk_bo_panel, ↓lk_bo_setting, ↓lk_bo_log, ↓lk_bo_busy, ↓lk_bo_past, ↓lk_bo_do, ↓lk_bo_do_all, ↓lk_bo_undo, ↓lk_bo_take, ↓lk_bo_trial, ↓lk_bo_is_deed, ↓lk_bo_check_idle, ↓put_bo_setting, ↓put_bo_log, ↓put_bo_busy, ↓put_bo_past, ↓isiO_pan, ↓insT_pan, ↓FD.js_nil, ↓FD.js_cons, ↓FD.wLc2N_eq, ↓FD.addN_lst, ↓sFor_eq, ↓wLc_eq, ↓wLc2_eq, ↓wDc_eq, ↓look_zero, ↓look_succ, ↓got_so, ↓isB_bl, ↓isI_int, ↓isS_str, ↓isT_tup, ↓isT_ftp, ↓isT_ktp, ↓isT_tp, ↓isT_tq, ↓one_one, ↓two_two, ↓startD_cc, ↓startD_cn, ↓startD_nn, ↓FD.ix_str, ↓FD.ix_tup, ↓ix_ftp, ↓ix_ktp, ↓ix_lst, ↓ix_scr, ↓ix_tp, ↓ix_tq, ↓atI0, ↓atI1, ↓atI2, ↓atI3, ↓FD.eq_str, ↓FD.ne_str, ↓FD.eq_int, ↓FD.ne_int, ↓FD.add_int, ↓FD.sub_int, ↓FD.lt_int, ↓FD.le_int, ↓FD.gt_int, ↓FD.ge_int, ↓FD.add_str, ↓FD.add_lst, ↓FD.add_tup, ↓FD.mul_int, ↓FD.mod_int, ↓FD.fdiv_int, ↓FD.pow_int, ↓isN_non, ↓notN_non, ↓FD.len_str, ↓len_tup, ↓len_ftp, ↓len_ktp, ↓len_lst, ↓len_scr, ↓len_tp, ↓len_tq, ↓seq_tup, ↓seq_ftp, ↓seq_ktp, ↓seq_lst, ↓seq_scr, ↓seq_tp, ↓seq_tq, ↓in_tup, ↓in_ftp, ↓in_ktp, ↓in_lst, ↓nin_tup, ↓nin_ftp, ↓nin_ktp, ↓nin_lst, ↓FD.in_str, ↓nin_str, ↓isC_one, ↓asL_lst, ↓asL_scr, ↓if_tt, ↓if_ff, ↓isi_ss, ↓isi_tt, ↓isi_st, ↓isi_ts, ↓ty_str, ↓ty_tup, ↓ty_ftp, ↓ty_ktp, ↓ty_tp, ↓ty_tq, ↓all_lst, ↓any_lst, ↓flat_s, ↓flat_set, ↓tuple_lst, ↓FD.int_int, ↓eq_ftp_nil, ↓ne_ftp_nil, ↓isNon_non, ↓isNon_int, ↓isNon_str, ↓isNon_ptr, ↓isNon_tup, ↓isNon_ftp, ↓inL_strs, ↓flatSs, ↓inL_sets, ↓flatSets, ↓FM.tw, ↓FM.tw3, ↓FM.sl_str, ↓sl_set, ↓cell_upd, ↓lk_sw, ↓lk_ru, ↓lk_st, ↓lk_place, ↓lk_has, ↓lk_keeps, ↓lk_wrongs, ↓lk_goods, ↓lk_ways_from, ↓lk_text, ↓ins_pan, ↓FD.fit_le, ↓cx_K, ↓nox_K, ↓blk_K, ↓bx_K, ↓c1, ↓c2, ↓c3, ↓c4, ↓inL_cons, ↓inL_nil, ↓all_bools, ↓any_bools, ↓in_tp, ↓in_tq, ↓nin_tp, ↓nin_tq, ↓FM.sl_ftp, ↓FM.sl_tup, ↓FM.sl_lst, ↓FM.sl_scr, ↓index_eq, ↓ex_ftp, ↓eqd_str, ↓wf_at, ↓isT_cl, ↓isT_st, ↓isT_lit, ↓ix_lit0, ↓ix_lit1, ↓len_lit, ↓ty_lit, ↓eq_lit, ↓ne_lit, ↓eq_set, ↓ne_set, ↓len_set, ↓ty_set, ↓isS_set, ↓isC_sg, ↓sNever_e, ↓enumD_map, ↓dpAll_strs, ↓dpAll_mapI, ↓ne_lst_nil, ↓eq_lst_nil, ↓isT_grp, ↓len_grp, ↓isDc_wf, ↓wn_at, ↓isT_way, ↓len_way, ↓ty_way, ↓ty_st, ↓len_st, ↓ix_st0, ↓ix_st1, ↓inD_lits, ↓ninD_lits, ↓dpAll_sets, ↓three_three, ↓zip3_sets, ↓isT_z3, ↓inL_lock, ↓ninT_lits, ↓FM.tp_t, ↓FM.tp_f, ↓FM.tq_t, ↓FM.tq_f, ↓isT_pr, ↓tupleP_lst, ↓isT_it, ↓isNon_set, ↓ixN30, ↓ixN31, ↓ixN32, ↓ix_upd, ↓FM.eq_bl, ↓FM.ne_bl, ↓FM.sl_tp, ↓lstOf_lst, ↓okL_lst, ↓gMulS_eq, ↓add_sets, ↓add_setb, ↓add_setp, ↓add_setm, ↓rngE_e, ↓ix_rule0, ↓repr_bb, ↓isB_isD, ↓isB_notD, ↓wLcN_eq, ↓optW_some, ↓optW_none, ↓isNon_way, ↓ne_way0, ↓mulL2, ↓add_rules, ↓add_rulesT, ↓add_rulesF, ↓ne_ftp_sets, ↓ne_ftp_lits, ↓ne_ftp_strs, ↓add_strs, Option.isSome_some, Option.isSome_none, Option.isNone_some, Option.isNone_none, Option.map_some, Option.map_none, isNon_optW, isNon_optL, pick_nil, pick_cons, List.getElem?_cons_zero, List.getElem?_cons_succ, List.nil_append, List.append_nil, List.cons_append, Bool.decide_eq_true, Bool.decide_eq_false, Int.reduceAbs, Int.reduceToNat, Int.reducePow, true_or, or_true, Mem.upd_upd, rng_int, Bool.not_true, Bool.not_false, Bool.false_eq_true, if_false, if_true, true_and, and_true, List.set_cons_zero, List.set_cons_succ, List.length_cons, List.length_nil, List.length_map, eq_self, decide_true, decide_false, Bool.true_eq_false, or_self, Bool.or_self, List.all_cons, List.all_nil, Bool.and_true, Bool.true_and, Bool.or_false, Bool.false_or, Bool.or_true, Bool.true_or, Bool.and_false, Bool.false_and, Int.reduceLT, Int.reduceLE, Int.reduceEq, Nat.reduceLeDiff, Nat.reduceAdd, Nat.reduceLT, wf_some, wn_some, fold_lit, fold_litp, fold_litm, sg_iff, sg_in_pm, isNon_opt, isEmpty_map, ↓reduceIte, nq_0_1, nq_0_2, nq_0_3, nq_0_4, nq_0_5, nq_0_6, nq_0_7, nq_1_0, nq_1_2, nq_1_3, nq_1_4, nq_1_5, nq_1_6, nq_1_7, nq_2_0, nq_2_1, nq_2_3, nq_2_4, nq_2_5, nq_2_6, nq_2_7, nq_3_0, nq_3_1, nq_3_2, nq_3_4, nq_3_5, nq_3_6, nq_3_7, nq_4_0, nq_4_1, nq_4_2, nq_4_3, nq_4_5, nq_4_6, nq_4_7, nq_5_0, nq_5_1, nq_5_2, nq_5_3, nq_5_4, nq_5_6, nq_5_7, nq_6_0, nq_6_1, nq_6_2, nq_6_3, nq_6_4, nq_6_5, nq_6_7, nq_7_0, nq_7_1, nq_7_2, nq_7_3, nq_7_4, nq_7_5, nq_7_6])
theorem fn_law_right (T : Tx P w K mg base) : Fng P w K mg base 8 "_law_right" (top 47) ["_law_bag_here"] sp_law_right := by
  have S := sc_law_right
  refine fng_of T.d_law_right T.g_law_right S (fun ds M post h => by unfold sp_law_right at h; grind) fun f cdv A outer s H gd hr => ⟨_, (ds_cons (ds_set (i := 1) S.nd (de_new da_nil))
      (ds_cons (ds_for PassesOwn.never rfl (di_range T.m_range (da_cons dint da_nil)) (dg_name (i := 2) S.nd)
      (ds_cons (ds_set (i := 3) S.nd (de_call (ok_law_panel T) (hr.mono (by decide)) gd (da_cons (dv 0) (da_cons dint (da_cons dint da_nil)))))
      (ds_cons (ds_par (i := 4) (j := 5) rfl S.nd (da_cons (de_call (ok_law_made T) (hr.mono (by decide)) gd (da_cons (dv 3) da_nil)) (da_cons (de_call (ok_law_text T) (hr.mono (by decide)) gd (da_cons (dv 3) da_nil)) da_nil)))
      (ds_cons (ds_if (dt_cmp (o_ne hr) (de_repr gd hr T.m_repr (da_cons (de_lst (da_cons (de_meth0 T.c_Panel (ok_Panel_text T) (hr.mono (by decide)) gd (dv 4)) (da_cons (de_ty (c_strO (ok_Panel___str__ T) (hr.mono (by decide)) gd) T.m_str (by decide +kernel) (da_cons (dv 4) da_nil)) da_nil))) da_nil)) (de_repr gd hr T.m_repr (da_cons (de_lst (da_cons (dv 5) (da_cons (dv 5) da_nil))) da_nil)))
      (ds_one (ds_ret dbl))
      ds_nil)
      (ds_cons (ds_for PassesOwn.never rfl (di_list (de_lst (da_cons (de_cm (ok_Panel_read T) (hr.mono (by decide)) gd T.gc_Panel (da_cons (dv 5) da_nil)) (da_cons (de_cmk (kwCM_Panel_read_text T) (hr.mono (by decide)) gd T.gc_Panel (dk_cons (dv 5) dk_nil)) da_nil)))) (dg_name (i := 6) S.nd)
      (ds_one (ds_if (PW.pt (dw_or (dt_cmp (o_ownN T.eq_Panel (ok_Panel___eq__ T) (hr.mono (by decide)) gd) (dv 6) (dv 4)) (dw_or1 (dt_cmp (o_ne hr) (de_repr gd hr T.m_repr (da_cons (de_lst (da_cons (de_fld T.c_Panel T.n_Panel_switches (dv 6)) (da_cons (de_fld T.c_Panel T.n_Panel_rules (dv 6)) da_nil))) da_nil)) (de_repr gd hr T.m_repr (da_cons (de_slice o_slice (dv 3) do_none (do_some dint)) da_nil))))))
      (ds_one (ds_ret dbl))
      ds_nil)))
      (ds_one (ds_expr (de_ml PySem.F.slot_list_append PySem.F.type_list_append m_append (dv 1) (da_cons (dv 4) da_nil)))))))))
      (ds_one (ds_ret (de_cmp (o_eq hr) (de_lc (own := [("_law_each", 7)]) rfl S.nd (di_list (dv 1)) (blkOk_by (N := ["_law_bag_here", "_law_made_here", "_law_turn", "_law_parts", "_law_mine", "_law_line", "_law_mate", "_law_each"]) (sc := defScope (top 47)) (by decide +kernel)) tgt1 (fun _ _ _ _ _ => pg_name (i := 7) S.nd rfl (Or.inl rfl)) (fun _ _ _ _ _ => (dts_one (dt_cmp (o_ne hr) (de_cmp (o_eq hr) (de_meth0 T.c_Panel (ok_Panel_text T) (hr.mono (by decide)) gd (dv 7)) (de_meth0 T.c_Panel (ok_Panel_text T) (hr.mono (by decide)) gd (de_ix o_ix (dv 1) dint))) (de_cmp (o_ownE T.eq_Panel (ok_Panel___eq__ T) (hr.mono (by decide)) gd) (dv 7) (de_ix o_ix (dv 1) dint))))) (fun _ _ _ _ _ => (dv 7))) (de_lst da_nil)))))), ?_⟩
  rintro ds M post ⟨j, rfl, hj, h⟩
  refine seq_gen fun T1 hT1 => ?_
  (try walk_at "law_right")
  intro c hc
  have cj := hj.ne hc
  subst hT1
  refine for_gen fun B hB => ?_
  refine seq_gen fun T1 hT1 => ?_
  (try walk_at "law_right")
  rw [rng_eq]
  refine for_map (List.range 5) rngE (fun i Γ' M' => (∃ (L : List Pan) (x2 x3 x4 x5 x6 x7 : Option D), Γ' = [some (.ptr j), some (.ptr c), x2, x3, x4, x5, x6, x7] ∧ M' c = some (.lst (L.map (panD K))) ∧ L.length = i) ∧ Jw j M M') ⟨⟨[], _, _, _, _, _, _, rfl, Mem.upd_same, rfl⟩, (Jw.refl hj).new hc⟩ (fun _ _ _ _ => trivial) ?_ ?_
  · rintro i k hk0 Γ' M' ⟨⟨L, x2, x3, x4, x5, x6, x7, rfl, c1, ll⟩, J⟩
    have i5 : i < 5 := by
      have := List.getElem?_eq_some_iff.mp hk0
      obtain ⟨h1, _⟩ := this
      simpa using h1
    subst hB
    generalize hE : FD.DEnds.mk _ _ _ _ = E
    refine seq_gen fun T2 hT => ?_
    (try walk_at "law_right")
    refine ⟨J.jg, ?_⟩
    intro p t pl rl tl M2 j2
    have c2 := j2.cell cj c1
    have J2 := J.jm j2
    have lp := p.len
    have l10 := p.sw.2.1
    subst hT
    refine seq_gen fun T2 hT => ?_
    (try walk_at "law_right")
    refine ⟨.t, p, [setD t], rfl, ?_⟩
    try dsimp only
    subst hT
    refine seq_gen fun T2 hT => ?_
    have ro : RepOk (.lst [.str (panT p.ss p.rs), .str (panT p.ss p.rs)]) := rep_of (RzL.lst (.cons (RzL.str panT_ok) (.cons (RzL.str panT_ok) .nil))) rfl (by simp [D.dp, dpAll]) (by omega)
    (try walk_at "law_right")
    refine ⟨_, rfl, ?_⟩
    rw [repr_ok ro, repr_ok ro]
    (try walk_at "law_right")
    subst hT
    refine seq_gen fun T2 hT => ?_
    have rq : ∀ q : Pan, q.ss = p.ss → q.rs.length = p.rs.length → RepOk (.lst [strsF q.ss, .ftp (q.rs.map ruleD)]) := fun q e1 e2 => by
      have ds := dpAll_strs q.ss
      have dl := dpAll_rules q.rs
      refine rep_of (RzL.lst (.cons (RzL.ftp (RzL.names q.sw.2.2.2 (by have := q.sw.2.1; omega))) (.cons (RzL.ftp (RzL.rules q.sw.2.2.2 q.ru (by have := q.len; omega))) .nil))) rfl ?_ (by omega)
      simp only [D.dp, dpAll, ds]
      omega
    have r1 := rq p rfl rfl
    have r2 := rq p.firm rfl (by rw [firm_rs, List.length_map])
    (try walk_at "law_right")
    refine ⟨p, rfl, p, rfl, ?_⟩
    refine for_map [p.firm, p.firm] (panD K) (fun i Γ' M' => (∃ x, Γ' = [some (.ptr j), some (.ptr c), some (rngE k), some (.lst [strsF p.ss, .ftp (p.rs.map ruleD), setD t]), some (panD K p), some (.str (panT p.ss p.rs)), x, x7]) ∧ M' = M2) ⟨⟨_, rfl⟩, rfl⟩ (fun _ _ _ _ => trivial) ?_ ?_
    · rintro i2 q hq Γ' M' ⟨⟨x, rfl⟩, rfl⟩
      have qe : q = p.firm := by
        have := List.mem_of_getElem? hq
        simpa using this
      subst qe
      (try walk_at "law_right")
      refine ⟨okR_pan, ?_⟩
      rw [rsEq_firm]
      (try walk_at "law_right")
      rw [if_neg (by rw [show p.firm.ss = p.ss from rfl]; simp)]
      rw [show cutL [strsF p.ss, D.ftp (List.map ruleD p.rs), setD t] none (some 2) = [strsF p.ss, D.ftp (List.map ruleD p.rs)] from rfl, repr_ok r2, repr_ok r1]
      rw [show shD (.lst [strsF p.firm.ss, .ftp (p.firm.rs.map ruleD)]) = shD (.lst [strsF p.ss, .ftp (p.rs.map ruleD)]) from sh_firm]
      (try walk_at "law_right")
      exact ⟨_, rfl⟩
    · rintro Γ' M' ⟨⟨x, rfl⟩, rfl⟩
      subst hT
      (try walk_at "law_right")
      refine ⟨okL_cell c2, ?_⟩
      rw [append_eq c2]
      refine ⟨by rw [List.length_map]; omega, ?_⟩
      subst hE
      exact ⟨⟨L ++ [p], _, _, _, _, _, _, rfl, by rw [Mem.upd_same, List.map_append]; rfl, by rw [List.length_append, ll]; rfl⟩, J2.put0 c2 hc cj⟩
  · rintro Γ' M' ⟨⟨L, x2, x3, x4, x5, x6, x7, rfl, c1, ll⟩, J⟩
    have l5 : L.length = 5 := by rw [ll]; simp
    obtain ⟨x0, L', rfl⟩ : ∃ x0 L', L = x0 :: L' := by
      cases L with
      | nil => simp at l5
      | cons a b => exact ⟨a, b, rfl⟩
    subst hT1
    (try walk_at "law_right")
    rw [asL_cell c1]
    refine lc_pure (x0 :: L') (panD K) (fun _ => false) (panD K) c1 ?_ ?_
    · intro x hx yes no hy hn
      simp only [List.map_cons] at c1
      simp only [ix_cell c1]
      (try walk_at "law_right")
      simp only [atI0, got_so, ix_cell c1]
      (try walk_at "law_right")
      simp only [atI0, got_so, ix_cell c1]
      refine ⟨okR_pan, ?_⟩
      (try walk_at "law_right")
      rw [text_eq, if_neg (by simp)]
      exact hn rfl
    · (try walk_at "law_right")
      have e : ∀ l : List Pan, (l.filter fun _ => false) = [] := fun l => by simp
      rw [e]
      exact ⟨Nat.zero_le _, h M' J⟩
theorem ok_law_right (T : Tx P w K mg base) : Pub P w K mg base 8 "_law_right" ["_law_bag_here"] sp_law_right := (fn_law_right T).pub fun _ _ _ _ _ _ us hl => match us, hl with | [_], _ => rfl

theorem sc_law_bag : FnScope ["_law_script", "_law_k", "_law_held_cell", "_law_seed", "_law_this", "_law_held_signs"] ["_law_script", "_law_k"] (defScope (top 36)) := ⟨rfl, rfl, rfl, by decide +kernel, rfl, by decide +kernel, by decide +kernel⟩
def sp_law_bag : DSp := fun ds M post => ∃ (ns : List Int) (k : Nat), ds = [.scr (ns.map D.int), .int (k : Int)] ∧ ∀ (j : Addr) (a b : Int), M j = none → post (.ptr j) (M.upd j (jg a b 0))
theorem cl_law_bag {ns : List Int} {k : Nat} {M : Mem} {post : WK} : sp_law_bag [.scr (ns.map D.int), .int (k : Int)] M post = ∀ (j : Addr) (a b : Int), M j = none → post (.ptr j) (M.upd j (jg a b 0)) := by
  simp [-Bool.exists_bool, sp_law_bag, tp_inj, tq_inj, litD_inj, strs_inj, ruleD_inj, clD_inj, setD_inj, rules_inj, lits_inj, sets_inj, ints_inj, panF_inj, rngs_inj, rngE_inj, sg_inj, and_assoc, Int.natCast_inj]
local macro_rules | `(tactic| walk_at "law_bag") => `(tactic| simp only [↓FD.wCM_e, ↓FD.wCMK_e, ↓FD.wMakeV_e, ↓FD.wMethKC_e, ↓FD.wSetSort_e, ↓FD.gSplit_e, ↓FD.gSplitN_e, ↓FD.wSetLenT_e, ↓FD.wRevT_e, ↓FD.wSetLen_e, ↓FD.wRev_e, ↓FD.gDictS_e, ↓FD.gMinS_e, ↓FD.gIndexB_e, ↓FD.gListN_e, ↓FD.gAddC_e, ↓FD.wDispN_e, ↓FD.wMethD_e, ↓FD.gPop0_e, ↓FD.sFin_e, ↓FD.gFldD_e, ↓FD.sCt_e, ↓FD.sFrz_e, ↓FD.gLeS_e, ↓FD.gStrO_e, ↓FD.gBoolO_e, ↓FD.wM0_e, ↓FD.gUpper_e, ↓FD.gUnL_e, ↓FD.sSeq_e, ↓FD.sRet_e, ↓FD.sIf_e, ↓FD.sAsg_e, ↓FD.gSet_e, ↓FD.sDrop_e, ↓FD.sNext_e, ↓FD.sPar_e, ↓FD.sPar3_e, ↓FD.wIf_e, ↓FD.wOp_e, ↓FD.wUn_e, ↓FD.wVar_e, ↓FD.wC_e, ↓FD.wTst_e, ↓FD.wAnd_e, ↓FD.wOr_e, ↓FD.wNot_e, ↓FD.wAndV_e, ↓FD.wOrV_e, ↓FD.wNotV_e, ↓FD.wChain_e, ↓FD.aNil_e, ↓FD.aCons_e, ↓FD.wTup_e, ↓FD.wLst_e, ↓FD.wFtp_e, ↓FD.wNew_e, ↓FD.wCall_e, ↓FD.wB_e, ↓FD.wSl_e, ↓FD.oSome_e, ↓FD.oNone_e, ↓FD.wIsi_e, ↓FD.wIsiC_e, ↓FD.p1_e, ↓FD.p2_e, ↓FD.gLen_e, ↓FD.iLst_e, ↓FD.iTup_e, ↓FD.iStrD_e, ↓FD.iEnT_e, ↓FD.iEnL_e, ↓FD.iRng_e, ↓FD.iRng2_e, ↓FD.gTup_e, ↓FD.gsNil_e, ↓FD.gsCons_e, ↓FD.wM_e, ↓FD.wIxT_e, ↓FD.wFld_e, ↓FD.wMeth_e, ↓FD.wMake_e, ↓FD.sFldD_e, ↓FD.wDGet_e, ↓FD.sDput_e, ↓FD.wDNewK_e, ↓FD.wDNewT_e, ↓FD.wDisp1_e, ↓FD.wIce_e, ↓FD.gSub_e, ↓FD.wCallK_e, ↓FD.t1_e, ↓FD.t2_e, ↓FD.t1w_e, ↓FD.tYesD_e, ↓FD.gDIn_e, ↓FD.gDNin_e, ↓FD.gIndexT_e, ↓FD.gIndex_e, ↓FD.gAbs_e, ↓FD.gMax_e, ↓FD.gMin_e, ↓FD.gDivmod_e, ↓FD.wFz_e, ↓FD.wDGetD_e, ↓FD.t3_e, ↓FD.iZip3D_e, ↓FD.sForIT_e, ↓FD.wIsiO_e, ↓FD.wFmt_e, ↓FD.wTruO_e, ↓FD.gLenO_e, ↓FD.wMakeK_e, ↓FD.gOwn_e, ↓FD.t12_e, ↓FD.iZipMD_e, ↓FD.sForKT_e, ↓FD.wDSetd_e, ↓FD.wVals_e, ↓FD.iRng3_e, ↓FD.iEnS_e, ↓FD.gZ2_eq, ↓zip2_cl, ↓FD.addF_ftp, ↓FD.wPs_nil, ↓FD.wPs_cons, ↓FM.keyed_nil, ↓FM.keyed_str, ↓FM.sortP_lst, ↓FM.sortP_ftp, ↓lk_de_switches, ↓lk_de_rules, ↓lk_de_promises, ↓lk_de_past, ↓lk_de_undo, ↓lk_de_put, ↓lk_de_turn, ↓lk_de_become, ↓lk_de_take, ↓lk_de_promise, ↓lk_de_lift, ↓lk_de_trial, ↓lk_de_as_panel, ↓put_de_past, ↓put_de_promises, ↓lk_sg_setting, ↓lk_sg_log, ↓lk_sg_past, ↓lk_sg_other, ↓insR_stage, ↓lk_bo_panel, ↓lk_bo_setting, ↓lk_bo_log, ↓lk_bo_busy, ↓lk_bo_past, ↓lk_bo_do, ↓lk_bo_do_all, ↓lk_bo_undo, ↓lk_bo_take, ↓lk_bo_trial, ↓lk_bo_is_deed, ↓lk_bo_check_idle, ↓put_bo_setting, ↓put_bo_log, ↓put_bo_busy, ↓put_bo_past, ↓isiO_pan, ↓insT_pan, ↓FD.js_nil, ↓FD.js_cons, ↓FD.wLc2N_eq, ↓FD.addN_lst, ↓sFor_eq, ↓wLc_eq, ↓wLc2_eq, ↓wDc_eq, ↓look_zero, ↓look_succ, ↓got_so, ↓isB_bl, ↓isI_int, ↓isS_str, ↓isT_tup, ↓isT_ftp, ↓isT_ktp, ↓isT_tp, ↓isT_tq, ↓one_one, ↓two_two, ↓startD_cc, ↓startD_cn, ↓startD_nn, ↓FD.ix_str, ↓FD.ix_tup, ↓ix_ftp, ↓ix_ktp, ↓ix_lst, ↓ix_scr, ↓ix_tp, ↓ix_tq, ↓atI0, ↓atI1, ↓atI2, ↓atI3, ↓FD.eq_str, ↓FD.ne_str, ↓FD.eq_int, ↓FD.ne_int, ↓FD.add_int, ↓FD.sub_int, ↓FD.lt_int, ↓FD.le_int, ↓FD.gt_int, ↓FD.ge_int, ↓FD.add_str, ↓FD.add_lst, ↓FD.add_tup, ↓FD.mul_int, ↓FD.mod_int, ↓FD.fdiv_int, ↓FD.pow_int, ↓isN_non, ↓notN_non, ↓FD.len_str, ↓len_tup, ↓len_ftp, ↓len_ktp, ↓len_lst, ↓len_scr, ↓len_tp, ↓len_tq, ↓seq_tup, ↓seq_ftp, ↓seq_ktp, ↓seq_lst, ↓seq_scr, ↓seq_tp, ↓seq_tq, ↓in_tup, ↓in_ftp, ↓in_ktp, ↓in_lst, ↓nin_tup, ↓nin_ftp, ↓nin_ktp, ↓nin_lst, ↓FD.in_str, ↓nin_str, ↓isC_one, ↓asL_lst, ↓asL_scr, ↓if_tt, ↓if_ff, ↓isi_ss, ↓isi_tt, ↓isi_st, ↓isi_ts, ↓ty_str, ↓ty_tup, ↓ty_ftp, ↓ty_ktp, ↓ty_tp, ↓ty_tq, ↓all_lst, ↓any_lst, ↓flat_s, ↓flat_set, ↓tuple_lst, ↓FD.int_int, ↓eq_ftp_nil, ↓ne_ftp_nil, ↓isNon_non, ↓isNon_int, ↓isNon_str, ↓isNon_ptr, ↓isNon_tup, ↓isNon_ftp, ↓inL_strs, ↓flatSs, ↓inL_sets, ↓flatSets, ↓FM.tw, ↓FM.tw3, ↓FM.sl_str, ↓sl_set, ↓cell_upd, ↓lk_sw, ↓lk_ru, ↓lk_st, ↓lk_place, ↓lk_has, ↓lk_keeps, ↓lk_wrongs, ↓lk_goods, ↓lk_ways_from, ↓lk_text, ↓ins_pan, ↓FD.fit_le, ↓cx_K, ↓nox_K, ↓blk_K, ↓bx_K, ↓c1, ↓c2, ↓c3, ↓c4, ↓inL_cons, ↓inL_nil, ↓all_bools, ↓any_bools, ↓in_tp, ↓in_tq, ↓nin_tp, ↓nin_tq, ↓FM.sl_ftp, ↓FM.sl_tup, ↓FM.sl_lst, ↓FM.sl_scr, ↓index_eq, ↓ex_ftp, ↓eqd_str, ↓wf_at, ↓isT_cl, ↓isT_st, ↓isT_lit, ↓ix_lit0, ↓ix_lit1, ↓len_lit, ↓ty_lit, ↓eq_lit, ↓ne_lit, ↓eq_set, ↓ne_set, ↓len_set, ↓ty_set, ↓isS_set, ↓isC_sg, ↓sNever_e, ↓enumD_map, ↓dpAll_strs, ↓dpAll_mapI, ↓ne_lst_nil, ↓eq_lst_nil, ↓isT_grp, ↓len_grp, ↓isDc_wf, ↓wn_at, ↓isT_way, ↓len_way, ↓ty_way, ↓ty_st, ↓len_st, ↓ix_st0, ↓ix_st1, ↓inD_lits, ↓ninD_lits, ↓dpAll_sets, ↓three_three, ↓zip3_sets, ↓isT_z3, ↓inL_lock, ↓ninT_lits, ↓FM.tp_t, ↓FM.tp_f, ↓FM.tq_t, ↓FM.tq_f, ↓isT_pr, ↓tupleP_lst, ↓isT_it, ↓isNon_set, ↓ixN30, ↓ixN31, ↓ixN32, ↓ix_upd, ↓FM.eq_bl, ↓FM.ne_bl, ↓FM.sl_tp, ↓lstOf_lst, ↓okL_lst, ↓gMulS_eq, ↓add_sets, ↓add_setb, ↓add_setp, ↓add_setm, ↓rngE_e, ↓ix_rule0, ↓repr_bb, ↓isB_isD, ↓isB_notD, ↓wLcN_eq, ↓optW_some, ↓optW_none, ↓isNon_way, ↓ne_way0, ↓mulL2, ↓add_rules, ↓add_rulesT, ↓add_rulesF, ↓ne_ftp_sets, ↓ne_ftp_lits, ↓ne_ftp_strs, ↓add_strs, Option.isSome_some, Option.isSome_none, Option.isNone_some, Option.isNone_none, Option.map_some, Option.map_none, isNon_optW, isNon_optL, pick_nil, pick_cons, List.getElem?_cons_zero, List.getElem?_cons_succ, List.nil_append, List.append_nil, List.cons_append, Bool.decide_eq_true, Bool.decide_eq_false, Int.reduceAbs, Int.reduceToNat, Int.reducePow, true_or, or_true, Mem.upd_upd, rng_int, Bool.not_true, Bool.not_false, Bool.false_eq_true, if_false, if_true, true_and, and_true, List.set_cons_zero, List.set_cons_succ, List.length_cons, List.length_nil, List.length_map, eq_self, decide_true, decide_false, Bool.true_eq_false, or_self, Bool.or_self, List.all_cons, List.all_nil, Bool.and_true, Bool.true_and, Bool.or_false, Bool.false_or, Bool.or_true, Bool.true_or, Bool.and_false, Bool.false_and, Int.reduceLT, Int.reduceLE, Int.reduceEq, Nat.reduceLeDiff, Nat.reduceAdd, Nat.reduceLT, wf_some, wn_some, fold_lit, fold_litp, fold_litm, sg_iff, sg_in_pm, isNon_opt, isEmpty_map, ↓reduceIte, nq_0_1, nq_0_2, nq_0_3, nq_0_4, nq_0_5, nq_0_6, nq_0_7, nq_1_0, nq_1_2, nq_1_3, nq_1_4, nq_1_5, nq_1_6, nq_1_7, nq_2_0, nq_2_1, nq_2_3, nq_2_4, nq_2_5, nq_2_6, nq_2_7, nq_3_0, nq_3_1, nq_3_2, nq_3_4, nq_3_5, nq_3_6, nq_3_7, nq_4_0, nq_4_1, nq_4_2, nq_4_3, nq_4_5, nq_4_6, nq_4_7, nq_5_0, nq_5_1, nq_5_2, nq_5_3, nq_5_4, nq_5_6, nq_5_7, nq_6_0, nq_6_1, nq_6_2, nq_6_3, nq_6_4, nq_6_5, nq_6_7, nq_7_0, nq_7_1, nq_7_2, nq_7_3, nq_7_4, nq_7_5, nq_7_6])
theorem fn_law_bag (T : Tx P w K mg base) : Fng P w K mg base 1 "_law_bag" (top 36) ["_law_script", "_law_k"] sp_law_bag := by
  have S := sc_law_bag
  refine fng_of T.d_law_bag T.g_law_bag S (fun ds M post h => by unfold sp_law_bag at h; grind) fun f cdv A outer s H gd hr => ⟨_, (ds_cons (ds_par (i := 2) (j := 3) rfl S.nd (da_cons (de_if (dt_cmp o_lt (dv 1) (de_b c_len T.m_len (by decide +kernel) (da_cons (dv 0) da_nil))) (de_ty c_int T.m_int (by decide +kernel) (da_cons (de_ix o_ix (dv 0) (dv 1)) da_nil)) dint) (da_cons (de_op o_mul dint (de_op o_add (dv 1) dint)) da_nil)))
      (ds_cons (ds_for PassesOwn.never rfl (di_list (de_slice o_slice (dv 0) do_none (do_some dint))) (dg_name (i := 4) S.nd)
      (ds_one (ds_set (i := 3) S.nd (de_op o_mod (de_ty c_int T.m_int (by decide +kernel) (da_cons (de_op o_add (de_op o_add (de_op o_mul (dv 3) dint) (de_op o_mod (de_ty c_int T.m_int (by decide +kernel) (da_cons (dv 4) da_nil)) dint)) (de_op o_mul dint (dv 1))) da_nil)) dint))))
      (ds_cons (ds_set (i := 5) S.nd (de_if (PW.pt (dw_or (dt_cmp o_lt (dv 2) dint) (dw_or1 (dt_cmp o_ge (dv 2) (de_op o_pow dint dint))))) (de_b c_abs T.m_abs (by decide +kernel) (da_cons (dv 2) da_nil)) dint))
      (ds_one (ds_ret (de_new (da_cons (dv 5) (da_cons (de_op o_mod (de_ty c_int T.m_int (by decide +kernel) (da_cons (de_op o_add (dv 3) (de_op o_mul dint (de_op o_mod (de_ty c_int T.m_int (by decide +kernel) (da_cons (dv 2) da_nil)) dint))) da_nil)) dint) (da_cons dint da_nil))))))))), ?_⟩
  rintro ds M post ⟨ns, k, rfl, h⟩
  have e7 : cutL (ns.map D.int) none (some 7) = (ns.take 7).map D.int := by rw [cutL_map]; exact congrArg _ (cutL_take (k := 7))
  (try walk_at "law_bag")
  by_cases hk : k < ns.length
  · rw [if_pos (by simp [hk]), atI_lt (by rw [List.length_map]; exact hk), List.getElem_map]
    (try walk_at "law_bag")
    generalize ns[k] = c
    rw [e7]
    refine for_map (ns.take 7) D.int (fun i Γ' M' => ∃ m x y, Γ' = [some (.scr (ns.map D.int)), some (.int (k : Int)), some (.int c), some (.int m), x, y] ∧ M' = M) ⟨_, _, _, rfl, rfl⟩ (fun _ _ _ _ => trivial) ?_ ?_
    · rintro i y hy Γ' M' ⟨m, x, z, rfl, rfl⟩
      (try walk_at "law_bag")
      first | exact ⟨_, _, _, rfl, rfl⟩ | exact ⟨_, _, _, rfl⟩
    · rintro Γ' M' ⟨m, x, z, rfl, rfl⟩
      (try walk_at "law_bag")
      (repeat' split) <;> exact fun j hj => h j _ _ hj
  · rw [if_neg (by simp; omega)]
    (try walk_at "law_bag")
    rw [e7]
    refine for_map (ns.take 7) D.int (fun i Γ' M' => ∃ m x y, Γ' = [some (.scr (ns.map D.int)), some (.int (k : Int)), some (.int 0), some (.int m), x, y] ∧ M' = M) ⟨_, _, _, rfl, rfl⟩ (fun _ _ _ _ => trivial) ?_ ?_
    · rintro i y hy Γ' M' ⟨m, x, z, rfl, rfl⟩
      (try walk_at "law_bag")
      first | exact ⟨_, _, _, rfl, rfl⟩ | exact ⟨_, _, _, rfl⟩
    · rintro Γ' M' ⟨m, x, z, rfl, rfl⟩
      (try walk_at "law_bag")
      (repeat' split) <;> exact fun j hj => h j _ _ hj
theorem ok_law_bag (T : Tx P w K mg base) : Pub P w K mg base 1 "_law_bag" ["_law_script", "_law_k"] sp_law_bag := (fn_law_bag T).pub fun _ _ _ _ _ _ us hl => match us, hl with | [_, _], _ => rfl

def lampP : Pan := mkPan ["pump", "valve", "lamp"] [.be ⟨"lamp", true⟩, .either ⟨"pump", true⟩ ⟨"valve", false⟩, .unlike true "lamp" "pump"] (by decide +kernel)
theorem sc_law : FnScope ["_law_script", "_law_k", "_law_mine", "_law_due"] ["_law_script"] (defScope (top 48)) := ⟨rfl, rfl, rfl, by decide +kernel, rfl, by decide +kernel, by decide +kernel⟩
def sp_law : DSp := fun ds M post => ∃ (ns : List Int), ds = [.scr (ns.map D.int)] ∧ ∀ M', post (.bl true) M' 
local macro_rules | `(tactic| walk_at "law") => `(tactic| simp only [↓cl_law_bag, cl_law_bag, ↓cl_law_right, cl_law_right, ↓cl_Panel_read, cl_Panel_read, ↓FD.wCM_e, ↓FD.wCMK_e, ↓FD.wMakeV_e, ↓FD.wMethKC_e, ↓FD.wSetSort_e, ↓FD.gSplit_e, ↓FD.gSplitN_e, ↓FD.wSetLenT_e, ↓FD.wRevT_e, ↓FD.wSetLen_e, ↓FD.wRev_e, ↓FD.gDictS_e, ↓FD.gMinS_e, ↓FD.gIndexB_e, ↓FD.gListN_e, ↓FD.gAddC_e, ↓FD.wDispN_e, ↓FD.wMethD_e, ↓FD.gPop0_e, ↓FD.sFin_e, ↓FD.gFldD_e, ↓FD.sCt_e, ↓FD.sFrz_e, ↓FD.gLeS_e, ↓FD.gStrO_e, ↓FD.gBoolO_e, ↓FD.wM0_e, ↓FD.gUpper_e, ↓FD.gUnL_e, ↓FD.sSeq_e, ↓FD.sRet_e, ↓FD.sIf_e, ↓FD.sAsg_e, ↓FD.gSet_e, ↓FD.sDrop_e, ↓FD.sNext_e, ↓FD.sPar_e, ↓FD.sPar3_e, ↓FD.wIf_e, ↓FD.wOp_e, ↓FD.wUn_e, ↓FD.wVar_e, ↓FD.wC_e, ↓FD.wTst_e, ↓FD.wAnd_e, ↓FD.wOr_e, ↓FD.wNot_e, ↓FD.wAndV_e, ↓FD.wOrV_e, ↓FD.wNotV_e, ↓FD.wChain_e, ↓FD.aNil_e, ↓FD.aCons_e, ↓FD.wTup_e, ↓FD.wLst_e, ↓FD.wFtp_e, ↓FD.wNew_e, ↓FD.wCall_e, ↓FD.wB_e, ↓FD.wSl_e, ↓FD.oSome_e, ↓FD.oNone_e, ↓FD.wIsi_e, ↓FD.wIsiC_e, ↓FD.p1_e, ↓FD.p2_e, ↓FD.gLen_e, ↓FD.iLst_e, ↓FD.iTup_e, ↓FD.iStrD_e, ↓FD.iEnT_e, ↓FD.iEnL_e, ↓FD.iRng_e, ↓FD.iRng2_e, ↓FD.gTup_e, ↓FD.gsNil_e, ↓FD.gsCons_e, ↓FD.wM_e, ↓FD.wIxT_e, ↓FD.wFld_e, ↓FD.wMeth_e, ↓FD.wMake_e, ↓FD.sFldD_e, ↓FD.wDGet_e, ↓FD.sDput_e, ↓FD.wDNewK_e, ↓FD.wDNewT_e, ↓FD.wDisp1_e, ↓FD.wIce_e, ↓FD.gSub_e, ↓FD.wCallK_e, ↓FD.t1_e, ↓FD.t2_e, ↓FD.t1w_e, ↓FD.tYesD_e, ↓FD.gDIn_e, ↓FD.gDNin_e, ↓FD.gIndexT_e, ↓FD.gIndex_e, ↓FD.gAbs_e, ↓FD.gMax_e, ↓FD.gMin_e, ↓FD.gDivmod_e, ↓FD.wFz_e, ↓FD.wDGetD_e, ↓FD.t3_e, ↓FD.iZip3D_e, ↓FD.sForIT_e, ↓FD.wIsiO_e, ↓FD.wFmt_e, ↓FD.wTruO_e, ↓FD.gLenO_e, ↓FD.wMakeK_e, ↓FD.gOwn_e, ↓FD.t12_e, ↓FD.iZipMD_e, ↓FD.sForKT_e, ↓FD.wDSetd_e, ↓FD.wVals_e, ↓FD.iRng3_e, ↓FD.iEnS_e, ↓FD.gZ2_eq, ↓zip2_cl, ↓FD.addF_ftp, ↓FD.wPs_nil, ↓FD.wPs_cons, ↓FM.keyed_nil, ↓FM.keyed_str, ↓FM.sortP_lst, ↓FM.sortP_ftp, ↓lk_de_switches, ↓lk_de_rules, ↓lk_de_promises, ↓lk_de_past, ↓lk_de_undo, ↓lk_de_put, ↓lk_de_turn, ↓lk_de_become, ↓lk_de_take, ↓lk_de_promise, ↓lk_de_lift, ↓lk_de_trial, ↓lk_de_as_panel, ↓put_de_past, ↓put_de_promises, ↓lk_sg_setting, ↓lk_sg_log, ↓lk_sg_past, ↓lk_sg_other, ↓insR_stage, ↓lk_bo_panel, ↓lk_bo_setting, ↓lk_bo_log, ↓lk_bo_busy, ↓lk_bo_past, ↓lk_bo_do, ↓lk_bo_do_all, ↓lk_bo_undo, ↓lk_bo_take, ↓lk_bo_trial, ↓lk_bo_is_deed, ↓lk_bo_check_idle, ↓put_bo_setting, ↓put_bo_log, ↓put_bo_busy, ↓put_bo_past, ↓isiO_pan, ↓insT_pan, ↓FD.js_nil, ↓FD.js_cons, ↓FD.wLc2N_eq, ↓FD.addN_lst, ↓sFor_eq, ↓wLc_eq, ↓wLc2_eq, ↓wDc_eq, ↓look_zero, ↓look_succ, ↓got_so, ↓isB_bl, ↓isI_int, ↓isS_str, ↓isT_tup, ↓isT_ftp, ↓isT_ktp, ↓isT_tp, ↓isT_tq, ↓one_one, ↓two_two, ↓startD_cc, ↓startD_cn, ↓startD_nn, ↓FD.ix_str, ↓FD.ix_tup, ↓ix_ftp, ↓ix_ktp, ↓ix_lst, ↓ix_scr, ↓ix_tp, ↓ix_tq, ↓atI0, ↓atI1, ↓atI2, ↓atI3, ↓FD.eq_str, ↓FD.ne_str, ↓FD.eq_int, ↓FD.ne_int, ↓FD.add_int, ↓FD.sub_int, ↓FD.lt_int, ↓FD.le_int, ↓FD.gt_int, ↓FD.ge_int, ↓FD.add_str, ↓FD.add_lst, ↓FD.add_tup, ↓FD.mul_int, ↓FD.mod_int, ↓FD.fdiv_int, ↓FD.pow_int, ↓isN_non, ↓notN_non, ↓FD.len_str, ↓len_tup, ↓len_ftp, ↓len_ktp, ↓len_lst, ↓len_scr, ↓len_tp, ↓len_tq, ↓seq_tup, ↓seq_ftp, ↓seq_ktp, ↓seq_lst, ↓seq_scr, ↓seq_tp, ↓seq_tq, ↓in_tup, ↓in_ftp, ↓in_ktp, ↓in_lst, ↓nin_tup, ↓nin_ftp, ↓nin_ktp, ↓nin_lst, ↓FD.in_str, ↓nin_str, ↓isC_one, ↓asL_lst, ↓asL_scr, ↓if_tt, ↓if_ff, ↓isi_ss, ↓isi_tt, ↓isi_st, ↓isi_ts, ↓ty_str, ↓ty_tup, ↓ty_ftp, ↓ty_ktp, ↓ty_tp, ↓ty_tq, ↓all_lst, ↓any_lst, ↓flat_s, ↓flat_set, ↓tuple_lst, ↓FD.int_int, ↓eq_ftp_nil, ↓ne_ftp_nil, ↓isNon_non, ↓isNon_int, ↓isNon_str, ↓isNon_ptr, ↓isNon_tup, ↓isNon_ftp, ↓inL_strs, ↓flatSs, ↓inL_sets, ↓flatSets, ↓FM.tw, ↓FM.tw3, ↓FM.sl_str, ↓sl_set, ↓cell_upd, ↓lk_sw, ↓lk_ru, ↓lk_st, ↓lk_place, ↓lk_has, ↓lk_keeps, ↓lk_wrongs, ↓lk_goods, ↓lk_ways_from, ↓lk_text, ↓ins_pan, ↓FD.fit_le, ↓cx_K, ↓nox_K, ↓blk_K, ↓bx_K, ↓c1, ↓c2, ↓c3, ↓c4, ↓inL_cons, ↓inL_nil, ↓all_bools, ↓any_bools, ↓in_tp, ↓in_tq, ↓nin_tp, ↓nin_tq, ↓FM.sl_ftp, ↓FM.sl_tup, ↓FM.sl_lst, ↓FM.sl_scr, ↓index_eq, ↓ex_ftp, ↓eqd_str, ↓wf_at, ↓isT_cl, ↓isT_st, ↓isT_lit, ↓ix_lit0, ↓ix_lit1, ↓len_lit, ↓ty_lit, ↓eq_lit, ↓ne_lit, ↓eq_set, ↓ne_set, ↓len_set, ↓ty_set, ↓isS_set, ↓isC_sg, ↓sNever_e, ↓enumD_map, ↓dpAll_strs, ↓dpAll_mapI, ↓ne_lst_nil, ↓eq_lst_nil, ↓isT_grp, ↓len_grp, ↓isDc_wf, ↓wn_at, ↓isT_way, ↓len_way, ↓ty_way, ↓ty_st, ↓len_st, ↓ix_st0, ↓ix_st1, ↓inD_lits, ↓ninD_lits, ↓dpAll_sets, ↓three_three, ↓zip3_sets, ↓isT_z3, ↓inL_lock, ↓ninT_lits, ↓FM.tp_t, ↓FM.tp_f, ↓FM.tq_t, ↓FM.tq_f, ↓isT_pr, ↓tupleP_lst, ↓isT_it, ↓isNon_set, ↓ixN30, ↓ixN31, ↓ixN32, ↓ix_upd, ↓FM.eq_bl, ↓FM.ne_bl, ↓FM.sl_tp, ↓lstOf_lst, ↓okL_lst, ↓gMulS_eq, ↓add_sets, ↓add_setb, ↓add_setp, ↓add_setm, ↓rngE_e, ↓ix_rule0, ↓repr_bb, ↓isB_isD, ↓isB_notD, ↓wLcN_eq, ↓optW_some, ↓optW_none, ↓isNon_way, ↓ne_way0, ↓mulL2, ↓add_rules, ↓add_rulesT, ↓add_rulesF, ↓ne_ftp_sets, ↓ne_ftp_lits, ↓ne_ftp_strs, ↓add_strs, Option.isSome_some, Option.isSome_none, Option.isNone_some, Option.isNone_none, Option.map_some, Option.map_none, isNon_optW, isNon_optL, pick_nil, pick_cons, List.getElem?_cons_zero, List.getElem?_cons_succ, List.nil_append, List.append_nil, List.cons_append, Bool.decide_eq_true, Bool.decide_eq_false, Int.reduceAbs, Int.reduceToNat, Int.reducePow, true_or, or_true, Mem.upd_upd, rng_int, Bool.not_true, Bool.not_false, Bool.false_eq_true, if_false, if_true, true_and, and_true, List.set_cons_zero, List.set_cons_succ, List.length_cons, List.length_nil, List.length_map, eq_self, decide_true, decide_false, Bool.true_eq_false, or_self, Bool.or_self, List.all_cons, List.all_nil, Bool.and_true, Bool.true_and, Bool.or_false, Bool.false_or, Bool.or_true, Bool.true_or, Bool.and_false, Bool.false_and, Int.reduceLT, Int.reduceLE, Int.reduceEq, Nat.reduceLeDiff, Nat.reduceAdd, Nat.reduceLT, wf_some, wn_some, fold_lit, fold_litp, fold_litm, sg_iff, sg_in_pm, isNon_opt, isEmpty_map, ↓reduceIte, nq_0_1, nq_0_2, nq_0_3, nq_0_4, nq_0_5, nq_0_6, nq_0_7, nq_1_0, nq_1_2, nq_1_3, nq_1_4, nq_1_5, nq_1_6, nq_1_7, nq_2_0, nq_2_1, nq_2_3, nq_2_4, nq_2_5, nq_2_6, nq_2_7, nq_3_0, nq_3_1, nq_3_2, nq_3_4, nq_3_5, nq_3_6, nq_3_7, nq_4_0, nq_4_1, nq_4_2, nq_4_3, nq_4_5, nq_4_6, nq_4_7, nq_5_0, nq_5_1, nq_5_2, nq_5_3, nq_5_4, nq_5_6, nq_5_7, nq_6_0, nq_6_1, nq_6_2, nq_6_3, nq_6_4, nq_6_5, nq_6_7, nq_7_0, nq_7_1, nq_7_2, nq_7_3, nq_7_4, nq_7_5, nq_7_6])
theorem fn_law (T : Tx P w K mg base) : Fng P w K mg base 9 "law" (top 48) ["_law_script"] sp_law := by
  have S := sc_law
  refine fng_of T.d_law T.g_law S (fun ds M post h => by unfold sp_law at h; grind) fun f cdv A outer s H gd hr => ⟨_, (ds_cons (ds_if (dt_not (dt_val (de_b (c_all rfl) T.m_all (by decide +kernel) (da_cons (de_lc (own := [("_law_k", 1)]) rfl S.nd (di_range T.m_range (da_cons (de_b (c_max rfl) T.m_max (by decide +kernel) (da_cons dint (da_cons (de_b (c_min rfl) T.m_min (by decide +kernel) (da_cons (de_b c_len T.m_len (by decide +kernel) (da_cons (dv 0) da_nil)) (da_cons dint da_nil))) da_nil))) da_nil)) (blkOk_by (N := ["_law_script", "_law_k", "_law_mine", "_law_due"]) (sc := defScope (top 48)) (by decide +kernel)) tgt1 (fun _ _ _ _ _ => pg_name (i := 1) S.nd rfl (Or.inl rfl)) (fun _ _ _ _ _ => dts_nil) (fun _ _ _ _ _ => (de_call (ok_law_right T) (hr.mono (by decide)) gd (da_cons (de_call (ok_law_bag T) (hr.mono (by decide)) gd (da_cons (dv 0) (da_cons (dv 1) da_nil))) da_nil)))) da_nil))))
      (ds_one (ds_ret dbl))
      ds_nil)
      (ds_cons (ds_set (i := 2) S.nd (de_cm (ok_Panel_read T) (hr.mono (by decide)) gd T.gc_Panel (da_cons dstr da_nil)))
      (ds_cons (ds_set (i := 3) S.nd (de_tup (da_cons (de_tup (da_cons dstr (da_cons (de_tup (da_cons dstr (da_cons dstr da_nil))) da_nil))) (da_cons (de_tup (da_cons dstr (da_cons (de_tup (da_cons dstr (da_cons dstr da_nil))) (da_cons (de_tup (da_cons dstr (da_cons dstr da_nil))) da_nil)))) (da_cons (de_tup (da_cons dstr (da_cons dstr (da_cons dstr da_nil)))) da_nil)))))
      (ds_one (ds_ret (de_cmp (o_eq hr) (de_fld T.c_Panel T.n_Panel_rules (dv 2)) (dv 3))))))), ?_⟩
  rintro ds M post ⟨ns, rfl, h⟩
  (try walk_at "law")
  generalize hm : (if (if (5 : Int) < (ns.length : Int) then 5 else (ns.length : Int)) > 2 then if (5 : Int) < (ns.length : Int) then 5 else (ns.length : Int) else 2) = m
  have m5 : 2 ≤ m ∧ m ≤ 5 := by
    rw [← hm]
    (repeat' split) <;> omega
  refine ⟨by omega, by omega, ?_⟩
  rw [rng_eq]
  refine lc_mapI (List.range m.toNat) rngE (fun _ => D.bl true) (fun _ => True) trivial (fun _ _ => trivial) ?_ ?_
  · intro k hk M1 t1 yes hy
    (try walk_at "law")
    intro j a b hn
    exact ⟨⟨a, b, 0, Mem.upd_same⟩, fun M2 j2 => hy M2 trivial⟩
  · intro M2 _
    have e : ((List.range m.toNat).all fun _ => true) = true := by simp
    rw [all_bools, e]
    (try walk_at "law")
    refine ⟨lampP, by decide +kernel, ?_⟩
    rw [eq_of_dp rfl rfl (by decide) (by decide), show eqd (D.ftp (List.map ruleD lampP.firm.rs)) (D.tup [D.tup [D.str (Str.ofString "be"), litD { n := Str.ofString "lamp", s := true }], D.tup [D.str (Str.ofString "either"), litD { n := Str.ofString "pump", s := true }, litD { n := Str.ofString "valve", s := false }], D.tup [D.str (Str.ofString "unlike"), D.str (Str.ofString "lamp"), D.str (Str.ofString "pump")]]) = true by decide +kernel]
    exact h M2
theorem ok_law (T : Tx P w K mg base) : Pub P w K mg base 9 "law" ["_law_script"] sp_law := (fn_law T).pub fun _ _ _ _ _ _ us hl => match us, hl with | [_], _ => rfl
end
end LW

namespace LW
open PySem PySem.Spec PyProof.Rows L2 FD FM
theorem law_ends {P : Program} {w : World} {K : PySem.W.Frag} {h : Heap} {mg : Str → Option Value} {f : Addr} (KX : K.In h) (G : h.Ns mainGlobals mg) (hf : mg ("law" : Str) = some (.ref f)) (c : He.SaysD fa fn K) (c2 : He5.SaysA [] fc K) (t : ft K = true) :
    ∃ fd : FuncData, (∀ (s : Shared) (u : Value), BindsTo s fd ⟨[u], []⟩ [("_law_script", u)]) ∧ ∀ base : Heap, K.In base → base.Ns mainGlobals mg → (∀ p ∈ tf.map (He.cT K), LamX.TabB base mg p.1 p.2) → FnG P w K mg base 9 f fd ["_law_script"] sp_law := by
  have T0 : ∀ base, (∀ p ∈ tf.map (He.cT K), LamX.TabB base mg p.1 p.2) → Tx P w K mg base := fun base b => ⟨c, c2, t, ⟨h, KX, G⟩, fun p hp => b _ (List.mem_map.mpr ⟨p, hp, rfl⟩)⟩
  obtain ⟨fd, D⟩ : ∃ fd, FunD K "law" "law" _ _ _ [] [] (He.ga K "law") fd := c.def_ 33 rfl
  have gl : mg "law" = some (.ref (He.ga K "law")) := He.glo_ok KX G (c.fact 32 rfl)
  cases hf.symm.trans gl
  have b := FunD.bindsA (ps := ["_law_script"]) D fun _ _ _ _ _ _ us hl => match us, hl with | [_], _ => rfl
  refine ⟨fd, fun s u => b s [u] rfl, fun base _ _ tb => ?_⟩
  exact (fn_law (T0 base tb)).atD D
end LW
open PySem PySem.W PySem.Calls PyProof.Rows
set_option maxRecDepth 100000 in
set_option maxHeartbeats 0 in
theorem PySem.Challenge.cw_fliponce_k03_texts_of_panels_holds : PySem.Challenge.rw_fliponce_k03_texts_of_panels.Holds := by
  w_on; o_law
  refine HandSHeadRun.head_any (r := LW.Rw) (q := view LW.Rw.prog [48]) (H := LW.hk) (ob := LW.ob) (M := 20000) (loose := LW.names) (d := HandSHeadRun.topDef LW.Rw.prog 48) (kwd := []) LW.ob_eq
    (by kernel_rfl) (fun s => by kernel_rfl) LW.run (by kernel_rfl) (by kernel_rfl) (by kernel_rfl) (by rfl) (by first | assumption | decide +kernel) (by decide +kernel) ⟨rfl, rfl, rfl, rfl, rfl, by decide +kernel⟩ ?hw ?hc
  case hw => w_witness2
  case hc =>
    refine FD.end_walk (l := PySem.Challenge.rw_fliponce_k03_texts_of_panels) (n := 63) (k := 9) (x := "_law_script") rfl (by decide) (by kernel_rfl) ⟨rfl, by decide, by decide⟩ ?F
    intro w mg f h Y G named
    obtain ⟨K, KX, c, c2⟩ := Y
    have e : (HandSHeadRun.topDef LW.Rw.prog 48).name = ("law" : PySem.Str) := by kernel_rfl
    rw [e] at named
    obtain ⟨fd, hb, hF⟩ := LW.law_ends (P := (PySem.Challenge.rw_fliponce_k03_texts_of_panels).prog) (w := w) KX G named c.t.d c2 c.more
    exact ⟨K, fd, _, KX, hb, fun ns _ => ⟨ns, rfl, fun _ => rfl⟩, fun base k1 k2 => hF base k1 k2 fun p hp => by cases hp⟩


