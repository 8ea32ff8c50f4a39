import PyProof.Rows.All
import Wide.All
import OpenK.AllK
import Wide.FinOn
import HandS.ForMost
import HandS.Exc
import HandS.Lambda
import HandS.HeadHook1
import HandS.IsInst
import HandS.DictComp
import HandS.Zip
import HandS.Wide
import HandS.TupAny
import HandS.TupLe
import HandS.ForExc
import HandS.ExcCtx
import HandS.HeadHook2
import HandS.Defaults
import HandS.More
import KE.KDictPairs
import KE.SortData
import KE.OsSortAny
import HandS.HeadNt
import HandS.Head0
import HandS.Head1
import HandS.Head2
import HandS.HeadEnd
import HandS.HeadHook3
import HandS.HeadHook4
import HandS.HeadWalk
import HandS.HotCalls
import HandS.TryMany
import HandS.ExcIs
import HandS.RaiseMore
import HandS.Strs
import HandS.SetFor
import HandS.Text
import KE.KeyNested
import KE.DataCmp
import HandS.Style
import KE.GoesMore
import KE.DataMinMax
import HandS.SortKw
import HandS.TupMul
import KE.KDictZip
import KE.KDictItemsList
import HandS.Conv
import HandS.ExcValue
import HandS.FStr
import KE.SortKeyHeap
import HandS.Deep
import KE.DataMinKey
import HandS.ExcInit
import HandS.ExcField
import HandS.ClsMeth
import KE.KExcIs
import KE.KStateDown
import PySem.Challenge.RW_castinghall_k27_refusals_apart
set_option Elab.async false
set_option linter.all false
set_option maxRecDepth 100000
set_option maxHeartbeats 0
namespace Mi
open PySem L2
abbrev Fg := PySem.W.Frag
def C1 : List Str := ["BadWord", "BadStuff", "BadWish", "BadLoad"]
def C2 : List Str := ["BadNumber", "BadLots", "BadCharge"]
def C3 : List Str := ["BadPaper"]
def C4 : List Str := ["BadMoulds", "Taken", "NoName", "TooMuch"]
def C5 : List Str := ["Nothing", "Full", "BadText"]
def CL : List Str := C1 ++ C2 ++ C3 ++ C4 ++ C5
def decO (a b : Option (Option Value)) : Bool := decide (a = b)
def excB (K : Fg) (x : Str) : Bool :=
  decO (PySem.W.findIn K (.ref (He.ga K x)) "__getattribute__") (some (some (.builtin "BaseException.__getattribute__"))) && (decO (PySem.W.findIn K (.ref (He.ga K x)) "__getattr__") (some none) && (decide (PySem.W.subIn K (.ref (He.ga K x)) (.type "BaseException") = some true) && (PySem.W.hasDictIn K (He.ga K x) &&
  (decO (PySem.W.findIn K (.ref (He.ga K x)) "__class__") (some (some (.builtin "object.__class__"))) && (decO (PySem.W.specialIn K (.builtin "object.__class__") "__get__") (some (some (.builtin "getset_descriptor.__get__"))) && (decide (PySem.W.takesIn K (.builtin "object.__class__") = some true) && (decide (PySem.W.mroIn K (He.ga K x) (.type "object") = some true) &&
  ((CL.all fun y => decide (PySem.W.kitOne K (.ref (He.ga K x)) (.ref (He.ga K y)) = some (decide (x = y)))) && (decide (PySem.W.kitOne K (.ref (He.ga K x)) (.type "ValueError") = some true) && (decide (PySem.W.exmOne K (.ref (He.ga K x)) (.ref (He.ga K "TooMuch")) = some false) && (decide (PySem.W.exmOne K (.ref (He.ga K x)) (.ref (He.ga K "CastError")) = some true) && (decide (x ∈ CL) && (He.Fa.exc x).ok K))))))))))))
def gloB (K : Fg) (x : Str) : Bool := (He.Fa.glo x).ok K
def toldB (ns : List Str) (K : Fg) : Bool := ns.all (excB K) && (CL.all (gloB K) && gloB K "CastError")
def nsX : List Str := ["BadWord", "BadStuff", "BadWish", "BadLoad", "BadNumber", "BadLots", "BadCharge", "BadPaper", "BadMoulds", "Taken", "NoName", "Nothing", "Full", "BadText"]
def oexB (K : Fg) (C : Addr) : Bool := match K.lookup C with
  | some ⟨.type "type", _, .cls cd, sl⟩ => (match cd.mro, sl.toList with
    | .ref C' :: bm, [_, _, _, _, some (.builtin n), _] => C' == C && n == "ValueError.__new__" && !cd.hasDel && cd.hasDict && PySem.HandSPX.refsVE bm
    | _, _ => false)
  | _ => false
abbrev tmA (K : Fg) : Addr := He.ga K "TooMuch"
abbrev ceA (K : Fg) : Addr := He.ga K "CastError"
abbrev tmI (K : Fg) : Addr := He.fAd K ("TooMuch", some "__init__")
def tm1B (K : Fg) : Bool :=
  decO (PySem.W.findIn K (.ref (tmA K)) "__getattribute__") (some (some (.builtin "BaseException.__getattribute__"))) && (decO (PySem.W.findIn K (.ref (tmA K)) "__getattr__") (some none) && (decide (PySem.W.subIn K (.ref (tmA K)) (.type "BaseException") = some true) && (PySem.W.hasDictIn K (tmA K) &&
  (decO (PySem.W.findIn K (.ref (tmA K)) "__class__") (some (some (.builtin "object.__class__"))) && (decO (PySem.W.specialIn K (.builtin "object.__class__") "__get__") (some (some (.builtin "getset_descriptor.__get__"))) && (decide (PySem.W.takesIn K (.builtin "object.__class__") = some true) && decide (PySem.W.mroIn K (tmA K) (.type "object") = some true)))))))
def tm2B (K : Fg) : Bool :=
  (CL.all fun y => decide (PySem.W.kitOne K (.ref (tmA K)) (.ref (He.ga K y)) = some (decide (("TooMuch" : Str) = y)))) && (decide (PySem.W.kitOne K (.ref (tmA K)) (.type "ValueError") = some true) && (decide (PySem.W.exmOne K (.ref (tmA K)) (.ref (tmA K)) = some true) &&
  (oexB K (tmA K) && (decO (PySem.W.findIn K (.ref (tmA K)) "__setattr__") (some (some (.builtin "object.__setattr__"))) && (decide (PySem.W.typeIn K (.ref (tmA K)) = some (.type "type")) && PySem.W.keepIn K (.ref (tmA K)))))))
def tm3B (K : Fg) : Bool :=
  decO (PySem.W.findIn K (.ref (tmA K)) "__init__") (some (some (.ref (tmI K)))) && (decide (PySem.W.typeIn K (.ref (tmI K)) = some (.type "function")) && (decO (PySem.W.findIn K (.ref (tmA K)) "lacks") (some none) &&
  (PySem.W.readsIn K (ceA K) (.type "type") && (decO (PySem.W.specialIn K (.ref (ceA K)) "__getattribute__") (some (some (.builtin "type.__getattribute__"))) && (match PySem.W.findCls K (.ref (ceA K)) (.type "type") "__init__" with | some (.val (.builtin n)) => n == "ValueError.__init__" | _ => false)))))
def tmB (K : Fg) : Bool := tm1B K && (tm2B K && tm3B K)
def metB (K : Fg) : Bool := decide (PySem.W.exmOne K (.ref (He.ga K "TooMuch")) (.ref (He.ga K "CastError")) = some true)
def apartB (tf : List He.Defn) (K : Fg) : Bool := tf.all fun p => tf.all fun p' => decide ((He.cT K p).2 = (He.cT K p').2 → p = p')
def asE (g : Addr → Option Obj) (n : Nat) : List Addr := He.asD g n ++ [PySem.cStatics]
def frE (n : Nat) (g : Addr → Option Obj) : Fg := He.frT g (asE g n)
def obsE (n : Nat) (fa : List He.Fa) (fn : List He.DefD) (ts : List He.Tab) (tf : List He.Defn) (ex : Fg → Bool) (g : Addr → Option Obj) : He.AlX := (He.obsT fa fn ts (frE n g), ex (frE n g) && He.tabsB g tf (frE n g))
theorem saysE_of {n : Nat} {fa : List He.Fa} {fn : List He.DefD} {ts : List He.Tab} {tf : List He.Defn} {ex : Fg → Bool} {w : World} {h : Heap} (e : obsE n fa fn ts tf ex h.get? = He.valX fn ts w) : He.SaysX fa fn ts tf ex w h (frE n h.get?) := by
  obtain ⟨e1, e2⟩ := Prod.mk.inj (show (He.obsT fa fn ts (frE n h.get?), ex (frE n h.get?) && He.tabsB h.get? tf (frE n h.get?)) = (He.valT fn ts w, true) from e)
  obtain ⟨x1, x2⟩ := Bool.and_eq_true_iff.mp e2
  have tab : ∀ p ∈ tf, PySem.W.codeHdIn (frE n h.get?) (He.cT (frE n h.get?) p).1 (He.cT (frE n h.get?) p).2 = true ∧ ∃ o, h.get? (He.cT (frE n h.get?) p).2 = some o ∧ He.emptyTab o = true := fun p hp => by
    obtain ⟨y1, y2⟩ := Bool.and_eq_true_iff.mp (List.all_eq_true.mp x2 p hp)
    cases q : h.get? (He.cT (frE n h.get?) p).2 with
    | none => rw [q] at y2; cases y2
    | some o => rw [q] at y2; exact ⟨y1, o, rfl, y2⟩
  refine ⟨e1, x1, fun p hp => (tab p hp).1, fun p hp => ?_, fun p hp => ?_⟩
  · obtain ⟨_, o, q, z⟩ := tab p hp; exact He.frT_none q z
  · obtain ⟨_, o, q, z⟩ := tab p hp; rw [q, He.emptyTab_eq z]
def hookE (n : Nat) (fa : List He.Fa) (fn : List He.DefD) (ts : List He.Tab) (tf : List He.Defn) (ex : Fg → Bool) : PySem.W.Hook where
  α := He.AlX
  obs := fun s => obsE n fa fn ts tf ex s.heap.get?
  val := fun w => He.valX fn ts w
  says := fun w h => ∃ K : Fg, K.In h ∧ He.SaysX fa fn ts tf ex w h K
  of := fun _ _ e => ⟨_, He.frT_in, saysE_of e⟩
  keeps := fun _ _ _ ⟨K, hK, c⟩ k => ⟨K, PySem.W.Frag.In.keeps hK k, ⟨c.t, c.more, c.hd, c.out, fun p hp => k _ _ (c.empty p hp)⟩⟩
theorem obsE_eq {n : Nat} {fa : List He.Fa} {fn : List He.DefD} {ts : List He.Tab} {tf : List He.Defn} {ex : Fg → Bool} {g : Addr → Option Obj} {s : Shared} (h : ∀ a, g a = s.heap.get? a) : obsE n fa fn ts tf ex g = (hookE n fa fn ts tf ex).obs s := by
  have e : g = s.heap.get? := funext h
  subst e
  rfl
def clsBody : Stmt → List Stmt
  | .ClassDef _ _ _ b _ _ _ _ _ _ _ => b
  | _ => []
def inn (st : Stmt) (j : Nat) : Stmt := (clsBody st).getD j (.Pass ⟨0, 0, 0, 0⟩)
def top (i : Nat) : Stmt := PySem.Challenge.pw_castinghall_k27_refusals_apart.main.body.getD i (.Pass ⟨0, 0, 0, 0⟩)
end Mi
namespace Mi
open PySem PySem.Spec PyProof.Rows L2
def e__law_cell : He.DefD := ⟨("_law_cell", none), "_law_cell", "_law_cell", defArgs (top 85), defBody (top 85), defScope (top 85), [], []⟩
def e__law_rounds : He.DefD := ⟨("_law_rounds", none), "_law_rounds", "_law_rounds", defArgs (top 88), defBody (top 88), defScope (top 88), [], []⟩
def e_is_word : He.DefD := ⟨("is_word", none), "is_word", "is_word", defArgs (top 22), defBody (top 22), defScope (top 22), [], []⟩
def e_need_word : He.DefD := ⟨("need_word", none), "need_word", "need_word", defArgs (top 32), defBody (top 32), defScope (top 32), [], []⟩
def e_Foundry_need_new : He.DefD := ⟨("Foundry", some "need_new"), "need_new", "Foundry.need_new", defArgs (inn (top 56) 2), defBody (inn (top 56) 2), defScope (inn (top 56) 2), [], []⟩
def e_rise : He.DefD := ⟨("rise", none), "rise", "rise", defArgs (top 24), defBody (top 24), defScope (top 24), [], []⟩
def e_is_tuple : He.DefD := ⟨("is_tuple", none), "is_tuple", "is_tuple", defArgs (top 23), defBody (top 23), defScope (top 23), [], []⟩
def e_is_whole : He.DefD := ⟨("is_whole", none), "is_whole", "is_whole", defArgs (top 21), defBody (top 21), defScope (top 21), [], []⟩
def e_is_stuff : He.DefD := ⟨("is_stuff", none), "is_stuff", "is_stuff", defArgs (top 25), defBody (top 25), defScope (top 25), [], []⟩
def e_need_stuff : He.DefD := ⟨("need_stuff", none), "need_stuff", "need_stuff", defArgs (top 29), defBody (top 29), defScope (top 29), [], []⟩
def e_Lot___init__ : He.DefD := ⟨("Lot", some "__init__"), "__init__", "Lot.__init__", defArgs (inn (top 52) 0), defBody (inn (top 52) 0), defScope (inn (top 52) 0), [], []⟩
def e_Lot_copy : He.DefD := ⟨("Lot", some "copy"), "copy", "Lot.copy", defArgs (inn (top 52) 1), defBody (inn (top 52) 1), defScope (inn (top 52) 1), [], []⟩
def e_Casting___init__ : He.DefD := ⟨("Casting", some "__init__"), "__init__", "Casting.__init__", defArgs (inn (top 53) 0), defBody (inn (top 53) 0), defScope (inn (top 53) 0), [], []⟩
def e_Foundry_remember : He.DefD := ⟨("Foundry", some "remember"), "remember", "Foundry.remember", defArgs (inn (top 56) 1), defBody (inn (top 56) 1), defScope (inn (top 56) 1), [], []⟩
def e_Foundry_buy : He.DefD := ⟨("Foundry", some "buy"), "buy", "Foundry.buy", defArgs (inn (top 56) 3), defBody (inn (top 56) 3), defScope (inn (top 56) 3), [], []⟩
def e_Foundry___init__ : He.DefD := ⟨("Foundry", some "__init__"), "__init__", "Foundry.__init__", defArgs (inn (top 56) 0), defBody (inn (top 56) 0), defScope (inn (top 56) 0), [], []⟩
def e__law_met : He.DefD := ⟨("_law_met", none), "_law_met", "_law_met", defArgs (top 89), defBody (top 89), defScope (top 89), [], []⟩
def e__law_drawn : He.DefD := ⟨("_law_drawn", none), "_law_drawn", "_law_drawn", defArgs (top 86), defBody (top 86), defScope (top 86), [], []⟩
def e__law_roll : He.DefD := ⟨("_law_roll", none), "_law_roll", "_law_roll", defArgs (top 87), defBody (top 87), defScope (top 87), [], []⟩
def e_need_left : He.DefD := ⟨("need_left", none), "need_left", "need_left", defArgs (top 54), defBody (top 54), defScope (top 54), [], []⟩
def e_Foundry_need_lots : He.DefD := ⟨("Foundry", some "need_lots"), "need_lots", "Foundry.need_lots", defArgs (inn (top 56) 4), defBody (inn (top 56) 4), defScope (inn (top 56) 4), [], []⟩
def e_is_charge : He.DefD := ⟨("is_charge", none), "is_charge", "is_charge", defArgs (top 44), defBody (top 44), defScope (top 44), [], []⟩
def e_Foundry_melt : He.DefD := ⟨("Foundry", some "melt"), "melt", "Foundry.melt", defArgs (inn (top 56) 5), defBody (inn (top 56) 5), defScope (inn (top 56) 5), [], []⟩
def e_stuff_text : He.DefD := ⟨("stuff_text", none), "stuff_text", "stuff_text", defArgs (top 81), defBody (top 81), defScope (top 81), [], []⟩
def e_is_wish : He.DefD := ⟨("is_wish", none), "is_wish", "is_wish", defArgs (top 26), defBody (top 26), defScope (top 26), [], []⟩
def e_need_wish : He.DefD := ⟨("need_wish", none), "need_wish", "need_wish", defArgs (top 30), defBody (top 30), defScope (top 30), [], []⟩
def e_meets : He.DefD := ⟨("meets", none), "meets", "meets", defArgs (top 38), defBody (top 38), defScope (top 38), [], []⟩
def e_is_weighed : He.DefD := ⟨("is_weighed", none), "is_weighed", "is_weighed", defArgs (top 27), defBody (top 27), defScope (top 27), [], []⟩
def e_is_load : He.DefD := ⟨("is_load", none), "is_load", "is_load", defArgs (top 28), defBody (top 28), defScope (top 28), [], []⟩
def e_need_load : He.DefD := ⟨("need_load", none), "need_load", "need_load", defArgs (top 31), defBody (top 31), defScope (top 31), [], []⟩
def e_weight_of : He.DefD := ⟨("weight_of", none), "weight_of", "weight_of", defArgs (top 36), defBody (top 36), defScope (top 36), [], []⟩
def e_is_lot : He.DefD := ⟨("is_lot", none), "is_lot", "is_lot", defArgs (top 41), defBody (top 41), defScope (top 41), [], []⟩
def e_is_lots : He.DefD := ⟨("is_lots", none), "is_lots", "is_lots", defArgs (top 42), defBody (top 42), defScope (top 42), [], []⟩
def e_need_lots : He.DefD := ⟨("need_lots", none), "need_lots", "need_lots", defArgs (top 43), defBody (top 43), defScope (top 43), [], []⟩
def e_need_weight : He.DefD := ⟨("need_weight", none), "need_weight", "need_weight", defArgs (top 46), defBody (top 46), defScope (top 46), [], []⟩
def e_cheapest : He.DefD := ⟨("cheapest", none), "cheapest", "cheapest", defArgs (top 50), defBody (top 50), defScope (top 50), [], []⟩
def e_need_charge : He.DefD := ⟨("need_charge", none), "need_charge", "need_charge", defArgs (top 45), defBody (top 45), defScope (top 45), [], []⟩
def e_price_of : He.DefD := ⟨("price_of", none), "price_of", "price_of", defArgs (top 48), defBody (top 48), defScope (top 48), [], []⟩
def e_is_int : He.DefD := ⟨("is_int", none), "is_int", "is_int", defArgs (top 58), defBody (top 58), defScope (top 58), [], []⟩
def e_need_paper : He.DefD := ⟨("need_paper", none), "need_paper", "need_paper", defArgs (top 59), defBody (top 59), defScope (top 59), [], []⟩
def e_bound : He.DefD := ⟨("bound", none), "bound", "bound", defArgs (top 62), defBody (top 62), defScope (top 62), [], []⟩
def e_are_unlike : He.DefD := ⟨("are_unlike", none), "are_unlike", "are_unlike", defArgs (top 64), defBody (top 64), defScope (top 64), [], []⟩
def e_is_form : He.DefD := ⟨("is_form", none), "is_form", "is_form", defArgs (top 72), defBody (top 72), defScope (top 72), [], []⟩
def e_need_forms : He.DefD := ⟨("need_forms", none), "need_forms", "need_forms", defArgs (top 73), defBody (top 73), defScope (top 73), [], []⟩
def e_apart : He.DefD := ⟨("apart", none), "apart", "apart", defArgs (top 77), defBody (top 77), defScope (top 77), [], []⟩
def e_Foundry_pour : He.DefD := ⟨("Foundry", some "pour"), "pour", "Foundry.pour", defArgs (inn (top 56) 6), defBody (inn (top 56) 6), defScope (inn (top 56) 6), [], []⟩
def e_Foundry_undo : He.DefD := ⟨("Foundry", some "undo"), "undo", "Foundry.undo", defArgs (inn (top 56) 13), defBody (inn (top 56) 13), defScope (inn (top 56) 13), [], []⟩
def e_need_castings : He.DefD := ⟨("need_castings", none), "need_castings", "need_castings", defArgs (top 67), defBody (top 67), defScope (top 67), [], []⟩
def e_best_end : He.DefD := ⟨("best_end", none), "best_end", "best_end", defArgs (top 70), defBody (top 70), defScope (top 70), [], []⟩
def e_words_in : He.DefD := ⟨("words_in", none), "words_in", "words_in", defArgs (top 82), defBody (top 82), defScope (top 82), [], []⟩
def e_number_in : He.DefD := ⟨("number_in", none), "number_in", "number_in", defArgs (top 80), defBody (top 80), defScope (top 80), [], []⟩
def e_read_wish : He.DefD := ⟨("read_wish", none), "read_wish", "read_wish", defArgs (top 83), defBody (top 83), defScope (top 83), [], []⟩
def e__law_alone : He.DefD := ⟨("_law_alone", none), "_law_alone", "_law_alone", defArgs (top 90), defBody (top 90), defScope (top 90), [], []⟩
def e_law : He.DefD := ⟨("law", none), "law", "law", defArgs (top 91), defBody (top 91), defScope (top 91), [], []⟩
def e_TooMuch___init__ : He.DefD := ⟨("TooMuch", some "__init__"), "__init__", "TooMuch.__init__", defArgs (inn (top 3) 0), defBody (inn (top 3) 0), defScope (inn (top 3) 0), [], []⟩
def fn : List He.DefD := [e__law_cell, e__law_rounds, e_is_word, e_need_word, e_Foundry_need_new, e_rise, e_is_tuple, e_is_whole, e_is_stuff, e_need_stuff, e_Lot___init__, e_Lot_copy, e_Casting___init__, e_Foundry_remember, e_Foundry_buy, e_Foundry___init__, e__law_met, e__law_drawn, e__law_roll, e_need_left, e_Foundry_need_lots, e_is_charge, e_Foundry_melt, e_stuff_text, e_is_wish, e_need_wish, e_meets, e_is_weighed, e_is_load, e_need_load, e_weight_of, e_is_lot, e_is_lots, e_need_lots, e_need_weight, e_cheapest, e_need_charge, e_price_of, e_is_int, e_need_paper, e_bound, e_are_unlike, e_is_form, e_need_forms, e_apart, e_Foundry_pour, e_Foundry_undo, e_need_castings, e_best_end, e_words_in, e_number_in, e_read_wish, e__law_alone, e_law, e_TooMuch___init__]
def fa0 : List He.Fa := [.glo "_law_cell", .glo "_law_rounds", .glo "is_word", .glo "need_word", .glo "rise", .glo "is_tuple", .glo "is_whole", .glo "is_stuff", .glo "need_stuff", .glo "_law_met", .glo "_law_drawn", .glo "_law_roll", .glo "need_left", .glo "is_charge", .glo "stuff_text", .glo "is_wish", .glo "need_wish", .glo "meets", .glo "is_weighed", .glo "is_load", .glo "need_load", .glo "weight_of", .glo "is_lot", .glo "is_lots", .glo "need_lots", .glo "need_weight", .glo "cheapest", .glo "need_charge", .glo "price_of", .glo "is_int"]
def fa1 : List He.Fa := [.glo "need_paper", .glo "bound", .glo "are_unlike", .glo "is_form", .glo "need_forms", .glo "apart", .glo "need_castings", .glo "best_end", .glo "words_in", .glo "number_in", .glo "read_wish", .glo "_law_alone", .glo "law", .cls "Foundry", .glo "Foundry", .cls "Lot", .glo "Lot", .cls "Casting", .glo "Casting", .meth "Foundry" "need_new", .mkr "Lot", .meth "Lot" "copy", .mkr "Casting", .meth "Foundry" "remember", .meth "Foundry" "buy", .mkr "Foundry", .meth "Foundry" "need_lots", .meth "Foundry" "melt", .meth "Foundry" "pour", .meth "Foundry" "undo"]
def fa2 : List He.Fa := [.noat "Foundry" "named", .noat "Lot" "weight", .noat "Lot" "left", .noat "Lot" "stuff", .noat "Lot" "price", .noat "Lot" "origin", .noat "Lot" "ways", .noat "Casting" "pot", .noat "Casting" "weight", .noat "Casting" "standing", .noat "Foundry" "deeds", .noat "Foundry" "store", .noat "Foundry" "pots", .noat "Foundry" "cast", .noat "Foundry" "past", .free "len", .free "range", .free "max", .free "min", .free "isinstance", .free "str", .free "all", .free "zip", .free "tuple", .free "int", .free "bool", .free "sum", .free "dict", .free "list", .free "set"]
def fa3 : List He.Fa := [.free "ValueError", .free "enumerate", .str "SMALL" "abcdefghijklmnopqrstuvwxyz", .int "HEAVIEST" 9999, .int "MOST_WEIGHT" 60, .str "FIGURES" "0123456789"]
def fa : List He.Fa := fa0 ++ fa1 ++ fa2 ++ fa3
def loose0 : List Str := ["_wall", "CastError", "TooMuch", "BadWord", "BadStuff", "BadWish", "BadLoad", "BadNumber", "BadLots", "BadCharge", "BadPaper", "BadMoulds", "Taken", "NoName", "Nothing", "Full", "BadText", "SMALL", "HEAVIEST", "is_whole", "is_word", "is_tuple", "rise", "is_stuff", "is_wish", "is_weighed", "is_load", "need_stuff", "need_wish", "need_load"]
def loose1 : List Str := ["need_word", "lowest", "plus", "heavy", "weight_of", "both_of", "meets", "MOST_WEIGHT", "is_lot", "is_lots", "need_lots", "is_charge", "need_charge", "need_weight", "priced", "price_of", "Mixer", "cheapest", "Lot", "Casting", "need_left", "mixed", "Foundry", "is_int", "need_paper", "gain_of", "bound_of", "bound", "are_unlike", "subsets"]
def loose2 : List Str := ["need_castings", "Packer", "least_end", "best_end", "is_form", "need_forms", "do_meet", "parted", "most_apart", "apart", "FIGURES", "number_in", "stuff_text", "words_in", "read_wish", "_law_cell", "_law_drawn", "_law_roll", "_law_rounds", "_law_met", "_law_alone"]
def loose : List Str := loose0 ++ loose1 ++ loose2
abbrev R : PySem.W.OpenRow := PySem.W.OpenLaw.row PySem.Challenge.rw_castinghall_k27_refusals_apart
def tf : List He.Defn := [("law", none)]
def ex (K : Fg) : Bool := (tmB K && metB K) && (toldB nsX K && (apartB tf K))
abbrev hk : PySem.W.Hook := hookE 4 fa fn [] tf ex
def ob (s : PySem.W.SharedT) : He.AlX := obsE 4 fa fn [] tf ex (HandSHeadRun.getT s)
theorem ob_eq (s : PySem.W.SharedT) : ob s = hk.obs s.abs := obsE_eq (HandSHeadRun.getT_eq s)
theorem run (w : World) : HandSHeadRun.RunEq R (PySem.W.view R.prog [91]) hk ob 20000 loose w := by
  intro os
  kernel_rfl
end Mi
set_option Elab.async false
set_option linter.all false
set_option maxRecDepth 100000
set_option maxHeartbeats 4000000
namespace Mi
open PySem L2
structure Exn where
  cls : Str
  lacks : Option Int := none
deriving DecidableEq
/-- data, with places of the store, refusals, functions -/
inductive D where
  | none
  | bool (b : Bool)
  | int (i : Int)
  | str (s : Str)
  | list (xs : List D)
  | tuple (xs : List D)
  | dict (kvs : List (D × D))
  | loc (n : Nat)
  | exc (e : Exn)
  | fn (f : Addr)
mutual
def D.py : D → PyData
  | .none => .none
  | .bool b => .bool b
  | .int i => .int i
  | .str s => .str s
  | .list xs => .list (pys xs)
  | .tuple xs => .tuple (pys xs)
  | .dict kvs => .dict (pykv kvs)
  | .loc _ => .none
  | .exc _ => .none
  | .fn _ => .none
def pys : List D → List PyData
  | [] => []
  | x :: xs => x.py :: pys xs
def pykv : List (D × D) → List (PyData × PyData)
  | [] => []
  | (k, v) :: kvs => (k.py, v.py) :: pykv kvs
end
def D.eqv (d e : D) : Bool := PyData.eqv d.py e.py
def D.eqvAll (xs ys : List D) : Bool := PyData.eqvAll (pys xs) (pys ys)
def D.canLay0 (d : D) : Bool := PyData.canLay0 d.py
def D.canLayAll0 (xs : List D) : Bool := PyData.canLayAll0 (pys xs)
def D.depth (d : D) : Nat := PyData.depth d.py
def D.depthAll (xs : List D) : Nat := PyData.depthAll (pys xs)
/-- a cell of the store -/
inductive Cell where
  | lst (xs : List D)
  | dic (kvs : List (D × D))
  | tdc (kvs : List (D × D))
  /-- a dict that is walked now: read, not changed -/
  | dlk (kvs : List (D × D))
  | obj (C : Str) (fs : List (Str × D))
  | gone
abbrev Sto := List Cell
abbrev St := L2.St
/-- the tables, and how a dict with tuples as keys stands -/
structure Tb where
  tabs : List (Addr × Str)
  td : Addr → List (V × V) → List (D × D) → HO → Prop
instance : Coe Tb (List (Addr × Str)) := ⟨Tb.tabs⟩
structure Wd where
  hp : Hp
  m : List Addr
instance : CoeFun Wd (fun _ => Addr → Option HO) := ⟨Wd.hp⟩
instance : Coe Wd Hp := ⟨Wd.hp⟩
abbrev wupd (G : Wd) (p : Addr) (o : HO) : Wd := ⟨upd G.hp p o, G.m⟩
structure Le (G G' : Wd) : Prop where
  h : ∀ a o, G a = some o → G' a = some o
  m : G.m <+: G'.m
def Lh (G : Wd) (H : Hp) : Prop := ∀ a o, G a = some o → H a = some o
theorem Le.refl (G : Wd) : Le G G := ⟨fun _ _ h => h, List.prefix_refl _⟩
theorem Le.trans {G G1 G2 : Wd} (a : Le G G1) (b : Le G1 G2) : Le G G2 := ⟨fun x o h => b.h x o (a.h x o h), a.m.trans b.m⟩
theorem Le.lh {G G1 : Wd} {H : Hp} (a : Le G G1) (b : Lh G1 H) : Lh G H := fun x o h => b x o (a.h x o h)
theorem Le.upd {G : Wd} {p : Addr} {o : HO} (h : G p = none) : Le G (wupd G p o) := ⟨fun a u e => by
  show L2.upd G.hp p o a = some u
  rw [upd_ne (ne_of_none e h)]; exact e, List.prefix_refl _⟩
theorem Le.loc {G G' : Wd} (l : Le G G') {n : Nat} {a : Addr} (h : G.m[n]? = some a) : G'.m[n]? = some a := by
  obtain ⟨t, e⟩ := l.m
  rw [← e, List.getElem?_append_left (List.getElem?_eq_some_iff.mp h).1]; exact h
structure Sub (G H : Hp) : Prop where
  rd : ∀ a u, (∀ o w, u ≠ .frz o w) → Rd G a u → Rd H a u
  fz : ∀ a o xs, G a = some (.frz o (.tup xs)) → H a = some (.frz o (.tup xs))
  fd : ∀ a o xs, G a = some (.frz o (.dK xs)) → H a = some (.frz o (.dK xs))
  ex : ∀ a φ, G a = some (.ext φ) → H a = some (.ext φ)
  xd : ∀ a fs, G a = some (.xd fs) → H a = some (.xd fs)
/-- a dict that is locked for good -/
def DicAt (G : Hp) (a : Addr) (kvs : List (Key × V)) : Prop := ∃ o, G a = some (.frz o (.dK kvs))
theorem DicAt.rd {G : Hp} {a : Addr} {kvs : List (Key × V)} (h : DicAt G a kvs) : Rd G a (.dK kvs) := .inr h
theorem DicAt.sub {G H : Hp} {a : Addr} {kvs : List (Key × V)} (h : DicAt G a kvs) (s : Sub G H) : DicAt H a kvs := h.imp fun o e => s.fd _ _ _ e
/-- a tuple whose object has no dict of its own -/
def TupAt (K : Fg) (G : Hp) (a : Addr) (xs : List V) : Prop := (∃ o, G a = some (.frz o (.tup xs)) ∧ o.dict = none) ∨
  ∃ (o : Obj) (its : Array Value) (n : Nat), K.lookup a = some o ∧ o.cls = .type "tuple" ∧ o.dict = none ∧ o.data = .seq its n ∧ its.size ≤ sizeLine ∧ Vals xs its.toList
theorem TupAt.sq {K : Fg} {G : Hp} {a : Addr} {xs : List V} (h : TupAt K G a xs) : SqT K G a xs := by
  rcases h with ⟨o, h, _⟩ | ⟨o, its, n, h1, h2, _, h3⟩
  · exact .inl (.inr ⟨o, h⟩)
  · exact .inr ⟨o, its, n, h1, h2, h3⟩
theorem TupAt.sub {K : Fg} {G H : Hp} {a : Addr} {xs : List V} (h : TupAt K G a xs) (s : Sub G H) : TupAt K H a xs := by
  rcases h with ⟨o, h, d⟩ | h
  · exact .inl ⟨o, s.fz _ _ _ h, d⟩
  · exact .inr h
theorem sub_of {G H : Hp} (h : ∀ a o, G a = some o → H a = some o) : Sub G H := ⟨fun a o _ r => by
  rcases r with r | ⟨ob, r⟩
  · exact .inl (h _ _ r)
  · exact .inr ⟨ob, h _ _ r⟩, fun a o xs e => h _ _ e, fun a o xs e => h _ _ e, fun a φ e => h _ _ e, fun a fs e => h _ _ e⟩
theorem Le.sub {G G' : Wd} (h : Le G G') : Sub G G' := sub_of h.h
theorem Lh.sub {G : Wd} {H : Hp} (h : Lh G H) : Sub G H := sub_of h
theorem sqL_sub {K : Fg} {G H : Hp} {a : Addr} {xs : List V} (h : SqL K G a xs) (s : Sub G H) : SqL K H a xs := by
  rcases h with h | h
  · exact .inl (s.rd _ _ (fun _ _ z => by cases z) h)
  · exact .inr h
theorem sqT_sub {K : Fg} {G H : Hp} {a : Addr} {xs : List V} (h : SqT K G a xs) (s : Sub G H) : SqT K H a xs := by
  rcases h with h | h
  · exact .inl (s.rd _ _ (fun _ _ z => by cases z) h)
  · exact .inr h
def keyD : Key → D
  | .inl i => .int i
  | .inr s => .str s
/-- a refusal's object: its class, its dict -/
def XcO (cls : Value) (d : Option Addr) (a : Addr) : HO := .ext fun h => ∃ (oe : Obj) (vs : Array Value), h.get? a = some oe ∧ oe.cls = cls ∧ oe.dict = d ∧ oe.data = .fields vs
def ExcAt (K : Fg) (G : Hp) (a : Addr) (e : Exn) : Prop := ∃ d : Option Addr, G a = some (XcO (.ref (He.ga K e.cls)) d a) ∧ match e.lacks with
  | none => d = none
  | some n => ∃ dd, d = some dd ∧ G dd = some (.xd [(("lacks" : Str), V.int n)])
theorem ExcAt.sub {K : Fg} {G H : Hp} {a : Addr} {e : Exn} (h : ExcAt K G a e) (s : Sub G H) : ExcAt K H a e := by
  obtain ⟨d, h1, h2⟩ := h
  refine ⟨d, s.ex _ _ h1, ?_⟩
  cases q : e.lacks with
  | none => simp only [q] at h2; exact h2
  | some n =>
    simp only [q] at h2
    obtain ⟨dd, e1, e2⟩ := h2
    exact ⟨dd, e1, s.xd _ _ e2⟩
mutual
inductive Dq (K : Fg) (G : Wd) : V → D → Prop
  | non : Dq K G .non .none
  | bl (b : Bool) : Dq K G (.bl b) (.bool b)
  | int (i : Int) : Dq K G (.int i) (.int i)
  | str (x : Str) : Dq K G (.str x) (.str x)
  | lst {a : Addr} {xs : List V} {ds : List D} : Rd G a (.lst xs) → DqAll K G xs ds → Dq K G (.ref a) (.list ds)
  | tup {a : Addr} {xs : List V} {ds : List D} : TupAt K G a xs → DqAll K G xs ds → Dq K G (.ref a) (.tuple ds)
  | dic {a : Addr} {kvs : List (Key × V)} {ds : List (D × D)} : DicAt G a kvs → DqKV K G kvs ds → Dq K G (.ref a) (.dict ds)
  | loc {a : Addr} {n : Nat} : G.m[n]? = some a → Dq K G (.ref a) (.loc n)
  | exc {a : Addr} {e : Exn} : ExcAt K G a e → Dq K G (.ref a) (.exc e)
  | fn {a : Addr} : Dq K G (.ref a) (.fn a)
inductive DqAll (K : Fg) (G : Wd) : List V → List D → Prop
  | nil : DqAll K G [] []
  | cons {v : V} {vs : List V} {d : D} {ds : List D} : Dq K G v d → DqAll K G vs ds → DqAll K G (v :: vs) (d :: ds)
inductive DqKV (K : Fg) (G : Wd) : List (Key × V) → List (D × D) → Prop
  | nil : DqKV K G [] []
  | cons {k : Key} {v : V} {kvs : List (Key × V)} {d : D} {ds : List (D × D)} : Dq K G v d → DqKV K G kvs ds → DqKV K G ((k, v) :: kvs) ((keyD k, d) :: ds)
end
mutual
theorem Dq.sub {K : Fg} {G G' : Wd} (s : Sub G G') (pm : ∀ (n : Nat) (a : Addr), G.m[n]? = some a → G'.m[n]? = some a) : ∀ {v : V} {d : D}, Dq K G v d → Dq K G' v d
  | _, _, .non => .non
  | _, _, .bl b => .bl b
  | _, _, .int i => .int i
  | _, _, .str x => .str x
  | _, _, .lst h t => .lst (s.rd _ _ (fun _ _ z => by cases z) h) (DqAll.sub s pm t)
  | _, _, .tup h t => .tup (h.sub s) (DqAll.sub s pm t)
  | _, _, .dic h t => .dic (h.sub s) (DqKV.sub s pm t)
  | _, _, .loc h => .loc (pm _ _ h)
  | _, _, .exc h => .exc (h.sub s)
  | _, _, .fn => .fn
theorem DqAll.sub {K : Fg} {G G' : Wd} (s : Sub G G') (pm : ∀ (n : Nat) (a : Addr), G.m[n]? = some a → G'.m[n]? = some a) : ∀ {vs : List V} {ds : List D}, DqAll K G vs ds → DqAll K G' vs ds
  | _, _, .nil => .nil
  | _, _, .cons h t => .cons (Dq.sub s pm h) (DqAll.sub s pm t)
theorem DqKV.sub {K : Fg} {G G' : Wd} (s : Sub G G') (pm : ∀ (n : Nat) (a : Addr), G.m[n]? = some a → G'.m[n]? = some a) : ∀ {kvs : List (Key × V)} {ds : List (D × D)}, DqKV K G kvs ds → DqKV K G' kvs ds
  | _, _, .nil => .nil
  | _, _, .cons h t => .cons (Dq.sub s pm h) (DqKV.sub s pm t)
end
theorem Dq.le {K : Fg} {G G' : Wd} {v : V} {d : D} (h : Dq K G v d) (l : Le G G') : Dq K G' v d := h.sub l.sub fun _ _ => l.loc
theorem DqAll.le {K : Fg} {G G' : Wd} {v : List V} {d : List D} (h : DqAll K G v d) (l : Le G G') : DqAll K G' v d := h.sub l.sub fun _ _ => l.loc
theorem DqKV.le {K : Fg} {G G' : Wd} {v : List (Key × V)} {d : List (D × D)} (h : DqKV K G v d) (l : Le G G') : DqKV K G' v d := h.sub l.sub fun _ _ => l.loc
theorem Dq.up {K : Fg} {G : Wd} {H : Hp} {v : V} {d : D} (h : Dq K G v d) (l : Lh G H) : Dq K ⟨H, G.m⟩ v d := Dq.sub (G' := ⟨H, G.m⟩) l.sub (fun _ _ z => z) h
theorem DqAll.up {K : Fg} {G : Wd} {H : Hp} {v : List V} {d : List D} (h : DqAll K G v d) (l : Lh G H) : DqAll K ⟨H, G.m⟩ v d := DqAll.sub (G' := ⟨H, G.m⟩) l.sub (fun _ _ z => z) h
theorem DqAll.length {K : Fg} {G : Wd} : ∀ {vs : List V} {ds : List D}, DqAll K G vs ds → vs.length = ds.length
  | _, _, .nil => rfl
  | _, _, .cons _ t => by simp [DqAll.length t]
theorem DqKV.length {K : Fg} {G : Wd} : ∀ {vs : List (Key × V)} {ds : List (D × D)}, DqKV K G vs ds → vs.length = ds.length
  | _, _, .nil => rfl
  | _, _, .cons _ t => by simp [DqKV.length t]
theorem DqAll.app {K : Fg} {G : Wd} : ∀ {vs ws : List V} {ds es : List D}, DqAll K G vs ds → DqAll K G ws es → DqAll K G (vs ++ ws) (ds ++ es)
  | _, _, _, _, .nil, h => h
  | _, _, _, _, .cons h t, h2 => .cons h (DqAll.app t h2)
theorem DqAll.one {K : Fg} {G : Wd} {v : V} {d : D} (h : Dq K G v d) : DqAll K G [v] [d] := .cons h .nil
theorem DqAll.get {K : Fg} {G : Wd} : ∀ {vs : List V} {ds : List D} {i : Nat} {v : V}, DqAll K G vs ds → vs[i]? = some v → ∃ d, ds[i]? = some d ∧ Dq K G v d
  | _, _, _, _, .nil, e => by simp at e
  | _, _, 0, _, .cons h _, e => by simp at e; subst e; exact ⟨_, rfl, h⟩
  | _, _, i + 1, v, .cons _ t, e => by
    obtain ⟨d, h1, h2⟩ := DqAll.get (i := i) (v := v) t (by simpa using e)
    exact ⟨d, by simpa using h1, h2⟩
theorem DqAll.getD {K : Fg} {G : Wd} : ∀ {vs : List V} {ds : List D} {i : Nat} {d : D}, DqAll K G vs ds → ds[i]? = some d → ∃ v, vs[i]? = some v ∧ Dq K G v d
  | _, _, _, _, .nil, e => by simp at e
  | _, _, 0, _, .cons h _, e => by simp at e; subst e; exact ⟨_, rfl, h⟩
  | _, _, i + 1, v, .cons _ t, e => by
    obtain ⟨d, h1, h2⟩ := DqAll.getD (i := i) (d := v) t (by simpa using e)
    exact ⟨d, by simpa using h1, h2⟩
theorem DqAll.take {K : Fg} {G : Wd} : ∀ {vs : List V} {ds : List D} (n : Nat), DqAll K G vs ds → DqAll K G (vs.take n) (ds.take n)
  | _, _, 0, _ => .nil
  | _, _, _ + 1, .nil => .nil
  | _, _, n + 1, .cons h t => .cons h (DqAll.take n t)
theorem DqAll.drop {K : Fg} {G : Wd} : ∀ {vs : List V} {ds : List D} (n : Nat), DqAll K G vs ds → DqAll K G (vs.drop n) (ds.drop n)
  | _, _, 0, h => h
  | _, _, _ + 1, .nil => .nil
  | _, _, n + 1, .cons _ t => DqAll.drop n t
theorem DqAll.set {K : Fg} {G : Wd} {v : V} {d : D} (r : Dq K G v d) : ∀ {vs : List V} {ds : List D} (i : Nat), DqAll K G vs ds → DqAll K G (vs.set i v) (ds.set i d)
  | _, _, _, .nil => .nil
  | _, _, 0, .cons _ t => .cons r t
  | _, _, i + 1, .cons q t => .cons q (DqAll.set r i t)
inductive Res (α : Type) where
  | ok (a : α)
  | exn (e : Exn)
  | stuck
def Res.bind {α β : Type} : Res α → (α → Res β) → Res β
  | .ok a, f => f a
  | .exn e, _ => .exn e
  | .stuck, _ => .stuck
instance : Monad Res where
  pure := Res.ok
  bind := Res.bind
inductive S where
  | d (x : D)
  | ol (xs : List D)
  | od (kvs : List (D × D))
  | dc (xs : List D)
  /-- the store, in the place behind the last name; may it be changed -/
  | sto (rw : Bool) (μ : Sto)
def S.own : S → Bool
  | .d _ => false
  | .sto _ _ => false
  | _ => true
def S.isSto : S → Bool
  | .sto _ _ => true
  | _ => false
abbrev MSt := List (Option S)
inductive Out (α : Type) where
  | ok (a : α) (ρ : MSt)
  | exn (e : Exn) (ρ : MSt)
  | stuck
abbrev MM (α : Type) := MSt → Out α
def MM.bind {α β : Type} (f : MM α) (g : α → MM β) : MM β := fun ρ => match f ρ with
  | .ok a ρ' => g a ρ'
  | .exn e ρ' => .exn e ρ'
  | .stuck => .stuck
def MM.pure {α : Type} (a : α) : MM α := fun ρ => .ok a ρ
def lift {α : Type} (r : Res α) : MM α := fun ρ => match r with
  | .ok a => .ok a ρ
  | .exn e => .exn e ρ
  | .stuck => .stuck
def stuck {α : Type} : MM α := fun _ => .stuck
instance : Monad MM where
  pure := MM.pure
  bind := MM.bind
def RS (K : Fg) (da : Addr) (G : Wd) (H : Hp) : S → V → Prop
  | .d x, v => Dq K G v x
  | .ol xs, v => ∃ a vs, v = .ref a ∧ G a = none ∧ H a = some (.lst vs) ∧ DqAll K G vs xs
  | .od kvs, v => ∃ a es, v = .ref a ∧ G a = none ∧ H a = some (.dK es) ∧ DqKV K G es kvs
  | .dc xs, v => v = .ref da ∧ ∃ a vs, v = .ref a ∧ G a = none ∧ H a = some (.lst vs) ∧ DqAll K G vs xs
  | .sto _ _, _ => False
/-- the fields of an object -/
inductive DqF (K : Fg) (G : Wd) : List (Str × V) → List (Str × D) → Prop
  | nil : DqF K G [] []
  | cons {x : Str} {v : V} {d : D} {vs : List (Str × V)} {ds : List (Str × D)} : Dq K G v d → DqF K G vs ds → DqF K G ((x, v) :: vs) ((x, d) :: ds)
theorem DqF.le {K : Fg} {G G' : Wd} (l : Le G G') : ∀ {vs : List (Str × V)} {ds : List (Str × D)}, DqF K G vs ds → DqF K G' vs ds
  | _, _, .nil => .nil
  | _, _, .cons h t => .cons (h.le l) (t.le l)
/-- a dict whose keys are tuples of data: its entries -/
inductive DqKT (K : Fg) (G : Wd) : List (V × V) → List (D × D) → Prop
  | nil : DqKT K G [] []
  | cons {u v : V} {k d : D} {vs : List (V × V)} {ds : List (D × D)} : Dq K G u k → Dq K G v d → DqKT K G vs ds → DqKT K G ((u, v) :: vs) ((k, d) :: ds)
theorem DqKT.le {K : Fg} {G G' : Wd} (l : Le G G') : ∀ {vs : List (V × V)} {ds : List (D × D)}, DqKT K G vs ds → DqKT K G' vs ds
  | _, _, .nil => .nil
  | _, _, .cons k h t => .cons (k.le l) (h.le l) (t.le l)
/-- what stands at a cell's address -/
inductive CellAt (K : Fg) (T : Tb) (G : Wd) (H : Hp) (a : Addr) : Cell → Prop
  | lst {vs : List V} {xs : List D} : H a = some (.lst vs) → DqAll K G vs xs → CellAt K T G H a (.lst xs)
  | dic {es : List (Key × V)} {kvs : List (D × D)} : H a = some (.dK es) → DqKV K G es kvs → CellAt K T G H a (.dic kvs)
  | tdc {es : List (V × V)} {kvs : List (D × D)} {o : HO} : T.td a es kvs o → (∀ x q, o ≠ LamX.CodeO x q) → (∀ ps, o ≠ .tbl ps) → (∀ x, o ≠ .own x) → H a = some o → DqKT K G es kvs → CellAt K T G H a (.tdc kvs)
  | dlk {ob : Obj} {es : List (Key × V)} {kvs : List (D × D)} : H a = some (.frz ob (.dK es)) → DqKV K G es kvs → CellAt K T G H a (.dlk kvs)
  | obj {C : Str} {dx : Addr} {vs : List (Str × V)} {fs : List (Str × D)} : H a = some (.ins (He.ga K C) dx vs) → H dx = some (.own a) → G dx = none → DqF K G vs fs → CellAt K T G H a (.obj C fs)
  | gone {o : HO} : H a = some o → (∀ ps, o ≠ .tbl ps) → (∀ x q, o ≠ LamX.CodeO x q) → (∀ x, o ≠ .own x) → CellAt K T G H a .gone
section
variable {K : Fg} {T : Tb} {G G' : Wd} {H H' : Hp} {σ : St} {ρ : MSt}
theorem CellAt.keep {a : Addr} {u : Cell} (h : CellAt K T G H a u) (l : Le G G') (n : ∀ b x, G b = none → H b = some (.own x) → G' b = none) (k : ∀ b o, H b = some o → (b = a ∨ ∃ x, o = .own x) → H' b = some o) : CellAt K T G' H' a u := by
  cases h with
  | lst h r => exact .lst (k _ _ h (.inl rfl)) (r.le l)
  | dic h r => exact .dic (k _ _ h (.inl rfl)) (r.le l)
  | dlk h r => exact .dlk (k _ _ h (.inl rfl)) (r.le l)
  | tdc t c1 c2 c3 h r => exact .tdc t c1 c2 c3 (k _ _ h (.inl rfl)) (r.le l)
  | obj h h2 g r => exact .obj (k _ _ h (.inl rfl)) (k _ _ h2 (.inr ⟨_, rfl⟩)) (n _ _ g h2) (r.le l)
  | gone h c1 c2 c3 => exact .gone (k _ _ h (.inl rfl)) c1 c2 c3
theorem CellAt.here {a : Addr} {u : Cell} (h : CellAt K T G H a u) : ∃ o, H a = some o ∧ (∀ ps, o ≠ .tbl ps) ∧ (∀ x q, o ≠ LamX.CodeO x q) ∧ (∀ x, o ≠ .own x) := by
  cases h with
  | lst h r => exact ⟨_, h, (fun _ z => by cases z), (fun _ _ z => by unfold LamX.CodeO at z; cases z), (fun _ z => by cases z)⟩
  | dic h r => exact ⟨_, h, (fun _ z => by cases z), (fun _ _ z => by unfold LamX.CodeO at z; cases z), (fun _ z => by cases z)⟩
  | dlk h r => exact ⟨_, h, (fun _ z => by cases z), (fun _ _ z => by unfold LamX.CodeO at z; cases z), (fun _ z => by cases z)⟩
  | tdc t c1 c2 c3 h r => exact ⟨_, h, c2, c1, c3⟩
  | obj h h2 g r => exact ⟨_, h, (fun _ z => by cases z), (fun _ _ z => by unfold LamX.CodeO at z; cases z), (fun _ z => by cases z)⟩
  | gone h c1 c2 c3 => exact ⟨_, h, c1, c2, c3⟩
/-- the store stands so -/
structure StoOk (K : Fg) (T : Tb) (G : Wd) (H : Hp) (μ : Sto) : Prop where
  len : G.m.length = μ.length
  nd : G.m.Nodup
  at_ : ∀ (n : Nat) a u, G.m[n]? = some a → μ[n]? = some u → G a = none ∧ CellAt K T G H a u
theorem StoOk.one {μ : Sto} (s : StoOk K T G H μ) {a : Addr} (h : a ∈ G.m) : ∃ (n : Nat) (u : Cell), G.m[n]? = some a ∧ μ[n]? = some u := by
  obtain ⟨n, e⟩ := List.getElem?_of_mem h
  have hn : n < μ.length := by rw [← s.len]; exact (List.getElem?_eq_some_iff.mp e).1
  exact ⟨n, μ[n], e, List.getElem?_eq_getElem hn⟩
theorem StoOk.there {μ : Sto} (s : StoOk K T G H μ) {a : Addr} (h : a ∈ G.m) : G a = none ∧ ∃ o, H a = Option.some o ∧ (∀ ps, o ≠ .tbl ps) ∧ (∀ x q, o ≠ LamX.CodeO x q) ∧ (∀ x, o ≠ .own x) := by
  obtain ⟨n, u, e1, e2⟩ := s.one h
  exact ⟨(s.at_ n a u e1 e2).1, (s.at_ n a u e1 e2).2.here⟩
theorem StoOk.keep {μ : Sto} (s : StoOk K T G H μ) (l : Le G G') (hm : G'.m = G.m) (n : ∀ b, G b = none → (b ∈ G.m ∨ ∃ x, H b = Option.some (.own x)) → H b ≠ none → G' b = none) (k : ∀ b o, H b = Option.some o → (b ∈ G.m ∨ ∃ x, o = .own x) → H' b = Option.some o) : StoOk K T G' H' μ := by
  refine ⟨by rw [hm]; exact s.len, by rw [hm]; exact s.nd, fun i a u e1 e2 => ?_⟩
  rw [hm] at e1
  obtain ⟨g, c⟩ := s.at_ i a u e1 e2
  obtain ⟨o, h, _⟩ := c.here
  exact ⟨n a g (.inl (List.mem_of_getElem? e1)) (by rw [h]; exact fun z => by cases z), c.keep l (fun b x g e => n b g (.inr ⟨x, e⟩) (by rw [e]; exact fun z => by cases z)) fun b o e z => k b o e (z.imp (fun y => by rw [y]; exact List.mem_of_getElem? e1) id)⟩
end
/-- the addresses that the slots own -/
def owns (σ : St) (ρ : MSt) : List Addr := (List.range ρ.length).filterMap fun (i : Nat) => match (ρ[i]? : Option (Option S)), (σ[i]? : Option (Option V)) with
  | some (some s), some (some (V.ref a)) => if S.own s = true then some a else none
  | _, _ => none
theorem mem_owns {σ : St} {ρ : MSt} {a : Addr} : a ∈ owns σ ρ ↔ ∃ (i : Nat) (s : S), ρ[i]? = some (some s) ∧ s.own = true ∧ σ[i]? = some (some (.ref a)) := by
  unfold owns
  rw [List.mem_filterMap]
  constructor
  · rintro ⟨i, _, e⟩
    split at e
    · rename_i s b h1 h2
      split at e
      · rename_i h3
        cases e
        exact ⟨i, s, h1, h3, h2⟩
      · cases e
    · cases e
  · rintro ⟨i, s, h1, h2, h3⟩
    exact ⟨i, List.mem_range.mpr (List.getElem?_eq_some_iff.mp h1).1, by rw [h1, h3]; simp [h2]⟩
/-- what stood at the entry, what may be changed of it, the tables -/
structure Gh where
  H0 : Hp
  G0 : Wd
  M : List Addr
  da : Addr
  al : Bool := false
  lk : List Addr := []
def Cell.isLk : Cell → Bool
  | .dlk _ => true
  | _ => false
/-- the addresses of the cells that are not locked -/
def free (ms : List Addr) (μ : Sto) : List Addr := (List.range ms.length).filterMap fun (n : Nat) => match (ms[n]? : Option Addr), (μ[n]? : Option Cell) with
  | some a, some u => if u.isLk = true then none else some a
  | _, _ => none
theorem mem_free {ms : List Addr} {μ : Sto} {a : Addr} : a ∈ free ms μ ↔ ∃ (n : Nat) (u : Cell), ms[n]? = some a ∧ μ[n]? = some u ∧ u.isLk = false := by
  unfold free
  rw [List.mem_filterMap]
  constructor
  · rintro ⟨n, _, e⟩
    split at e
    · rename_i b u h1 h2
      split at e
      · cases e
      · rename_i h3
        cases e
        exact ⟨n, u, h1, h2, by simpa using h3⟩
    · cases e
  · rintro ⟨n, u, h1, h2, h3⟩
    exact ⟨n, List.mem_range.mpr (List.getElem?_eq_some_iff.mp h1).1, by rw [h1, h2]; simp [h3]⟩
/-- what may be changed of the store: all cells but the locked ones -/
structure Pm (c : Gh) (G : Wd) (b : Bool) (μ : Sto) : Prop where
  al : b = true → c.al = true
  fr : b = true → ∀ (n : Nat) a u, G.m[n]? = some a → μ[n]? = some u → u.isLk = false → c.H0 a = none ∨ a ∈ c.M
  lk : ∀ (n : Nat) a u, G.m[n]? = some a → μ[n]? = some u → (u.isLk = true ↔ a ∈ c.lk)
theorem Pm.eqm {c : Gh} {G G' : Wd} {b : Bool} {μ : Sto} (q : Pm c G b μ) (e : G'.m = G.m) : Pm c G' b μ := ⟨q.al, by rw [e]; exact q.fr, by rw [e]; exact q.lk⟩
def StJ (K : Fg) (T : Tb) (c : Gh) (G : Wd) (H : Hp) (σ : St) (ρ : MSt) : Prop := ∀ b μ, ρ[σ.length]? = some (some (.sto b μ)) →
  StoOk K T G H μ ∧ Pm c G b μ
structure MJ (c : Gh) (G : Wd) (H : Hp) (σ : St) (ρ : MSt) : Prop where
  hr : ∀ a ∈ G.m, ∃ o, H a = some o
  ow : ∀ a ∈ G.m, a ∉ owns σ ρ
  gr : ∀ a ∈ G.m, a ∈ c.G0.m ∨ c.H0 a = none ∨ a ∈ c.M
  nm : c.al = false → G.m = c.G0.m
  wf : ∀ a ∈ c.lk, a ∉ c.M ∧ ∃ o es, c.H0 a = some (.frz o (.dK es))
structure J (K : Fg) (T : Tb) (c : Gh) (G : Wd) (H : Hp) (σ : St) (ρ : MSt) : Prop where
  sub : Lh G H
  g0 : Le c.G0 G
  gn : ∀ a, c.G0 a = none → c.H0 a ≠ none → a ∉ c.M → G a = none
  fr : ∀ a o, c.H0 a = some o → a ∉ c.M → (∀ ps, o ≠ .tbl ps) → H a = some o
  ft : ∀ a ps, c.H0 a = some (.tbl ps) → ∃ ps', H a = some (.tbl ps')
  len : ρ.length = σ.length + 1
  sl' : ∀ (i : Nat) s, ρ[i]? = some (some s) → s.isSto = false → ∃ v, σ[i]? = some (some v) ∧ RS K c.da G H s v
  ow : ∀ (i : Nat) s a, ρ[i]? = some (some s) → s.own = true → σ[i]? = some (some (.ref a)) → c.H0 a = none ∨ a ∈ c.M
  ap : ∀ (i j : Nat) s t a b, ρ[i]? = some (some s) → ρ[j]? = some (some t) → s.own = true → t.own = true → σ[i]? = some (some (.ref a)) → σ[j]? = some (some (.ref b)) → i ≠ j → a ≠ b
  tb : LamX.Tabs T H
  nt : ∀ a ps, G a ≠ some (.tbl ps)
  st : StJ K T c G H σ ρ
  mj : MJ c G H σ ρ
theorem S.own_sto {s : S} (h : s.own = true) : s.isSto = false := by cases s <;> first | rfl | cases h
section
variable {K : Fg} {T : Tb} {c : Gh} {G G' : Wd} {H H' : Hp} {σ : St} {ρ : MSt}
theorem J.sl (j : J K T c G H σ ρ) (i : Nat) (s : S) (h : ρ[i]? = some (some s)) (ns : s.isSto = false := by rfl) : ∃ v, σ[i]? = some (some v) ∧ RS K c.da G H s v := j.sl' i s h ns
theorem J.subH (j : J K T c G H σ ρ) : Sub G H := j.sub.sub
theorem J.fresh (j : J K T c G H σ ρ) {p : Addr} (h : H p = none) : G p = none := by
  cases e : G p with
  | none => rfl
  | some o =>
    have q := j.sub p o e
    rw [h] at q; cases q
theorem J.H0none (j : J K T c G H σ ρ) {a : Addr} (h : H a = none) : c.H0 a = none ∨ a ∈ c.M := by
  cases e : c.H0 a with
  | none => exact .inl rfl
  | some o =>
    by_cases m : a ∈ c.M
    · exact .inr m
    · cases o with
      | tbl ps => obtain ⟨_, q⟩ := j.ft a ps e; rw [h] at q; cases q
      | _ => have q := j.fr a _ e m (fun _ z => by cases z); rw [h] at q; cases q
theorem J.freshM (j : J K T c G H σ ρ) {a : Addr} (h : H a = none) : a ∉ G.m := fun m => by
  obtain ⟨o, q⟩ := j.mj.hr a m
  rw [h] at q; cases q
theorem MJ.owns {σ2 : St} {ρ2 : MSt} (q : MJ c G H σ ρ) (h : ∀ a, a ∈ owns σ2 ρ2 → a ∈ owns σ ρ) : MJ c G H σ2 ρ2 := ⟨q.hr, fun a m n => q.ow a m (h a n), q.gr, q.nm, q.wf⟩
theorem RS.grow {da : Addr} (h : H p = none) (hG : G p = none) {o : HO} : ∀ {s : S} {v : V}, RS K da G H s v → RS K da (wupd G p o) (upd H p o) s v
  | .d x, v, r => Dq.le r (Le.upd hG)
  | .ol xs, v, ⟨a, vs, e, g, hh, r⟩ => ⟨a, vs, e, by show upd G.hp p o a = none; rw [upd_ne (ne_of_none hh h)]; exact g, by rw [upd_ne (ne_of_none hh h)]; exact hh, r.le (Le.upd hG)⟩
  | .od xs, v, ⟨a, vs, e, g, hh, r⟩ => ⟨a, vs, e, by show upd G.hp p o a = none; rw [upd_ne (ne_of_none hh h)]; exact g, by rw [upd_ne (ne_of_none hh h)]; exact hh, r.le (Le.upd hG)⟩
  | .dc xs, v, ⟨e0, a, vs, e, g, hh, r⟩ => ⟨e0, a, vs, e, by show upd G.hp p o a = none; rw [upd_ne (ne_of_none hh h)]; exact g, by rw [upd_ne (ne_of_none hh h)]; exact hh, r.le (Le.upd hG)⟩
/-- a new still object -/
theorem J.grow (j : J K T c G H σ ρ) {p : Addr} {o : HO} (h : H p = none) (nt : ∀ ps, o ≠ .tbl ps := by intro _ z; cases z) : J K T c (wupd G p o) (upd H p o) σ ρ := by
  have hG := j.fresh h
  refine ⟨fun a u e => ?_, j.g0.trans (Le.upd hG), fun a g0 h0 m => ?_, fun a u e m t => ?_, fun a ps e => ?_, j.len, fun i s e ns => ?_, j.ow, j.ap, j.tb.ext fun b u e => by rw [upd_ne (ne_of_none e h)]; exact e, fun a ps z => by
    by_cases y : a = p
    · rw [y] at z; have z : upd G.hp p o p = _ := z; rw [upd_same] at z; exact nt ps (Option.some.inj z)
    · have z : upd G.hp p o a = _ := z; rw [upd_ne y] at z; exact j.nt a ps z, fun b μ e => ?_, ?_⟩
  · have e : upd G.hp p o a = some u := e
    by_cases z : a = p
    · subst z; rw [upd_same] at e ⊢; exact e
    · rw [upd_ne z] at e ⊢; exact j.sub a u e
  · show upd G.hp p o a = none
    by_cases z : a = p
    · subst z
      rcases j.H0none h with q | q
      · exact absurd q h0
      · exact absurd q m
    · rw [upd_ne z]; exact j.gn a g0 h0 m
  · rw [upd_ne (ne_of_none (j.fr a u e m t) h)]; exact j.fr a u e m t
  · obtain ⟨ps', q⟩ := j.ft a ps e
    exact ⟨ps', by rw [upd_ne (ne_of_none q h)]; exact q⟩
  · obtain ⟨v, e1, r⟩ := j.sl i s e ns
    exact ⟨v, e1, r.grow h hG⟩
  · obtain ⟨s1, s3⟩ := j.st b μ e
    refine ⟨s1.keep (Le.upd hG) rfl (fun b g _ hb => ?_) fun b u e _ => by rw [upd_ne (ne_of_none e h)]; exact e, s3.eqm rfl⟩
    show upd G.hp p o b = none
    rw [upd_ne (fun z => hb (by rw [z]; exact h))]; exact g
  · exact ⟨fun a m => (j.mj.hr a m).imp fun u e => by rw [upd_ne (ne_of_none e h)]; exact e, j.mj.ow, j.mj.gr, j.mj.nm, j.mj.wf⟩
theorem RS.heap {da : Addr} (k : ∀ a o, H a = some o → (∀ ps, o ≠ .tbl ps) → H' a = some o) : ∀ {s : S} {v : V}, RS K da G H s v → RS K da G H' s v
  | .d x, v, r => r
  | .ol xs, v, ⟨a, vs, e, g, hh, r⟩ => ⟨a, vs, e, g, k _ _ hh (fun _ z => by cases z), r⟩
  | .od xs, v, ⟨a, vs, e, g, hh, r⟩ => ⟨a, vs, e, g, k _ _ hh (fun _ z => by cases z), r⟩
  | .dc xs, v, ⟨e0, a, vs, e, g, hh, r⟩ => ⟨e0, a, vs, e, g, k _ _ hh (fun _ z => by cases z), r⟩
theorem owns_sub {σ2 : St} {ρ2 : MSt} (h : ∀ (i : Nat) (s : S), ρ2[i]? = some (some s) → s.own = true → ρ[i]? = some (some s) ∧ σ[i]? = σ2[i]?) {a : Addr} (m : a ∈ owns σ2 ρ2) : a ∈ owns σ ρ := by
  obtain ⟨i, s, e1, e2, e3⟩ := mem_owns.mp m
  obtain ⟨q1, q2⟩ := h i s e1 e2
  exact mem_owns.mpr ⟨i, s, q1, e2, by rw [q2]; exact e3⟩
/-- the store: a name holds data -/
theorem J.set (j : J K T c G H σ ρ) {i : Nat} {v : V} {d : D} (hi : i + 1 < ρ.length) (r : Dq K G v d) : J K T c G H (σ.set i (some v)) (ρ.set i (some (.d d))) := by
  have hs : i < σ.length := by have := j.len; omega
  have hi' : i < ρ.length := by omega
  have at_ : ∀ {k : Nat} {s : S}, (ρ.set i (some (.d d)))[k]? = some (some s) → (k = i ∧ s = .d d) ∨ (k ≠ i ∧ ρ[k]? = some (some s)) := fun {k s} e => by
    by_cases z : k = i
    · subst z; rw [List.getElem?_set_self hi'] at e; cases e; exact .inl ⟨rfl, rfl⟩
    · rw [List.getElem?_set_ne (Ne.symm z)] at e; exact .inr ⟨z, e⟩
  refine ⟨j.sub, j.g0, j.gn, j.fr, j.ft, by simp [j.len], fun k s e ns => ?_, fun k s a e o e2 => ?_, fun k l s t a b e1 e2 o1 o2 f1 f2 n => ?_, j.tb, j.nt, fun b μ e => ?_, j.mj.owns fun a n => owns_sub (fun k s e o => ?_) n⟩
  · rcases at_ e with ⟨rfl, rfl⟩ | ⟨z, e⟩
    · exact ⟨v, List.getElem?_set_self hs, r⟩
    · obtain ⟨w, h1, h2⟩ := j.sl k s e ns
      exact ⟨w, by rw [List.getElem?_set_ne (Ne.symm z)]; exact h1, h2⟩
  · rcases at_ e with ⟨rfl, rfl⟩ | ⟨z, e⟩
    · cases o
    · rw [List.getElem?_set_ne (Ne.symm z)] at e2; exact j.ow k s a e o e2
  · rcases at_ e1 with ⟨rfl, rfl⟩ | ⟨z, e1⟩
    · cases o1
    · rcases at_ e2 with ⟨rfl, rfl⟩ | ⟨z2, e2⟩
      · cases o2
      · rw [List.getElem?_set_ne (Ne.symm z)] at f1
        rw [List.getElem?_set_ne (Ne.symm z2)] at f2
        exact j.ap k l s t a b e1 e2 o1 o2 f1 f2 n
  · rw [List.length_set] at e
    rw [List.getElem?_set_ne (by omega)] at e
    exact j.st b μ e
  · rcases at_ e with ⟨rfl, rfl⟩ | ⟨z, e⟩
    · cases o
    · exact ⟨e, by rw [List.getElem?_set_ne (Ne.symm z)]⟩
/-- the ghost, taken anew here -/
def here (c : Gh) (G : Wd) (H : Hp) (σ : St) (ρ : MSt) : Gh := ⟨H, G, owns σ ρ ++ (match ρ[σ.length]? with
  | some (some (.sto true μ)) => free G.m μ
  | _ => []), c.da, c.al, c.lk⟩
theorem mem_here {a : Addr} (h : a ∈ (here c G H σ ρ).M) : a ∈ owns σ ρ ∨ ∃ μ, ρ[σ.length]? = some (some (.sto true μ)) ∧ a ∈ free G.m μ := by
  rcases List.mem_append.mp h with h | h
  · exact .inl h
  · split at h
    · rename_i μ e; exact .inr ⟨μ, e, h⟩
    · cases h
theorem free_mem {ms : List Addr} {μ : Sto} {a : Addr} (h : a ∈ free ms μ) : a ∈ ms := by
  obtain ⟨n, u, h1, _⟩ := mem_free.mp h
  exact List.mem_of_getElem? h1
theorem J.hereFz (j : J K T c G H σ ρ) {a : Addr} (h : a ∈ c.lk) : a ∉ (Mi.here c G H σ ρ).M ∧ ∃ o es, H a = some (.frz o (.dK es)) := by
  obtain ⟨nM, o, es, h0⟩ := j.mj.wf a h
  have hh := j.fr a _ h0 nM (fun _ z => by cases z)
  refine ⟨fun m => ?_, o, es, hh⟩
  rcases mem_here m with m | ⟨μ, e, m⟩
  · obtain ⟨i, s, e1, e2, e3⟩ := mem_owns.mp m
    exact (j.ow i s a e1 e2 e3).elim (fun z => by rw [h0] at z; cases z) nM
  · obtain ⟨n, u, q1, q2, q3⟩ := mem_free.mp m
    have := ((j.st true μ e).2.lk n a u q1 q2).mpr h
    rw [q3] at this; cases this
theorem J.here (j : J K T c G H σ ρ) : J K T (here c G H σ ρ) G H σ ρ :=
  ⟨j.sub, Le.refl G, fun _ e _ _ => e, fun _ _ e _ _ => e, fun _ ps e => ⟨ps, e⟩, j.len, j.sl', fun i s a e o e2 => .inr (List.mem_append_left _ (mem_owns.mpr ⟨i, s, e, o, e2⟩)), j.ap, j.tb, j.nt, fun b μ e => by
    obtain ⟨s1, s3⟩ := j.st b μ e
    refine ⟨s1, s3.al, fun hb n a u q1 q2 q3 => .inr (List.mem_append_right _ ?_), s3.lk⟩
    subst hb
    rw [e]; exact mem_free.mpr ⟨n, u, q1, q2, q3⟩, ⟨j.mj.hr, j.mj.ow, fun a m => .inl m, fun _ => rfl, fun a h => j.hereFz h⟩⟩
theorem J.hereM (j : J K T c G H σ ρ) {a : Addr} (h : a ∈ (Mi.here c G H σ ρ).M) : c.H0 a = none ∨ a ∈ c.M := by
  rcases mem_here h with h | ⟨μ, e, m⟩
  · obtain ⟨i, s, e1, e2, e3⟩ := mem_owns.mp h
    exact j.ow i s a e1 e2 e3
  · obtain ⟨n, u, q1, q2, q3⟩ := mem_free.mp m
    exact (j.st true μ e).2.fr rfl n a u q1 q2 q3
theorem J.back {G2 : Wd} {H2 : Hp} {σ2 : St} {ρ2 : MSt} (j : J K T c G H σ ρ) (j2 : J K T (Mi.here c G H σ ρ) G2 H2 σ2 ρ2) : J K T c G2 H2 σ2 ρ2 := by
  have own : ∀ a, a ∈ (Mi.here c G H σ ρ).M → c.H0 a = none ∨ a ∈ c.M := fun a h => j.hereM h
  have per : ∀ a, (Mi.here c G H σ ρ).H0 a = none ∨ a ∈ (Mi.here c G H σ ρ).M → c.H0 a = none ∨ a ∈ c.M := fun a z => by
    rcases z with z | z
    · exact j.H0none z
    · exact own a z
  refine ⟨j2.sub, j.g0.trans j2.g0, fun a g0 h0 m => j2.gn a (j.gn a g0 h0 m) (fun z => (j.H0none z).elim h0 m) (fun h => (own a h).elim h0 m), fun a o e m t => j2.fr a o (j.fr a o e m t) (fun h => ?_) t, fun a ps e => ?_, j2.len, j2.sl', fun i s a e o e2 => per a (j2.ow i s a e o e2), j2.ap, j2.tb, j2.nt, fun b μ e => ?_, ⟨j2.mj.hr, j2.mj.ow, fun a m => ?_, fun h => (j2.mj.nm h).trans (j.mj.nm h), j.mj.wf⟩⟩
  · rcases own a h with z | z
    · rw [e] at z; cases z
    · exact m z
  · obtain ⟨ps', q⟩ := j.ft a ps e
    exact j2.ft a ps' q
  · obtain ⟨s1, s3⟩ := j2.st b μ e
    exact ⟨s1, s3.al, fun hb n a u q1 q2 q3 => per a (s3.fr hb n a u q1 q2 q3), s3.lk⟩
  · rcases j2.mj.gr a m with z | z
    · exact j.mj.gr a z
    · exact .inr (per a z)
/-- an object beside the slots is changed -/
theorem J.write (j : J K T c G H σ ρ) {a : Addr} {o o' : HO} (hG : G a = none) (hH : H a = some o) (ht : ∀ ps, o ≠ .tbl ps) (hc : ∀ x q, o ≠ LamX.CodeO x q) (h0 : c.H0 a = none ∨ a ∈ c.M) (no : a ∉ owns σ ρ) (nm : a ∉ G.m) (hw : ∀ x, o ≠ .own x := by intro _ z; cases z) : J K T c G (upd H a o') σ ρ := by
  have tb : ∀ b u, H b = some u → u ≠ o → upd H a o' b = some u := fun b u e n => by
    rw [upd_ne (fun z => n (by rw [z, hH] at e; exact (Option.some.inj e).symm))]; exact e
  refine ⟨fun b u e => ?_, j.g0, j.gn, fun b u e m t => ?_, fun b ps e => ?_, j.len, fun i s e ns => ?_, j.ow, j.ap, fun p hp => ?_, j.nt, fun b μ e => ?_, ⟨fun b m => (j.mj.hr b m).imp fun u e => by rw [upd_ne (show b ≠ a from fun z => nm (by rw [← z]; exact m))]; exact e, j.mj.ow, j.mj.gr, j.mj.nm, j.mj.wf⟩⟩
  · rw [upd_ne (ne_of_none e hG)]; exact j.sub b u e
  · have q := j.fr b u e m t
    rw [upd_ne (fun z => by rcases h0 with y | y; (rw [← z, e] at y; cases y); exact m (z ▸ y))]; exact q
  · obtain ⟨ps', q⟩ := j.ft b ps e
    exact ⟨ps', tb b _ q (fun z => ht _ z.symm)⟩
  · obtain ⟨v, e1, r⟩ := j.sl i s e ns
    refine ⟨v, e1, ?_⟩
    cases s with
    | d x => exact r
    | ol xs =>
      obtain ⟨b, vs, e2, g, hh, r⟩ := r
      subst e2
      exact ⟨b, vs, rfl, g, by rw [upd_ne (show b ≠ a from fun z => no (mem_owns.mpr ⟨i, _, e, rfl, by rw [← z]; exact e1⟩))]; exact hh, r⟩
    | od xs =>
      obtain ⟨b, vs, e2, g, hh, r⟩ := r
      subst e2
      exact ⟨b, vs, rfl, g, by rw [upd_ne (show b ≠ a from fun z => no (mem_owns.mpr ⟨i, _, e, rfl, by rw [← z]; exact e1⟩))]; exact hh, r⟩
    | dc xs =>
      obtain ⟨e0, b, vs, e2, g, hh, r⟩ := r
      subst e2
      exact ⟨e0, b, vs, rfl, g, by rw [upd_ne (show b ≠ a from fun z => no (mem_owns.mpr ⟨i, _, e, rfl, by rw [← z]; exact e1⟩))]; exact hh, r⟩
    | sto b μ => cases ns
  · obtain ⟨ps, h1, h2, h3⟩ := j.tb p hp
    refine ⟨ps, tb _ _ h1 (fun z => ht _ z.symm), h2, fun pos cv hcv => ?_⟩
    obtain ⟨x, e1, e2⟩ := h3 pos cv hcv
    exact ⟨x, e1, tb _ _ e2 (fun z => hc _ _ z.symm)⟩
  · obtain ⟨s1, s3⟩ := j.st b μ e
    refine ⟨s1.keep (Le.refl G) rfl (fun _ g _ _ => g) fun d u eu z => ?_, s3⟩
    rcases z with z | ⟨x, z⟩
    · rw [upd_ne (show d ≠ a from fun y => nm (by rw [← y]; exact z))]; exact eu
    · exact tb d u eu fun y => hw x (by rw [← y, z])
/-- an object beside the slots stands still from now on -/
theorem J.still (j : J K T c G H σ ρ) {a : Addr} {o : HO} (hG : G a = none) (hH : H a = some o) (h0 : c.H0 a = none ∨ a ∈ c.M) (no : a ∉ owns σ ρ) (nm : a ∉ G.m) (nt : ∀ ps, o ≠ .tbl ps := by intro _ z; cases z) (hw : ∀ x, o ≠ .own x := by intro _ z; cases z) : J K T c (wupd G a o) H σ ρ := by
  refine ⟨fun b u e => ?_, j.g0.trans (Le.upd hG), fun b g0 hh m => ?_, j.fr, j.ft, j.len, fun i s e ns => ?_, j.ow, j.ap, j.tb, fun b ps z => by
    have z : upd G.hp a o b = _ := z
    by_cases y : b = a
    · rw [y, upd_same] at z; exact nt ps (Option.some.inj z)
    · rw [upd_ne y] at z; exact j.nt b ps z, fun b μ e => ?_, ⟨j.mj.hr, j.mj.ow, j.mj.gr, j.mj.nm, j.mj.wf⟩⟩
  · have e : upd G.hp a o b = some u := e
    by_cases z : b = a
    · subst z; rw [upd_same] at e; rw [hH]; exact e
    · rw [upd_ne z] at e; exact j.sub b u e
  · show upd G.hp a o b = none
    by_cases z : b = a
    · subst z; exact (h0.elim hh m).elim
    · rw [upd_ne z]; exact j.gn b g0 hh m
  · obtain ⟨v, e1, r⟩ := j.sl i s e ns
    refine ⟨v, e1, ?_⟩
    have g' : ∀ {b : Addr}, s.own = true → v = .ref b → G b = none → upd G.hp a o b = none := fun {b} o' ev g => by
      subst ev
      rw [upd_ne (show b ≠ a from fun z => no (mem_owns.mpr ⟨i, _, e, o', by rw [← z]; exact e1⟩))]; exact g
    cases s with
    | d x => exact Dq.le r (Le.upd hG)
    | ol xs =>
      obtain ⟨b, vs, e2, g, hh, r⟩ := r
      exact ⟨b, vs, e2, g' rfl e2 g, hh, r.le (Le.upd hG)⟩
    | od xs =>
      obtain ⟨b, vs, e2, g, hh, r⟩ := r
      exact ⟨b, vs, e2, g' rfl e2 g, hh, r.le (Le.upd hG)⟩
    | dc xs =>
      obtain ⟨e0, b, vs, e2, g, hh, r⟩ := r
      exact ⟨e0, b, vs, e2, g' rfl e2 g, hh, r.le (Le.upd hG)⟩
    | sto b μ => cases ns
  · obtain ⟨s1, s3⟩ := j.st b μ e
    refine ⟨⟨s1.len, s1.nd, fun n d u e1 e2 => ?_⟩, s3.eqm rfl⟩
    obtain ⟨g, ct⟩ := s1.at_ n d u e1 e2
    have nd : d ≠ a := fun z => nm (by rw [← z]; exact List.mem_of_getElem? e1)
    refine ⟨by show upd G.hp a o d = none; rw [upd_ne nd]; exact g, ?_⟩
    cases ct with
    | lst h r => exact .lst h (r.le (Le.upd hG))
    | dic h r => exact .dic h (r.le (Le.upd hG))
    | dlk h r => exact .dlk h (r.le (Le.upd hG))
    | tdc t c1 c2 c3 h r => exact .tdc t c1 c2 c3 h (r.le (Le.upd hG))
    | obj h h2 g2 r =>
      refine .obj h h2 ?_ (r.le (Le.upd hG))
      show upd G.hp a o _ = none
      rw [upd_ne (fun z => by rw [z, hH] at h2; exact hw _ (Option.some.inj h2))]; exact g2
    | gone h c1 c2 c3 => exact .gone h c1 c2 c3
/-- a new object beside the slots, not still -/
theorem J.aside (j : J K T c G H σ ρ) {a : Addr} {o : HO} (hH : H a = none) : J K T c G (upd H a o) σ ρ := by
  have up : ∀ b u, H b = some u → upd H a o b = some u := fun b u e => by rw [upd_ne (ne_of_none e hH)]; exact e
  refine ⟨fun b u e => up b u (j.sub b u e), j.g0, j.gn, fun b u e m t => up b u (j.fr b u e m t), fun b ps e => ?_, j.len, fun i s e ns => ?_, j.ow, j.ap, j.tb.ext up, j.nt, fun b μ e => ?_, ⟨fun b m => (j.mj.hr b m).imp fun u e => up b u e, j.mj.ow, j.mj.gr, j.mj.nm, j.mj.wf⟩⟩
  · obtain ⟨ps', q⟩ := j.ft b ps e
    exact ⟨ps', up _ _ q⟩
  · obtain ⟨v, e1, r⟩ := j.sl i s e ns
    exact ⟨v, e1, r.heap fun b u e _ => up b u e⟩
  · obtain ⟨s1, s3⟩ := j.st b μ e
    exact ⟨s1.keep (Le.refl G) rfl (fun _ g _ _ => g) fun d u eu _ => up d u eu, s3⟩
theorem J.notOwn (j : J K T c G H σ ρ) {a : Addr} (h : H a = none) : a ∉ owns σ ρ := fun m => by
  obtain ⟨i, s, e1, e2, e3⟩ := mem_owns.mp m
  obtain ⟨v, q, r⟩ := j.sl i s e1 (S.own_sto e2)
  rw [e3] at q
  cases q
  cases s with
  | d x => cases e2
  | ol xs => obtain ⟨b, vs, e, _, hh, _⟩ := r; cases e; rw [h] at hh; cases hh
  | od xs => obtain ⟨b, vs, e, _, hh, _⟩ := r; cases e; rw [h] at hh; cases hh
  | dc xs => obtain ⟨_, b, vs, e, _, hh, _⟩ := r; cases e; rw [h] at hh; cases hh
  | sto b μ => cases e2
theorem not_here {a : Addr} (no : a ∉ owns σ ρ ∧ a ∉ G.m) : a ∉ (Mi.here c G H σ ρ).M := fun h => by
  rcases mem_here h with h | ⟨_, _, h⟩
  · exact no.1 h
  · exact no.2 (free_mem h)
theorem J.apart (j : J K T c G H σ ρ) {a : Addr} (h0 : c.H0 a ≠ none) (nM : a ∉ c.M) (nm : a ∉ c.G0.m) : a ∉ owns σ ρ ∧ a ∉ G.m := by
  refine ⟨fun m => ?_, fun m => ?_⟩
  · obtain ⟨k, s, e1, e2, e3⟩ := mem_owns.mp m
    exact (j.ow k s a e1 e2 e3).elim h0 nM
  · exact (j.mj.gr a m).elim nm fun z => z.elim h0 nM
/-- names forgotten -/
def wipeM (ρ : MSt) : List Nat → MSt
  | [] => ρ
  | v :: vs => (wipeM ρ vs).set v none
theorem J.drop1 (j : J K T c G H σ ρ) (i : Nat) : J K T c G H (σ.set i none) (ρ.set i none) := by
  have at_ : ∀ {k : Nat} {s : S}, (ρ.set i none)[k]? = some (some s) → k ≠ i ∧ ρ[k]? = some (some s) := fun {k s} e => by
    by_cases z : k = i
    · subst z
      by_cases hk : k < ρ.length
      · rw [List.getElem?_set_self hk] at e; cases e
      · rw [List.getElem?_eq_none (by simpa using hk)] at e; cases e
    · rw [List.getElem?_set_ne (Ne.symm z)] at e; exact ⟨z, e⟩
  refine ⟨j.sub, j.g0, j.gn, j.fr, j.ft, by simp [j.len], fun k s e ns => ?_, fun k s a e o e2 => ?_, fun k l s t a b e1 e2 o1 o2 f1 f2 n => ?_, j.tb, j.nt, fun b μ e => ?_, j.mj.owns fun a n => owns_sub (fun k s e o => ?_) n⟩
  · obtain ⟨z, e⟩ := at_ e
    obtain ⟨w, h1, h2⟩ := j.sl k s e ns
    exact ⟨w, by rw [List.getElem?_set_ne (Ne.symm z)]; exact h1, h2⟩
  · obtain ⟨z, e⟩ := at_ e
    rw [List.getElem?_set_ne (Ne.symm z)] at e2; exact j.ow k s a e o e2
  · obtain ⟨z, e1⟩ := at_ e1
    obtain ⟨z2, e2⟩ := at_ e2
    rw [List.getElem?_set_ne (Ne.symm z)] at f1
    rw [List.getElem?_set_ne (Ne.symm z2)] at f2
    exact j.ap k l s t a b e1 e2 o1 o2 f1 f2 n
  · rw [List.length_set] at e
    obtain ⟨z, e⟩ := at_ e
    exact j.st b μ e
  · obtain ⟨z, e⟩ := at_ e
    exact ⟨e, by rw [List.getElem?_set_ne (Ne.symm z)]⟩
theorem J.wipe (j : J K T c G H σ ρ) : ∀ vs : List Nat, J K T c G H (wipe σ vs) (wipeM ρ vs)
  | [] => j
  | v :: vs => (J.wipe j vs).drop1 v
/-- other slots over the same heap -/
theorem J.refit (j : J K T c G H σ ρ) {σ2 : St} {ρ2 : MSt} (hl : ρ2.length = σ2.length + 1) (hσ : σ2.length = σ.length) (h : ∀ (i : Nat) s, ρ2[i]? = some (some s) → (ρ[i]? = some (some s) ∧ σ[i]? = σ2[i]?) ∨ ∃ x v, s = .d x ∧ σ2[i]? = some (some v) ∧ Dq K G v x) : J K T c G H σ2 ρ2 := by
  have own : ∀ {i : Nat} {s : S}, ρ2[i]? = some (some s) → s.own = true → ρ[i]? = some (some s) ∧ σ[i]? = σ2[i]? := fun {i s} e o => by
    rcases h i s e with q | ⟨x, v, rfl, _⟩
    · exact q
    · cases o
  refine ⟨j.sub, j.g0, j.gn, j.fr, j.ft, hl, fun i s e ns => ?_, fun i s a e o e2 => ?_, fun k l s t a b e1 e2 o1 o2 f1 f2 n => ?_, j.tb, j.nt, fun b μ e => ?_, j.mj.owns fun a n => owns_sub (fun k s e o => own e o) n⟩
  · rcases h i s e with ⟨q1, q2⟩ | ⟨x, v, rfl, q1, q2⟩
    · obtain ⟨v, e1, r⟩ := j.sl i s q1 ns
      exact ⟨v, by rw [← q2]; exact e1, r⟩
    · exact ⟨v, q1, q2⟩
  · obtain ⟨q1, q2⟩ := own e o
    exact j.ow i s a q1 o (by rw [q2]; exact e2)
  · obtain ⟨q1, q2⟩ := own e1 o1
    obtain ⟨q3, q4⟩ := own e2 o2
    exact j.ap k l s t a b q1 q3 o1 o2 (by rw [q2]; exact f1) (by rw [q4]; exact f2) n
  · rcases h _ _ e with ⟨q1, q2⟩ | ⟨x, v, z, _⟩
    · rw [hσ] at q1
      exact j.st b μ q1
    · cases z
end
end Mi
set_option Elab.async false
set_option linter.all false
set_option maxRecDepth 100000
set_option maxHeartbeats 4000000
namespace Mi
open PySem L2
def IsX (K : Fg) (H : Hp) (e : Exn) (cls : Value) (dx : Option Addr) : Prop := cls = .ref (He.ga K e.cls) ∧ match e.lacks with
  | none => dx = none
  | some n => ∃ d, dx = some d ∧ H d = some (.xd [(("lacks" : Str), V.int n)])
section
variable (K : Fg) (T : Tb) (c : Gh) (W : WX)
def pX {α β : Type} (rel : Wd → β → α → Prop) (σ : St) (G : Wd) (Q : β → Hp → Prop) : Out α → Prop
  | .ok a ρ' => ∀ b G' H', Le G G' → J K T c G' H' σ ρ' → rel G' b a → Q b H'
  | .exn e ρ' => ∀ cls dx G' H', Le G G' → J K T c G' H' σ ρ' → IsX K G'.hp e cls dx → W cls dx σ H'
  | .stuck => False
def mX {α β : Type} (rel : Wd → β → α → Prop) (f : MM α) : St → Hp → (β → Hp → Prop) → Prop := fun σ H Q => ∃ G ρ, J K T c G H σ ρ ∧ pX K T c W rel σ G Q (f ρ)
abbrev relD : Wd → V → D → Prop := fun G v d => Dq K G v d
abbrev relB : Wd → Bool → Bool → Prop := fun _ b k => b = k
abbrev relA : Wd → List V → List D → Prop := fun G vs ds => DqAll K G vs ds
def mE (f : MM D) : TE := mX K T c W (relD K) f
def mT (f : MM Bool) : TT := mX K T c W relB f
def mA (f : MM (List D)) : TA := mX K T c W (relA K) f
end
section
variable {K : Fg} {T : Tb} {c : Gh} {W : WX} {α β γ δ : Type} {rel : Wd → β → α → Prop} {rel' : Wd → δ → γ → Prop} {σ : St} {ρ : MSt} {G G1 : Wd} {H : Hp} {Q : δ → Hp → Prop} {R : β → Hp → Prop} {o : Out γ}
theorem pX.le (l : Le G G1) (h : pX K T c W rel' σ G Q o) : pX K T c W rel' σ G1 Q o := by
  cases o with
  | ok a ρ' => exact fun b G' H' l' => h b G' H' (l.trans l')
  | exn e ρ' => exact fun cls dx G' H' l' => h cls dx G' H' (l.trans l')
  | stuck => exact h
theorem pX_bind {f : MM α} {g : α → MM γ} (j : J K T c G H σ ρ) (p : pX K T c W rel' σ G Q (MM.bind f g ρ))
    (k : ∀ a b ρ1 G1 H1, Le G G1 → J K T c G1 H1 σ ρ1 → rel G1 b a → pX K T c W rel' σ G1 Q (g a ρ1) → R b H1) : mX K T c W rel f σ H R := by
  refine ⟨G, ρ, j, ?_⟩
  unfold MM.bind at p
  cases e : f ρ with
  | ok a ρ1 =>
    rw [e] at p
    exact fun b G1 H1 l j1 r => k a b ρ1 G1 H1 l j1 r (pX.le l p)
  | exn x ρ1 =>
    rw [e] at p
    exact p
  | stuck =>
    rw [e] at p
    exact p
/-- the end of a pure step: the heap as it is -/
theorem pX.here {a : γ} {b : δ} (p : pX K T c W rel' σ G Q (.ok a ρ)) (j : J K T c G H σ ρ) (r : rel' G b a) : Q b H := p b G H (Le.refl G) j r
end
theorem pe_mono {X : Cx} {e : Expr} {t t' : TE} (h : PE X e t) (k : ∀ σ H Q, t' σ H Q → t σ H Q) : PE X e t' := ⟨fun pins s σ H Q I q => h.run pins s σ H Q I (k σ H Q q)⟩
theorem pt_mono {X : Cx} {e : Expr} {t t' : TT} (h : PT X e t) (k : ∀ σ H Q, t' σ H Q → t σ H Q) : PT X e t' := ⟨fun pins s σ H Q I q => h.run pins s σ H Q I (k σ H Q q)⟩
theorem pw_mono {X : Cx} {e : Expr} {t t' : TT} (h : PW X e t) (k : ∀ σ H Q, t' σ H Q → t σ H Q) : PW X e t' := ⟨fun wh pins s σ H Q I q => h.run wh pins s σ H Q I (k σ H Q q)⟩
theorem pa_mono {X : Cx} {e : List Expr} {t t' : TA} (h : PA X e t) (k : ∀ σ H Q, t' σ H Q → t σ H Q) : PA X e t' := ⟨fun pos pins s σ H Q I q => h.run pos pins s σ H Q I (k σ H Q q)⟩
theorem ps_mono {X : Cx} {e : Stmt} {t t' : TS} (h : PS X e t) (k : ∀ D σ H, t' D σ H → t D σ H) : PS X e t' := ⟨fun pins s σ H D I q => h.run pins s σ H D I (k D σ H q)⟩
theorem pss_mono {X : Cx} {e : List Stmt} {t t' : TS} (h : PSs X e t) (k : ∀ D σ H, t' D σ H → t D σ H) : PSs X e t' := ⟨fun pins s σ H D I q => h.run pins s σ H D I (k D σ H q)⟩
def var (i : Nat) : MM D := fun ρ => match ρ[i]? with
  | some (some (.d x)) => .ok x ρ
  | _ => .stuck
section
variable {X : Cx} {T : Tb} {c : Gh} {W : WX} {a b e : Expr} {f f1 f2 : MM D} {pos : Pos}
theorem me_var {i : Nat} {x : Str} (hN : X.N[i]? = some x) (hv : Vis X.env.scope x) (hd : (x == ("__debug__" : Str)) = false := by decide) (hcd : (x == ("__classdict__" : Str)) = false := by decide) : PE X (.Name x pos) (mE X.K T c W (var i)) := by
  refine pe_mono (pe_var hN hv hd hcd) fun σ H Q ⟨G, ρ, j, p⟩ => ?_
  unfold var at p
  split at p
  · rename_i y hy
    obtain ⟨v, e1, r⟩ := j.sl i _ hy
    exact ⟨v, e1, p.here j r⟩
  · exact p.elim
theorem me_const {d : D} {v : V} (h : PE X e (tC v)) (r : ∀ G, Dq X.K G v d) : PE X e (mE X.K T c W (MM.pure d)) :=
  pe_mono h fun σ H Q ⟨G, ρ, j, p⟩ => p.here j (r G)
theorem me_int {i j} : PE X (.Constant (.int i) j pos) (mE X.K T c W (MM.pure (.int i))) := me_const pe_int fun _ => .int i
theorem me_bl {b j} : PE X (.Constant (.bool b) j pos) (mE X.K T c W (MM.pure (.bool b))) := me_const pe_bl fun _ => .bl b
theorem me_non {j} : PE X (.Constant .none j pos) (mE X.K T c W (MM.pure .none)) := me_const pe_non fun _ => .non
theorem me_str {x j} : PE X (.Constant (.str x) j pos) (mE X.K T c W (MM.pure (.str x))) := me_const pe_str fun _ => .str x
def Op2 (X : Cx) (T : Tb) (c : Gh) (W : WX) (f : Value → Value → Sem Value) (g : D → D → Res D) : Prop :=
  ∃ r : R2, OpR X f r ∧ ∀ σ ρ G H x y d e (Q : VK), J X.K T c G H σ ρ → Dq X.K G x d → Dq X.K G y e → pX X.K T c W (relD X.K) σ G Q (lift (g d e) ρ) → r x y H Q
def op2 (g : D → D → Res D) (f1 f2 : MM D) : MM D := MM.bind f1 fun x => MM.bind f2 fun y => lift (g x y)
theorem op2_to {r : R2} {g : D → D → Res D} (k : ∀ σ ρ G H x y d e (Q : VK), J X.K T c G H σ ρ → Dq X.K G x d → Dq X.K G y e → pX X.K T c W (relD X.K) σ G Q (lift (g d e) ρ) → r x y H Q)
    (σ : St) (H : Hp) (Q : VK) (h : mE X.K T c W (op2 g f1 f2) σ H Q) : tOp r (mE X.K T c W f1) (mE X.K T c W f2) σ H Q := by
  obtain ⟨G, ρ, j, p⟩ := h
  refine pX_bind j p fun x v ρ1 G1 H1 l1 j1 r1 p1 => ?_
  refine pX_bind j1 p1 fun y w ρ2 G2 H2 l2 j2 r2 p2 => ?_
  exact k σ ρ2 G2 H2 v w x y Q j2 (r1.le l2) r2 p2
theorem me_op {op : Operator} {g : D → D → Res D} (ho : Op2 X T c W (binaryOp op) g) (ha : PE X a (mE X.K T c W f1)) (hb : PE X b (mE X.K T c W f2)) : PE X (.BinOp a op b pos) (mE X.K T c W (op2 g f1 f2)) := by
  obtain ⟨r, h, k⟩ := ho
  exact pe_mono (pe_op h ha hb) (op2_to k)
theorem me_cmp {op : CmpOp} {g : D → D → Res D} (ho : Op2 X T c W (compareOp op) g) (ha : PE X a (mE X.K T c W f1)) (hb : PE X b (mE X.K T c W f2)) (hm : behindInMarks op b = false) : PE X (.Compare a [op] [b] pos) (mE X.K T c W (op2 g f1 f2)) := by
  obtain ⟨r, h, k⟩ := ho
  exact pe_mono (pe_cmpR h ha hb hm) (op2_to k)
def toB : D → Res Bool
  | .bool b => .ok b
  | _ => .stuck
def opT (g : D → D → Res D) (f1 f2 : MM D) : MM Bool := MM.bind (op2 g f1 f2) fun x => lift (toB x)
theorem mt_cmp {op : CmpOp} {g : D → D → Res D} (ho : Op2 X T c W (compareOp op) g) (ha : PE X a (mE X.K T c W f1)) (hb : PE X b (mE X.K T c W f2)) (hm : behindInMarks op b = false) : PT X (.Compare a [op] [b] pos) (mT X.K T c W (opT g f1 f2)) := by
  obtain ⟨r, h, k⟩ := ho
  refine pt_mono (pt_cmpR h ha hb hm) fun σ H Q ⟨G, ρ, j, p⟩ => ?_
  refine op2_to k σ H _ (pX_bind j p fun x v ρ1 G1 H1 l1 j1 r1 p1 => ?_)
  cases r1 with
  | bl b => exact ⟨b, rfl, p1.here j1 rfl⟩
  | _ => exact p1.elim
/-- an expression that gives True or False, as a test -/
def tst (f : MM D) : MM Bool := MM.bind f fun x => lift (toB x)
theorem mt_val (h : PE X e (mE X.K T c W f)) (he : ∀ whole, isTrue e X.env whole = (do let v ← whole; standAt e.pos; holding [v] (truthy v)) := by intro _; rfl) : PT X e (mT X.K T c W (tst f)) := by
  refine pt_mono (pt_val h he) fun σ H Q ⟨G, ρ, j, p⟩ => ?_
  refine pX_bind j p fun x v ρ1 G1 H1 l1 j1 r1 p1 => ?_
  cases r1 with
  | bl b => exact ⟨b, rfl, p1.here j1 rfl⟩
  | _ => exact p1.elim
def andT (f g : MM Bool) : MM Bool := MM.bind f fun b => if b = true then g else MM.pure false
def orT (f g : MM Bool) : MM Bool := MM.bind f fun b => if b = true then MM.pure true else g
def notT (f : MM Bool) : MM Bool := MM.bind f fun b => MM.pure (!b)
variable {g1 g2 : MM Bool} {rest : List Expr}
theorem mw_or1 (ha : PT X a (mT X.K T c W g1)) : PW X (.BoolOp .Or [a] pos) (mT X.K T c W g1) := pw_or1 ha
theorem mw_or (ha : PT X a (mT X.K T c W g1)) (hb : PW X (.BoolOp .Or (b :: rest) pos) (mT X.K T c W g2)) : PW X (.BoolOp .Or (a :: b :: rest) pos) (mT X.K T c W (orT g1 g2)) := by
  refine pw_mono (pw_or ha hb) fun σ H Q ⟨G, ρ, j, p⟩ => ?_
  refine pX_bind j p fun x v ρ1 G1 H1 l1 j1 r1 p1 => ?_
  cases r1
  cases x with
  | true => exact p1.here j1 rfl
  | false => exact ⟨G1, ρ1, j1, p1⟩
theorem mt_not (ha : PT X a (mT X.K T c W g1)) : PT X (.UnaryOp .Not a pos) (mT X.K T c W (notT g1)) := by
  refine pt_mono (pt_not ha) fun σ H Q ⟨G, ρ, j, p⟩ => ?_
  refine pX_bind j p fun x v ρ1 G1 H1 l1 j1 r1 p1 => ?_
  cases r1
  exact p1.here j1 rfl
/-- .. as values -/
def andV (f g : MM D) : MM D := MM.bind f fun x => match x with
  | .bool true => g
  | .bool false => MM.pure (.bool false)
  | _ => stuck
def orV (f g : MM D) : MM D := MM.bind f fun x => match x with
  | .bool true => MM.pure (.bool true)
  | .bool false => g
  | _ => stuck
def notV (f : MM D) : MM D := MM.bind f fun x => match x with
  | .bool b => MM.pure (.bool !b)
  | _ => stuck
theorem me_one {op} (h : PE X a (mE X.K T c W f)) : PE X (.BoolOp op [a] pos) (mE X.K T c W f) := pe_one h
theorem me_and (ha : PE X a (mE X.K T c W f1)) (hb : PE X (.BoolOp .And (b :: rest) pos) (mE X.K T c W f2)) : PE X (.BoolOp .And (a :: b :: rest) pos) (mE X.K T c W (andV f1 f2)) := by
  refine pe_mono (pe_and ha hb) fun σ H Q ⟨G, ρ, j, p⟩ => ?_
  refine pX_bind j p fun x v ρ1 G1 H1 l1 j1 r1 p1 => ?_
  cases r1 with
  | bl b =>
    refine ⟨b, rfl, ?_⟩
    cases b with
    | true => exact ⟨G1, ρ1, j1, p1⟩
    | false => exact p1.here j1 (.bl false)
  | _ => exact p1.elim
theorem me_not (ha : PE X a (mE X.K T c W f)) : PE X (.UnaryOp .Not a pos) (mE X.K T c W (notV f)) := by
  refine pe_mono (pe_not ha) fun σ H Q ⟨G, ρ, j, p⟩ => ?_
  refine pX_bind j p fun x v ρ1 G1 H1 l1 j1 r1 p1 => ?_
  cases r1 with
  | bl b => exact ⟨b, rfl, p1.here j1 (.bl _)⟩
  | _ => exact p1.elim
def ifE (t : MM Bool) (f g : MM D) : MM D := MM.bind t fun b => if b = true then f else g
theorem me_if {t : Expr} (hc : PT X t (mT X.K T c W g1)) (ha : PE X a (mE X.K T c W f1)) (hb : PE X b (mE X.K T c W f2)) : PE X (.IfExp t a b pos) (mE X.K T c W (ifE g1 f1 f2)) := by
  refine pe_mono (pe_ifExp hc ha hb) fun σ H Q ⟨G, ρ, j, p⟩ => ?_
  refine pX_bind j p fun x v ρ1 G1 H1 l1 j1 r1 p1 => ?_
  cases r1
  cases x with
  | true => exact ⟨G1, ρ1, j1, p1⟩
  | false => exact ⟨G1, ρ1, j1, p1⟩
def chainV (g g' : D → D → Res D) (f1 f2 f3 : MM D) : MM D := MM.bind f1 fun x => MM.bind f2 fun y => MM.bind (lift (g x y)) fun z => match z with
  | .bool true => MM.bind f3 fun u => lift (g' y u)
  | .bool false => MM.pure (.bool false)
  | _ => stuck
theorem chain_to {r r' : R2} {g g' : D → D → Res D} {f3 : MM D} (k : ∀ σ ρ G H x y d e (Q : VK), J X.K T c G H σ ρ → Dq X.K G x d → Dq X.K G y e → pX X.K T c W (relD X.K) σ G Q (lift (g d e) ρ) → r x y H Q)
    (k' : ∀ σ ρ G H x y d e (Q : VK), J X.K T c G H σ ρ → Dq X.K G x d → Dq X.K G y e → pX X.K T c W (relD X.K) σ G Q (lift (g' d e) ρ) → r' x y H Q)
    (σ : St) (H : Hp) (Q : VK) (h : mE X.K T c W (chainV g g' f1 f2 f3) σ H Q) : tChain r r' (mE X.K T c W f1) (mE X.K T c W f2) (mE X.K T c W f3) σ H Q := by
  obtain ⟨G, ρ, j, p⟩ := h
  refine pX_bind j p fun x v ρ1 G1 H1 l1 j1 r1 p1 => ?_
  refine pX_bind j1 p1 fun y w ρ2 G2 H2 l2 j2 r2 p2 => ?_
  refine k σ ρ2 G2 H2 v w x y _ j2 (r1.le l2) r2 ?_
  unfold MM.bind at p2
  cases e : g x y with
  | ok z =>
    rw [e] at p2
    intro u G3 H3 l3 j3 r3
    have p3 := pX.le l3 p2
    cases r3 with
    | bl b =>
      refine ⟨b, rfl, ?_⟩
      cases b with
      | true =>
        rw [if_pos rfl]
        refine pX_bind j3 p3 fun z' w' ρ4 G4 H4 l4 j4 r4 p4 => ?_
        exact k' σ ρ4 G4 H4 w w' y z' Q j4 ((r2.le l3).le l4) r4 p4
      | false =>
        rw [if_neg Bool.false_ne_true]
        exact p3.here j3 (.bl false)
    | _ => exact p3.elim
  | exn z =>
    rw [e] at p2
    exact p2
  | stuck =>
    rw [e] at p2
    exact p2
theorem me_chain {op op' : CmpOp} {g g' : D → D → Res D} {d : Expr} {f3 : MM D} (ho : Op2 X T c W (compareOp op) g) (ho' : Op2 X T c W (compareOp op') g') (ha : PE X a (mE X.K T c W f1)) (hb : PE X b (mE X.K T c W f2)) (hd : PE X d (mE X.K T c W f3))
    (hm : lastMarks [op, op'] [b, d] = false := by with_unfolding_all rfl) : PE X (.Compare a [op, op'] [b, d] pos) (mE X.K T c W (chainV g g' f1 f2 f3)) := by
  obtain ⟨r, h, k⟩ := ho
  obtain ⟨r', h', k'⟩ := ho'
  exact pe_mono (pe_chain h h' ha hb hd hm) (chain_to k k')
theorem mt_chain {op op' : CmpOp} {g g' : D → D → Res D} {d : Expr} {f3 : MM D} (ho : Op2 X T c W (compareOp op) g) (ho' : Op2 X T c W (compareOp op') g') (ha : PE X a (mE X.K T c W f1)) (hb : PE X b (mE X.K T c W f2)) (hd : PE X d (mE X.K T c W f3))
    (hm : lastMarks [op, op'] [b, d] = false := by with_unfolding_all rfl) : PT X (.Compare a [op, op'] [b, d] pos) (mT X.K T c W (tst (chainV g g' f1 f2 f3))) := by
  obtain ⟨r, h, k⟩ := ho
  obtain ⟨r', h', k'⟩ := ho'
  refine pt_mono (pt_chain h h' ha hb hd hm) fun σ H Q ⟨G, ρ, j, p⟩ => ?_
  refine chain_to k k' σ H _ (pX_bind j p fun x v ρ1 G1 H1 l1 j1 r1 p1 => ?_)
  cases r1 with
  | bl b => exact ⟨b, rfl, p1.here j1 rfl⟩
  | _ => exact p1.elim
def consA (f : MM D) (g : MM (List D)) : MM (List D) := MM.bind f fun x => MM.bind g fun xs => MM.pure (x :: xs)
theorem ma_nil : PA X [] (mA X.K T c W (MM.pure [])) := pa_mono pa_nil fun σ H Q ⟨G, ρ, j, p⟩ => p.here j .nil
theorem ma_cons {es : List Expr} {g : MM (List D)} (ha : PE X e (mE X.K T c W f)) (hr : PA X es (mA X.K T c W g)) (hs : starEach (e :: es) X.env = (false, eval e X.env) :: starEach es X.env := by rfl) : PA X (e :: es) (mA X.K T c W (consA f g)) := by
  refine pa_mono (pa_cons ha hr hs) fun σ H Q ⟨G, ρ, j, p⟩ => ?_
  refine pX_bind j p fun x v ρ1 G1 H1 l1 j1 r1 p1 => ?_
  refine pX_bind j1 p1 fun y w ρ2 G2 H2 l2 j2 r2 p2 => ?_
  exact p2.here j2 (.cons (r1.le l2) r2)
def small (n : Nat) : Bool := decide (n ≤ sizeLine)
def mkT (xs : List D) : Res D := if small xs.length = true then .ok (.tuple xs) else .stuck
def mkL (xs : List D) : Res D := if small xs.length = true then .ok (.list xs) else .stuck
def tTupF (t : TA) : TE := fun σ H Q => t σ H fun xs H1 => xs.length ≤ sizeLine ∧ ∀ p o, H1 p = none → o.dict = none → Q (.ref p) (upd H1 p (.frz o (.tup xs)))
theorem laidT {pins : List (Addr × Obj)} {s1 : Shared} {σ : St} {H1 : Hp} {us : List Value} {xs : List V} {Q : VK} {t' : Nat} (I1 : Inv X pins σ H1 s1) (r : Vals xs us) (z : xs.length ≤ sizeLine) (q : ∀ p o, H1 p = none → o.dict = none → Q (.ref p) (upd H1 p (.frz o (.tup xs)))) :
    EP X pins σ Q (.ref s1.heap.objs.size) { s1 with heap := s1.heap.push { cls := .type "tuple", data := .seq us.toArray }, toks := t' } := by
  have hf : H1 s1.heap.objs.size = none := I1.hok.fresh (Nat.le_refl _)
  refine ⟨.ref s1.heap.objs.size, upd H1 s1.heap.objs.size (.frz { cls := .type "tuple", data := .seq us.toArray } (.tup xs)), I1.laid (t' := t') (fun b u e => Heap.get?_push_of_some _ e) (Nat.le_refl _) ?_, rfl, q _ _ hf rfl⟩
  exact ⟨Heap.get?_push_size _ rfl, z, us, r, ⟨_, Heap.get?_push_size _ rfl, rfl, _, rfl⟩⟩
theorem pe_tupF {es : List Expr} {t : TA} {x1} (h : PA X es t) : PE X (.Tuple es x1 pos) (tTupF t) := by
  refine ⟨fun pins s σ H Q I hq => ?_⟩
  refine wpAny_Tuple_spliced (thn (h.run pos pins s σ H _ I hq) fun us s1 ⟨xs, H1, I1, r, z, q⟩ => ⟨by rw [← r.length]; exact z, ?_⟩)
  exact laidT I1 r z q
theorem J.newT {K : Fg} {T : Tb} {c : Gh} {G : Wd} {H : Hp} {σ : St} {ρ : MSt} {p : Addr} {o : Obj} {vs : List V} {ds : List D} (j : J K T c G H σ ρ) (hp : H p = none) (ho : o.dict = none) (r : DqAll K G vs ds) : Dq K (wupd G p (.frz o (.tup vs))) (.ref p) (.tuple ds) :=
  .tup (.inl ⟨o, upd_same, ho⟩) (r.le (Le.upd (j.fresh hp)))
theorem me_tup {es : List Expr} {g : MM (List D)} {x1} (h : PA X es (mA X.K T c W g)) : PE X (.Tuple es x1 pos) (mE X.K T c W (MM.bind g fun xs => lift (mkT xs))) := by
  refine pe_mono (pe_tupF h) fun σ H Q ⟨G, ρ, j, p⟩ => ?_
  refine pX_bind j p fun x v ρ1 G1 H1 l1 j1 r1 p1 => ?_
  unfold mkT at p1
  split at p1
  · rename_i hs
    refine ⟨by rw [r1.length]; exact of_decide_eq_true hs, fun p o hp ho => ?_⟩
    exact p1 _ _ _ (Le.upd (j1.fresh hp)) (j1.grow hp) (j1.newT hp ho r1)
  · exact p1.elim
theorem me_lst {es : List Expr} {g : MM (List D)} (h : PA X es (mA X.K T c W g)) : PE X (.List es pos) (mE X.K T c W (MM.bind g fun xs => lift (mkL xs))) := by
  refine pe_mono (pe_lst h) fun σ H Q ⟨G, ρ, j, p⟩ => ?_
  refine pX_bind j p fun x v ρ1 G1 H1 l1 j1 r1 p1 => ?_
  unfold mkL at p1
  split at p1
  · rename_i hs
    refine ⟨by rw [r1.length]; exact of_decide_eq_true hs, fun p hp => ?_⟩
    exact p1 _ _ _ (Le.upd (j1.fresh hp)) (j1.grow hp) (.lst (.inl upd_same) (r1.le (Le.upd (j1.fresh hp))))
  · exact p1.elim
end
end Mi
set_option Elab.async false
set_option linter.all false
set_option maxRecDepth 100000
set_option maxHeartbeats 4000000
namespace Mi
open PySem L2
inductive Fl where
  | nx | rt (d : D) | bk | ct
section
variable (K : Fg) (T : Tb) (c : Gh) (W : WX)
def pS (Dn : Ends) (G : Wd) : Out Fl → Prop
  | .ok .nx ρ' => ∀ σ' G' H', Le G G' → J K T c G' H' σ' ρ' → Dn.nx σ' H'
  | .ok (.rt d) ρ' => ∀ v σ' G' H', Le G G' → J K T c G' H' σ' ρ' → Dq K G' v d → Dn.rt v H'
  | .ok .bk ρ' => ∀ σ' G' H', Le G G' → J K T c G' H' σ' ρ' → Dn.bk σ' H'
  | .ok .ct ρ' => ∀ σ' G' H', Le G G' → J K T c G' H' σ' ρ' → Dn.ct σ' H'
  | .exn e ρ' => ∀ cls dx σ' G' H', Le G G' → J K T c G' H' σ' ρ' → IsX K G'.hp e cls dx → W cls dx σ' H'
  | .stuck => False
def mS (f : MM Fl) : TS := fun Dn σ H => ∃ G ρ, J K T c G H σ ρ ∧ pS K T c W Dn G (f ρ)
/-- targets: vs the slots that they may change -/
def pG (vs : List Nat) (σ : St) (G : Wd) (Q : St → Hp → Prop) : Option MSt → Prop
  | some ρ' => ∀ σ' G' H', wipe σ' vs = wipe σ vs → Le G G' → J K T c G' H' σ' ρ' → Q σ' H'
  | none => False
def mG (rel : Wd → V → D → Prop) (vs : List Nat) (g : D → MSt → Option MSt) : TG := fun v σ H Q => ∃ G ρ d, J K T c G H σ ρ ∧ rel G v d ∧ pG K T c vs σ G Q (g d ρ)
def mGs (vs : List Nat) (g : List D → MSt → Option MSt) : TGs := fun xs σ H Q => ∃ G ρ ds, J K T c G H σ ρ ∧ DqAll K G xs ds ∧ pG K T c vs σ G Q (g ds ρ)
end
section
variable {K : Fg} {T : Tb} {c : Gh} {W : WX} {Dn : Ends} {G G1 : Wd} {H : Hp} {σ : St} {ρ : MSt} {o : Out Fl}
theorem pS.le (l : Le G G1) (h : pS K T c W Dn G o) : pS K T c W Dn G1 o := by
  cases o with
  | ok a ρ' => cases a with
    | nx => exact fun σ' G' H' l' => h σ' G' H' (l.trans l')
    | rt d => exact fun v σ' G' H' l' => h v σ' G' H' (l.trans l')
    | bk => exact fun σ' G' H' l' => h σ' G' H' (l.trans l')
    | ct => exact fun σ' G' H' l' => h σ' G' H' (l.trans l')
  | exn e ρ' => exact fun cls dx σ' G' H' l' => h cls dx σ' G' H' (l.trans l')
  | stuck => exact h
theorem pS_bind {α β : Type} {rel : Wd → β → α → Prop} {R : β → Hp → Prop} {f : MM α} {g : α → MM Fl} (j : J K T c G H σ ρ) (p : pS K T c W Dn G (MM.bind f g ρ))
    (k : ∀ a b ρ1 G1 H1, Le G G1 → J K T c G1 H1 σ ρ1 → rel G1 b a → pS K T c W Dn G1 (g a ρ1) → R b H1) : mX K T c W rel f σ H R := by
  refine ⟨G, ρ, j, ?_⟩
  unfold MM.bind at p
  cases e : f ρ with
  | ok a ρ1 =>
    rw [e] at p
    exact fun b G1 H1 l j1 r => k a b ρ1 G1 H1 l j1 r (pS.le l p)
  | exn x ρ1 =>
    rw [e] at p
    exact fun cls dx G' H' l j' i => p cls dx σ G' H' l j' i
  | stuck =>
    rw [e] at p
    exact p
end
def seqS (f g : MM Fl) : MM Fl := MM.bind f fun fl => match fl with
  | .nx => g
  | o => MM.pure o
def ifS (t : MM Bool) (f g : MM Fl) : MM Fl := MM.bind t fun b => if b = true then f else g
def setD (i : Nat) (d : D) : MSt → Option MSt := fun ρ => if i + 1 < ρ.length then some (ρ.set i (some (.d d))) else none
section
variable {X : Cx} {T : Tb} {c : Gh} {W : WX} {e : Expr} {f : MM D} {st : Stmt} {rest : List Stmt} {s1 s2 : MM Fl} {pos : Pos}
theorem ms_seq (h1 : PS X st (mS X.K T c W s1)) (h2 : PSs X rest (mS X.K T c W s2)) : PSs X (st :: rest) (mS X.K T c W (seqS s1 s2)) := by
  refine pss_mono (pss_cons h1 h2) fun Dn σ H ⟨G, ρ, j, p⟩ => ⟨G, ρ, j, ?_⟩
  unfold seqS MM.bind at p
  cases e : s1 ρ with
  | ok a ρ1 =>
    rw [e] at p
    cases a with
    | nx => exact fun σ' G' H' l j' => ⟨G', ρ1, j', pS.le l p⟩
    | rt d => exact p
    | bk => exact p
    | ct => exact p
  | exn x ρ1 => rw [e] at p; exact p
  | stuck => rw [e] at p; exact p
theorem ms_nil : PSs X [] (mS X.K T c W (MM.pure .nx)) := pss_mono pss_nil fun Dn σ H ⟨G, ρ, j, p⟩ => p σ G H (Le.refl G) j
theorem ms_one (h1 : PS X st (mS X.K T c W s1)) : PSs X [st] (mS X.K T c W s1) := pss_one h1
def retS (f : MM D) : MM Fl := MM.bind f fun d => MM.pure (.rt d)
theorem ms_ret (he : PE X e (mE X.K T c W f)) : PS X (.Return (some e) pos) (mS X.K T c W (retS f)) := by
  refine ps_mono (ps_ret he) fun Dn σ H ⟨G, ρ, j, p⟩ => ?_
  exact pS_bind j p fun x v ρ1 G1 H1 l1 j1 r1 p1 => p1 v σ G1 H1 (Le.refl G1) j1 r1
def exprS (f : MM D) : MM Fl := MM.bind f fun _ => MM.pure .nx
theorem ms_expr (he : PE X e (mE X.K T c W f)) (hs : swapsWith e none pos.line X.env = pure false := by rfl) : PS X (.Expr e pos) (mS X.K T c W (exprS f)) := by
  refine ps_mono (ps_expr he hs) fun Dn σ H ⟨G, ρ, j, p⟩ => ?_
  exact pS_bind j p fun x v ρ1 G1 H1 l1 j1 r1 p1 => p1 σ G1 H1 (Le.refl G1) j1
theorem ms_if {t : Expr} {a b : List Stmt} {g : MM Bool} (hc : PT X t (mT X.K T c W g)) (ha : PSs X a (mS X.K T c W s1)) (hb : PSs X b (mS X.K T c W s2)) : PS X (.If t a b pos) (mS X.K T c W (ifS g s1 s2)) := by
  refine ps_mono (ps_if hc ha hb) fun Dn σ H ⟨G, ρ, j, p⟩ => ?_
  refine pS_bind j p fun x v ρ1 G1 H1 l1 j1 r1 p1 => ?_
  cases r1
  cases x with
  | true => exact ⟨G1, ρ1, j1, p1⟩
  | false => exact ⟨G1, ρ1, j1, p1⟩
theorem wipe_set {σ : St} {i : Nat} {v : Option V} : ∀ {vs : List Nat}, i ∈ vs → wipe (σ.set i v) vs = wipe σ vs
  | [], h => by cases h
  | k :: vs, h => by
    show (wipe (σ.set i v) vs).set k none = (wipe σ vs).set k none
    by_cases z : i ∈ vs
    · rw [wipe_set z]
    · have e : i = k := by
        rcases List.mem_cons.mp h with e | e
        · exact e
        · exact absurd e z
      subst e
      have : ∀ ws : List Nat, i ∉ ws → (wipe (σ.set i v) ws) = (wipe σ ws).set i v := by
        intro ws
        induction ws with
        | nil => intro _; rfl
        | cons y ws ih =>
          intro hn
          have h1 : i ≠ y := fun q => hn (by rw [q]; exact List.mem_cons_self)
          show (wipe (σ.set i v) ws).set y none = ((wipe σ ws).set y none).set i v
          rw [ih (fun q => hn (List.mem_cons_of_mem _ q)), List.set_comm _ _ h1]
      rw [this vs z, List.set_set]
theorem mg_name {i : Nat} {x : Str} (hN : X.N.Nodup) (hi : X.N[i]? = some x) (hx : Loc X.env.scope x) (hf : X.fn x = true ∨ X.env.scope.names.lookup x = some .local := by first | exact .inl rfl | exact .inr rfl | assumption) : PG X (.Name x pos) (mG X.K T c (relD X.K) [i] (setD i)) := by
  have h := pg_name (X := X) (pos := pos) hN hi hx hf
  refine ⟨fun pins s σ H v u Q I r q => h.run pins s σ H v u Q I r ?_⟩
  obtain ⟨G, ρ, d, j, dq, p⟩ := q
  unfold setD at p
  split at p
  · rename_i hl
    exact p _ G H (wipe_set (by simp)) (Le.refl G) (j.set hl dq)
  · exact p.elim
/-- (a, b, ..): the slots of the names -/
def setMany : List Nat → List D → MSt → Option MSt
  | [], [], ρ => some ρ
  | i :: is, d :: ds, ρ => if i + 1 < ρ.length then setMany is ds (ρ.set i (some (.d d))) else none
  | _, _, _ => none
theorem mgs_nil : PGs X [] (mGs X.K T c [] (setMany [])) := by
  refine ⟨fun pins s σ H vs us Q I r q => (pgs_nil (X := X)).run pins s σ H vs us Q I r ?_⟩
  obtain ⟨G, ρ, ds, j, dq, p⟩ := q
  cases dq with
  | nil => exact ⟨rfl, p σ G H rfl (Le.refl G) j⟩
  | cons _ _ => exact p.elim
theorem wipe_more {σ σ' : St} {i : Nat} : ∀ {vs : List Nat}, wipe σ' vs = wipe σ vs → wipe σ' (i :: vs) = wipe σ (i :: vs) := fun h => by
  show (wipe σ' _).set i none = (wipe σ _).set i none
  rw [h]
theorem mgs_cons {i : Nat} {is : List Nat} {x : Str} {es : List Expr} (hN : X.N.Nodup) (hi : X.N[i]? = some x) (hx : Loc X.env.scope x) (h2 : PGs X es (mGs X.K T c is (setMany is)))
    (hf : X.fn x = true ∨ X.env.scope.names.lookup x = some .local := by first | exact .inl rfl | exact .inr rfl | assumption)
    (hs : (assignEach (.Name x pos :: es) X.env).map (·.2) = assign (.Name x pos) X.env :: (assignEach es X.env).map (·.2) := by rfl) : PGs X (.Name x pos :: es) (mGs X.K T c (i :: is) (setMany (i :: is))) := by
  have h := pgs_cons (X := X) (pg_name (X := X) (pos := pos) hN hi hx hf) h2 hs
  refine ⟨fun pins s σ H vs us Q I r q => h.run pins s σ H vs us Q I r ?_⟩
  obtain ⟨G, ρ, ds, j, dq, p⟩ := q
  cases dq with
  | nil => exact p.elim
  | cons d1 dr =>
    unfold setMany at p
    split at p
    · rename_i hl
      refine ⟨_, _, rfl, G, _, _, j.set hl d1, dr, ?_⟩
      cases e : setMany is _ (ρ.set i (some (.d _))) with
      | none => rw [e] at p; exact p.elim
      | some ρ' =>
        rw [e] at p
        exact fun σ' G' H' w l j' => p σ' G' H' (by
          have := wipe_more (i := i) w
          rw [this, wipe_set List.mem_cons_self]) l j'
    · exact p.elim
def setT (is : List Nat) : D → MSt → Option MSt
  | .tuple ds => setMany is ds
  | _ => fun _ => none
/-- a tuple, be its object told or not -/
abbrev relY (K : Fg) : Wd → V → D → Prop := fun G v d => Dq K G v d ∨ ∃ a xs ds, v = .ref a ∧ d = .tuple ds ∧ SqT K G a xs ∧ DqAll K G xs ds
theorem mg_tup {es : List Expr} {k : Nat} {is : List Nat} (hc : X.calm = true) (h : PGs X es (mGs X.K T c is (setMany is))) (hl : es.length = is.length := by rfl)
    (hn : (assignEach es X.env).length = is.length := by rfl) (hst : (assignEach es X.env).findIdx? (·.1) = none := by rfl) : PG X (.Tuple es k pos) (mG X.K T c (relY X.K) is (setT is)) := by
  have h0 := pg_tup (X := X) (k := k) (pos := pos) hc h hn hst
  refine ⟨fun pins s σ H v u Q I r q => h0.run pins s σ H v u Q I r ?_⟩
  obtain ⟨G, ρ, d, j, dq, p⟩ := q
  have hlen : ∀ (is : List Nat) (ds : List D) (ρ : MSt), ds.length ≠ is.length → setMany is ds ρ = none := by
    intro is
    induction is with
    | nil => intro ds ρ hn; cases ds with | nil => exact absurd rfl hn | cons _ _ => rfl
    | cons i is ih =>
      intro ds ρ hn
      cases ds with
      | nil => rfl
      | cons d ds =>
        unfold setMany
        split
        · exact ih ds _ (by simpa using hn)
        · rfl
  have fin : ∀ {a : Addr} {xs : List V} {ds : List D}, SqT X.K G a xs → DqAll X.K G xs ds → pG X.K T c is σ G Q (setMany is ds ρ) → gTup X.K is.length (mGs X.K T c is (setMany is)) (.ref a) σ H Q := fun {a xs ds} hq hr p => by
    by_cases z : ds.length = is.length
    · exact ⟨a, xs, rfl, sqT_sub hq j.subH, by rw [hr.length, z], G, ρ, ds, j, hr, p⟩
    · rw [hlen is ds ρ z] at p
      exact p.elim
  rcases dq with dq | ⟨a, xs, ds, rfl, rfl, hq, hr⟩
  · cases dq with
    | tup hq hr => exact fin hq.sq hr p
    | _ => exact p.elim
  · exact fin hq hr p
theorem mg_sub {tg : Expr} {vs : List Nat} {g : D → MSt → Option MSt} (h : PG X tg (mG X.K T c (relY X.K) vs g)) : PG X tg (mG X.K T c (relD X.K) vs g) :=
  ⟨fun pins s σ H v u Q I r ⟨G, ρ, d, j, dq, p⟩ => h.run pins s σ H v u Q I r ⟨G, ρ, d, j, .inl dq, p⟩⟩
theorem mg_tupD {es : List Expr} {k : Nat} {is : List Nat} (hc : X.calm = true) (h : PGs X es (mGs X.K T c is (setMany is))) (hl : es.length = is.length := by rfl)
    (hn : (assignEach es X.env).length = is.length := by rfl) (hst : (assignEach es X.env).findIdx? (·.1) = none := by rfl) : PG X (.Tuple es k pos) (mG X.K T c (relD X.K) is (setT is)) := mg_sub (mg_tup hc h hl hn hst)
/-- target = e -/
def asgS (f : MM D) (g : D → MSt → Option MSt) : MM Fl := MM.bind f fun d => fun ρ => match g d ρ with
  | some ρ' => .ok .nx ρ'
  | none => .stuck
theorem ms_set {i : Nat} {x : Str} {pos' : Pos} (hN : X.N.Nodup) (hi : X.N[i]? = some x) (hx : Loc X.env.scope x) (he : PE X e (mE X.K T c W f)) (hs : swapsWith e (some (.Name x pos')) pos.line X.env = pure false := by rfl) (hf : X.fn x = true ∨ X.env.scope.names.lookup x = some .local := by first | exact .inl rfl | exact .inr rfl | assumption) :
    PS X (.Assign [.Name x pos'] e pos) (mS X.K T c W (asgS f (setD i))) := by
  refine ps_mono (ps_set (pos' := pos') hN hi hx he hs hf) fun Dn σ H ⟨G, ρ, j, p⟩ => ?_
  refine pS_bind j p fun x v ρ1 G1 H1 l1 j1 r1 p1 => ?_
  unfold setD at p1
  split at p1
  · rename_i hq
    split at hq
    · rename_i hl
      cases hq
      exact p1 _ G1 H1 (Le.refl G1) (j1.set hl r1)
    · cases hq
  · exact p1.elim
end
end Mi
set_option Elab.async false
set_option linter.all false
set_option maxRecDepth 100000
set_option maxHeartbeats 4000000
namespace Mi
open PySem L2
/-- what is locked stands still -/
def Frm (c : Gh) (H : Hp) : Prop := ∀ a ∈ c.lk, ∀ o, c.H0 a = some o → H a = some o
theorem J.frm {K : Fg} {T : Tb} {c : Gh} {G : Wd} {H : Hp} {σ : St} {ρ : MSt} (j : J K T c G H σ ρ) : Frm c H := fun a m o e => by
  obtain ⟨nM, o', es, h0⟩ := j.mj.wf a m
  rw [h0] at e; cases e
  exact j.fr a _ h0 nM (fun _ z => by cases z)
structure Gives (rel : Wd → V → D → Prop) (Jt : It) (c : Gh) (G0 : Wd) (xs : List D) : Prop where
  go : ∀ i G H, Le G0 G → Lh G H → Frm c H → i < xs.length → Jt.go i H
  stop : ∀ G H, Le G0 G → Lh G H → Frm c H → Jt.stop xs.length H
  yld : ∀ i G H x H', Le G0 G → Lh G H → Frm c H → i < xs.length → Jt.yld i H x H' → ∃ d, xs[i]? = some d ∧ ((H' = H ∧ rel G x d) ∨ ∃ p o, H p = none ∧ (∀ ps, o ≠ .tbl ps) ∧ H' = upd H p o ∧ rel (wupd G p o) x d)
abbrev relI (c : Gh) (rel : Wd → V → D → Prop) : Wd → It → List D → Prop := fun G Jt xs => Gives rel Jt c G xs
def mI (K : Fg) (T : Tb) (c : Gh) (W : WX) (rel : Wd → V → D → Prop) (f : MM (List D)) : TI := mX K T c W (relI c rel) f
theorem gives_list {K : Fg} {c : Gh} {G : Wd} {a : Addr} {vs : List V} {ds : List D} (hq : SqL K G a vs) (hr : DqAll K G vs ds) : Gives (relD K) (Itl K a) c G ds where
  go := fun i G1 H l1 l2 _ hi => by
    have hi' : i < vs.length := by rw [hr.length]; exact hi
    exact ⟨vs, vs[i], sqL_sub (sqL_sub hq l1.sub) l2.sub, by simp [hi']⟩
  stop := fun G1 H l1 l2 _ => ⟨vs, sqL_sub (sqL_sub hq l1.sub) l2.sub, by rw [hr.length]; exact Nat.le_refl _⟩
  yld := fun i G1 H x H' l1 l2 _ hi y => by
    obtain ⟨e, y⟩ := y
    have hx := y vs (sqL_sub (sqL_sub hq l1.sub) l2.sub)
    obtain ⟨d, e1, e2⟩ := hr.get hx
    exact ⟨d, e1, .inl ⟨e, e2.le l1⟩⟩
theorem gives_tup {K : Fg} {c : Gh} {G : Wd} {a : Addr} {vs : List V} {ds : List D} (hq : SqT K G a vs) (hr : DqAll K G vs ds) : Gives (relD K) (Itt K a) c G ds where
  go := fun i G1 H l1 l2 _ hi => by
    have hi' : i < vs.length := by rw [hr.length]; exact hi
    exact ⟨vs, vs[i], sqT_sub (sqT_sub hq l1.sub) l2.sub, by simp [hi']⟩
  stop := fun G1 H l1 l2 _ => ⟨vs, sqT_sub (sqT_sub hq l1.sub) l2.sub, by rw [hr.length]; exact Nat.le_refl _⟩
  yld := fun i G1 H x H' l1 l2 _ hi y => by
    obtain ⟨e, y⟩ := y
    have hx := y vs (sqT_sub (sqT_sub hq l1.sub) l2.sub)
    obtain ⟨d, e1, e2⟩ := hr.get hx
    exact ⟨d, e1, .inl ⟨e, e2.le l1⟩⟩
def charsD (s : Str) : List D := s.cps.toList.map fun ch => .str ⟨#[ch]⟩
theorem gives_str {K : Fg} {c : Gh} {G : Wd} {s : Str} : Gives (relD K) (Its s) c G (charsD s) where
  go := fun i G1 H l1 l2 _ hi => by
    simp only [charsD, List.length_map, Array.length_toList] at hi
    exact hi
  stop := fun G1 H l1 l2 _ => by
    show s.cps.size ≤ (charsD s).length
    simp [charsD]
  yld := fun i G1 H x H' l1 l2 _ hi y => by
    obtain ⟨e, ch, h1, h2⟩ := y
    refine ⟨.str ⟨#[ch]⟩, ?_, .inl ⟨e, by rw [h2]; exact .str _⟩⟩
    simp only [charsD, List.getElem?_map, Array.getElem?_toList, h1]
    rfl
section
variable {X : Cx} {T : Tb} {c : Gh} {W : WX} {e tg iter : Expr} {f : MM D} {pos : Pos}
theorem pi_seq {te : TE} (he : PE X e te) : PI X tg e (fun σ H R => te σ H fun x H1 => (∃ a, x = .ref a ∧ (∃ xs, SqL X.K H1 a xs) ∧ R (Itl X.K a) H1) ∨ (∃ a, x = .ref a ∧ (∃ xs, SqT X.K H1 a xs) ∧ R (Itt X.K a) H1) ∨ ∃ s, x = .str s ∧ R (Its s) H1) := by
  refine ⟨fun pins s σ H R I h => ?_⟩
  refine thn (he.run pins s σ H _ I h) fun v s1 ⟨x, H1, I1, r1, q1⟩ => ?_
  rcases q1 with ⟨a, e, hq, q⟩ | ⟨a, e, hq, q⟩ | ⟨z, e, q⟩
  · subst e
    cases r1
    obtain ⟨xs, hq⟩ := hq
    obtain ⟨its, rv, p, hz⟩ := I1.list hq
    refine wpAny_pyIter_list p.isList ?_
    refine ⟨s1.heap.objs.size, [s1.heap.objs.size], _, _, H1, rfl, I1.kept (t' := s1.toks) fun b o e => Heap.get?_push_of_some _ e, turn_list a _, ⟨_, Heap.get?_push_size _ rfl, rfl, rfl⟩, fun b hb => ?_, q⟩
    have e : b = s1.heap.objs.size := by simpa using hb
    subst e
    exact I1.fpOk (Nat.le_refl _) (I1.hok.fresh (Nat.le_refl _))
  · subst e
    cases r1
    obtain ⟨xs, hq⟩ := hq
    obtain ⟨its, rv, p, hz⟩ := I1.tuple hq
    refine wpAny_pyIter_tuple (show s1.heap.IsTuple a its.toArray from p) ?_
    refine ⟨s1.heap.objs.size, [s1.heap.objs.size], _, _, H1, rfl, I1.kept (t' := s1.toks) fun b o e => Heap.get?_push_of_some _ e, turn_tuple a _, ⟨_, Heap.get?_push_size _ rfl, rfl, rfl⟩, fun b hb => ?_, q⟩
    have e : b = s1.heap.objs.size := by simpa using hb
    subst e
    exact I1.fpOk (Nat.le_refl _) (I1.hok.fresh (Nat.le_refl _))
  · subst e
    obtain ⟨t, rfl⟩ := r1
    cases ha : z.cps.all (· < 128)
    · exact wpAny_pyIter_wide ha (pi_one (tk := s1.toks) I1 _ (turn_str _ z t "str_iterator" (.inr rfl)) ⟨_, Heap.get?_push_size _ rfl, rfl, rfl⟩ q)
    · exact wpAny_pyIter_ascii ha (pi_one (tk := s1.toks) I1 _ (turn_str _ z t "str_ascii_iterator" (.inl rfl)) ⟨_, Heap.get?_push_size _ rfl, rfl, rfl⟩ q)
def upTo (lo : Int) (n : Nat) : List D := (List.range n).map fun (i : Nat) => .int (lo + i)
theorem gives_range {K : Fg} {c : Gh} {G : Wd} {lo : Int} {n : Nat} : Gives (relD K) (Itr lo n) c G (upTo lo n) where
  go := fun i G1 H l1 l2 _ hi => by show i < n; simpa [upTo] using hi
  stop := fun G1 H l1 l2 _ => by show n ≤ _; simp [upTo]
  yld := fun i G1 H x H' l1 l2 _ hi y => by
    obtain ⟨e, h2⟩ := y
    refine ⟨.int (lo + i), ?_, .inl ⟨e, by rw [h2]; exact .int _⟩⟩
    have hi' : i < n := by simpa [upTo] using hi
    simp [upTo, hi']
def inB (i : Int) : Bool := decide (-(2 ^ 62) ≤ i) && decide (i < 2 ^ 62)
theorem inB_ok {i : Int} (h : inB i = true) : -(2 ^ 62) ≤ i ∧ i < 2 ^ 62 := by
  unfold inB at h
  simpa using h
def range1 : List D → Res (List D)
  | [.int j] => if inB j = true then .ok (upTo 0 j.toNat) else .stuck
  | _ => .stuck
def range2 : List D → Res (List D)
  | [.int i, .int j] => if inB i = true ∧ inB j = true then .ok (upTo i (j - i).toNat) else .stuck
  | _ => .stuck
theorem mi_range1 {a : Expr} {g : MM (List D)} {p : Pos} (hg : Gl X "range") (hm : X.mg "range" = none) (ha : PA X [a] (mA X.K T c W g)) (hs : starEach [a] X.env = [(false, eval a X.env)] := by rfl) :
    PI X tg (.Call (.Name "range" p) [a] [] pos) (mI X.K T c W (relD X.K) (MM.bind g fun ds => lift (range1 ds))) := by
  refine ⟨fun pins s σ H R I h => (pi_range1 (tg := tg) hg hm ha hs).run pins s σ H R I ?_⟩
  obtain ⟨G, ρ, j, p⟩ := h
  refine pX_bind j p fun ds vs ρ1 G1 H1 l1 j1 r1 p1 => ?_
  cases r1 with
  | nil => exact p1.elim
  | cons d1 r1 =>
    cases r1 with
    | cons _ _ => cases d1 <;> exact p1.elim
    | nil =>
      cases d1 with
      | int k =>
        have p2 : pX X.K T c W (relI c (relD X.K)) σ G1 R (lift (if inB k = true then .ok (upTo 0 k.toNat) else .stuck) ρ1) := p1
        by_cases hk : inB k = true
        · rw [if_pos hk] at p2
          exact ⟨k, rfl, (inB_ok hk).1, (inB_ok hk).2, p2 _ G1 H1 (Le.refl G1) j1 gives_range⟩
        · rw [if_neg hk] at p2
          exact p2.elim
      | _ => exact p1.elim
def forD (g : D → MSt → Option MSt) (b : MM Fl) : List D → MM Fl
  | [] => MM.pure .nx
  | x :: xs => fun ρ => match g x ρ with
    | none => .stuck
    | some ρ1 => match b ρ1 with
      | .ok .nx ρ2 => forD g b xs ρ2
      | .ok .ct ρ2 => forD g b xs ρ2
      | .ok .bk ρ2 => .ok .nx ρ2
      | .ok (.rt d) ρ2 => .ok (.rt d) ρ2
      | .exn y ρ2 => .exn y ρ2
      | .stuck => .stuck
theorem drop_cons {xs : List D} {i : Nat} {d : D} (h : xs[i]? = some d) : xs.drop i = d :: xs.drop (i + 1) := by
  obtain ⟨hi, e⟩ := List.getElem?_eq_some_iff.mp h
  rw [List.drop_eq_getElem_cons hi, e]
theorem ms_for {body : List Stmt} {vs : List Nat} {g : D → MSt → Option MSt} {b : MM Fl} {fi : MM (List D)} {rel : Wd → V → D → Prop} (hp : PassesOwn (model X.prog X.w) X.A X.env X.xe) (hc : X.calm = true) (hi : PI X tg iter (mI X.K T c W rel fi)) (hg : PG X tg (mG X.K T c rel vs g)) (hb : PSs X body (mS X.K T c W b))
    (hs : ∀ x, foldedSetIterable iter X.env x = pure x := by intro _; rfl) : PS X (.For tg iter body [] pos) (mS X.K T c W (MM.bind fi (forD g b))) := by
  refine ps_mono (ps_for hp hc hi hg hb hs) fun Dn σ H ⟨G, ρ, j, p⟩ => ?_
  refine pS_bind j p fun xs Jt ρ1 G1 H1 l1 j1 r1 p1 => ?_
  refine ⟨fun i m σ H => m = xs.length - i ∧ i ≤ xs.length ∧ ∃ G ρ, Le G1 G ∧ J X.K T c G H σ ρ ∧ pS X.K T c W Dn G (forD g b (xs.drop i) ρ), ⟨xs.length, by simp, Nat.zero_le _, G1, ρ1, Le.refl G1, j1, by simpa using p1⟩, ?_⟩
  rintro i m σ2 H2 ⟨rfl, hi, G2, ρ2, l2, j2, p2⟩
  by_cases hlt : i < xs.length
  · refine .inr ⟨r1.go i G2 H2 l2 j2.sub j2.frm hlt, fun σ' H' => ∃ G ρ, Le G1 G ∧ J X.K T c G H' σ' ρ ∧ pS X.K T c W Dn G (forD g b (xs.drop (i + 1)) ρ), fun σ' H' q => ⟨xs.length - (i + 1), by omega, rfl, hlt, q⟩, fun x H3 y => ?_⟩
    obtain ⟨d, hd, q⟩ := r1.yld i G2 H2 x H3 l2 j2.sub j2.frm hlt y
    obtain ⟨G3, l3, j3, dq⟩ : ∃ G3, Le G2 G3 ∧ J X.K T c G3 H3 σ2 ρ2 ∧ rel G3 x d := by
      rcases q with ⟨rfl, dq⟩ | ⟨p, o, hn, nt, rfl, dq⟩
      · exact ⟨G2, Le.refl _, j2, dq⟩
      · exact ⟨_, Le.upd (j2.fresh hn), j2.grow hn nt, dq⟩
    rw [drop_cons hd] at p2
    refine ⟨G3, ρ2, d, j3, dq, ?_⟩
    unfold forD at p2
    cases e : g d ρ2 with
    | none => rw [e] at p2; exact p2.elim
    | some ρ3 =>
      rw [e] at p2
      intro σ' G4 H4 _ l4 j4
      refine ⟨G4, ρ3, j4, ?_⟩
      have l : Le G1 G4 := (l2.trans l3).trans l4
      have p3 := pS.le (l3.trans l4) p2
      cases e2 : b ρ3 with
      | ok a ρ4 =>
        simp only [e2] at p3
        cases a with
        | nx => exact fun σ5 G5 H5 l5 j5 => ⟨G5, ρ4, l.trans l5, j5, pS.le l5 p3⟩
        | ct => exact fun σ5 G5 H5 l5 j5 => ⟨G5, ρ4, l.trans l5, j5, pS.le l5 p3⟩
        | bk => exact p3
        | rt d => exact p3
      | exn y ρ4 => simp only [e2] at p3; exact p3
      | stuck => simp only [e2] at p3; exact p3.elim
  · have e : i = xs.length := by omega
    subst e
    rw [List.drop_length] at p2
    exact .inl ⟨r1.stop G2 H2 l2 j2.sub j2.frm, p2 σ2 G2 H2 (Le.refl G2) j2⟩
end
end Mi
set_option Elab.async false
set_option linter.all false
set_option maxRecDepth 100000
set_option maxHeartbeats 4000000
namespace Mi
open PySem L2
theorem pe_ex {X : Cx} {e : Expr} {t : Gh → TE} (h : ∀ c, PE X e (t c)) : PE X e (fun σ H Q => ∃ c, t c σ H Q) := ⟨fun pins s σ H Q I ⟨c, q⟩ => (h c).run pins s σ H Q I q⟩
theorem pts_ex {X : Cx} {e : List Expr} {t : Gh → TT} (h : ∀ c, PTs X e (t c)) : PTs X e (fun σ H Q => ∃ c, t c σ H Q) := ⟨fun pins s σ H Q I ⟨c, q⟩ => (h c).run pins s σ H Q I q⟩
theorem pg_ex {X : Cx} {e : Expr} {t : Gh → TG} (h : ∀ c, PG X e (t c)) : PG X e (fun v σ H Q => ∃ c, t c v σ H Q) := ⟨fun pins s σ H v u Q I r ⟨c, q⟩ => (h c).run pins s σ H v u Q I r q⟩
theorem mts_nil {X : Cx} {T : Tb} {c : Gh} {W : WX} : PTs X [] (mT X.K T c W (MM.pure true)) := ⟨fun pins s σ H Q I ⟨G, ρ, j, p⟩ => pts_nil.run pins s σ H Q I (p.here j rfl)⟩
theorem wipe_in {σ : St} {i : Nat} : ∀ {vs : List Nat}, i ∈ vs → i < σ.length → (wipe σ vs)[i]? = some none
  | [], h, _ => by cases h
  | v :: vs, h, hi => by
    show ((wipe σ vs).set v none)[i]? = some none
    by_cases z : i = v
    · subst z; rw [List.getElem?_set_self (by rw [wipe_length]; exact hi)]
    · rw [List.getElem?_set_ne (Ne.symm z)]
      exact wipe_in ((List.mem_cons.mp h).resolve_left z) hi
theorem wipe_wipe (σ : St) (vs : List Nat) : wipe (wipe σ vs) vs = wipe σ vs := by
  apply List.ext_getElem?
  intro i
  by_cases h : i ∈ vs
  · by_cases hi : i < σ.length
    · rw [wipe_in h (by rw [wipe_length]; exact hi), wipe_in h hi]
    · rw [List.getElem?_eq_none (by rw [wipe_length, wipe_length]; omega), List.getElem?_eq_none (by rw [wipe_length]; omega)]
  · rw [wipe_out h]
theorem wipeM_out {ρ : MSt} {i : Nat} : ∀ {vs : List Nat}, i ∉ vs → (wipeM ρ vs)[i]? = ρ[i]?
  | [], _ => rfl
  | v :: vs, h => by
    show ((wipeM ρ vs).set v none)[i]? = ρ[i]?
    rw [List.getElem?_set_ne (fun z => h (by rw [z]; exact List.mem_cons_self))]
    exact wipeM_out fun z => h (List.mem_cons_of_mem _ z)
def keepd : Option (Option S) → Option S
  | some (some (.d x)) => some (.d x)
  | _ => none
def restore (os : List Nat) (ρ ρ' : MSt) : MSt := (List.range ρ.length).map fun (i : Nat) => if i ∈ os then keepd ρ[i]? else (ρ'[i]?).getD none
theorem restore_at {os : List Nat} {ρ ρ' : MSt} {i : Nat} {s : S} (h : (restore os ρ ρ')[i]? = some (some s)) : (i ∈ os ∧ ∃ x, s = .d x ∧ ρ[i]? = some (some (.d x))) ∨ (i ∉ os ∧ ρ'[i]? = some (some s)) := by
  unfold restore at h
  rw [List.getElem?_map] at h
  cases e : (List.range ρ.length)[i]? with
  | none => rw [e] at h; cases h
  | some k =>
    rw [e] at h
    have hk : k = i := by
      obtain ⟨h1, h2⟩ := List.getElem?_eq_some_iff.mp e
      rw [← h2]; simp
    subst hk
    simp only [Option.map_some, Option.some.injEq] at h
    by_cases z : k ∈ os
    · rw [if_pos z] at h
      unfold keepd at h
      split at h
      · rename_i x hx
        cases h
        exact .inl ⟨z, x, rfl, hx⟩
      · cases h
    · rw [if_neg z] at h
      refine .inr ⟨z, ?_⟩
      cases q : ρ'[k]? with
      | none => rw [q] at h; cases h
      | some o => rw [q] at h; simp only [Option.getD_some] at h; rw [h]
theorem J.restore {K : Fg} {T : Tb} {c : Gh} {G G1 : Wd} {H H1 : Hp} {σ : St} {ρ1 ρe : MSt} {os : List Nat} (j1 : J K T c G1 H1 σ ρ1) (l : Le G1 G) (j : J K T c G H (L2.wipe σ os) (wipeM ρe os)) : J K T c G H σ (Mi.restore os ρ1 ρe) := by
  refine j.refit (by unfold Mi.restore; rw [List.length_map, List.length_range]; exact j1.len) (by rw [wipe_length]) fun i s e => ?_
  rcases restore_at e with ⟨z, x, rfl, q⟩ | ⟨z, q⟩
  · obtain ⟨v, h1, h2⟩ := j1.sl i _ q
    exact .inr ⟨x, v, rfl, h1, Dq.le h2 l⟩
  · exact .inl ⟨by rw [wipeM_out z]; exact q, wipe_out z⟩
def W0 : WX := fun _ _ _ _ => False
def compD (os : List Nat) (g : D → MSt → Option MSt) (t : MM Bool) (e : MM D) : List D → List D → MM (List D)
  | [], acc => MM.pure acc
  | x :: xs, acc => fun ρ => match g x (wipeM ρ os) with
    | none => .stuck
    | some ρ1 => match t ρ1 with
      | .ok true ρ2 => match e ρ2 with
        | .ok y ρ3 => if acc.length < sizeLine then compD os g t e xs (acc ++ [y]) ρ3 else .stuck
        | _ => .stuck
      | .ok false ρ2 => compD os g t e xs acc ρ2
      | _ => .stuck
def compL (os : List Nat) (g : D → MSt → Option MSt) (t : MM Bool) (e : MM D) (xs : List D) : MM D := fun ρ => match compD os g t e xs [] ρ with
  | .ok ys ρe => .ok (.list ys) (restore os ρ ρe)
  | _ => .stuck
theorem upd_here {H : Hp} {a b : Addr} {o u : HO} (h : H a = some u) (n : H b = none) : upd H b o a = some u := by rw [upd_ne (ne_of_none h n)]; exact h
section
variable {X : Cx} {T : Tb} {c : Gh} {W : WX} {elt tg iter : Expr} {ifs : List Expr} {scope : Scope} {own : List (Str × Nat)} {pos spos : Pos} {fi : MM (List D)} {rel : Wd → V → D → Prop} {g : D → MSt → Option MSt} {t : MM Bool} {e : MM D} {os : List Nat}
abbrev xG (K : Fg) (T : Tb) (rel : Wd → V → D → Prop) (os : List Nat) (g : D → MSt → Option MSt) : TG := fun v σ H Q => ∃ c, mG K T c rel os g v σ H Q
abbrev xT (K : Fg) (T : Tb) (t : MM Bool) : TT := fun σ H Q => ∃ c, mT K T c W0 t σ H Q
abbrev xE (K : Fg) (T : Tb) (e : MM D) : TE := fun σ H Q => ∃ c, mE K T c W0 e σ H Q
theorem lc_to (σ : St) (H : Hp) (Q : VK) (h : mE X.K T c W (MM.bind fi (compL os g t e)) σ H Q) : tLc (mI X.K T c W rel fi) (xG X.K T rel os g) (xT X.K T t) (xE X.K T e) os σ H Q := by
  obtain ⟨G, ρ, j, p⟩ := h
  refine pX_bind j p fun xs Jt ρ1 G1 H1 l1 j1 r1 p1 => ?_
  intro D hD1
  have h0 : c.H0 D = none ∨ D ∈ c.M := j1.H0none hD1
  have pc0 : (match compD os g t e xs [] ρ1 with | .ok ys ρe => ∀ v G' H', Le G1 G' → J X.K T c G' H' σ (restore os ρ1 ρe) → Dq X.K G' v (.list ys) → Q v H' | _ => False) := by
    unfold compL at p1
    cases q : compD os g t e xs [] ρ1 with
    | ok ys ρe => rw [q] at p1; exact p1
    | exn y ρe => rw [q] at p1; exact p1.elim
    | stuck => rw [q] at p1; exact p1.elim
  refine ⟨fun i m H => m = xs.length - i ∧ i ≤ xs.length ∧ ∃ G ρb vs acc, Le G1 G ∧ J X.K T c G H (wipe σ os) (wipeM ρb os) ∧ H D = some (.lst vs) ∧ G D = none ∧ DqAll X.K G vs acc ∧ (D ∉ owns (wipe σ os) (wipeM ρb os) ∧ D ∉ G.m) ∧
      (match compD os g t e (xs.drop i) acc ρb with | .ok ys ρe => ∀ v G' H', Le G1 G' → J X.K T c G' H' σ (restore os ρ1 ρe) → Dq X.K G' v (.list ys) → Q v H' | _ => False),
    ⟨xs.length, by simp, Nat.zero_le _, G1, ρ1, [], [], Le.refl G1, (j1.wipe os).aside hD1, upd_same, j1.fresh hD1, .nil, ⟨(j1.wipe os).notOwn hD1, j1.freshM hD1⟩, by simpa using pc0⟩, ?_⟩
  rintro i m H2 ⟨rfl, hi, G2, ρb, vs, acc, l2, j2, hD, hGD, dqa, no, pc⟩
  by_cases hlt : i < xs.length
  · refine .inr ⟨r1.go i G2 H2 l2 j2.sub j2.frm hlt, fun H => ∃ G ρb vs acc, Le G1 G ∧ J X.K T c G H (wipe σ os) (wipeM ρb os) ∧ H D = some (.lst vs) ∧ G D = none ∧ DqAll X.K G vs acc ∧ (D ∉ owns (wipe σ os) (wipeM ρb os) ∧ D ∉ G.m) ∧
        (match compD os g t e (xs.drop (i + 1)) acc ρb with | .ok ys ρe => ∀ v G' H', Le G1 G' → J X.K T c G' H' σ (restore os ρ1 ρe) → Dq X.K G' v (.list ys) → Q v H' | _ => False),
      fun H' q => ⟨xs.length - (i + 1), by omega, rfl, hlt, q⟩, fun x H3 y => ?_⟩
    obtain ⟨d, hd, q⟩ := r1.yld i G2 H2 x H3 l2 j2.sub j2.frm hlt y
    obtain ⟨G3, l3, j3, dq, hD3, hGD3, nm3⟩ : ∃ G3, Le G2 G3 ∧ J X.K T c G3 H3 (wipe σ os) (wipeM ρb os) ∧ rel G3 x d ∧ H3 D = some (.lst vs) ∧ G3 D = none ∧ D ∉ G3.m := by
      rcases q with ⟨rfl, dq⟩ | ⟨p, o, hn, nt, rfl, dq⟩
      · exact ⟨G2, Le.refl _, j2, dq, hD, hGD, no.2⟩
      · exact ⟨_, Le.upd (j2.fresh hn), j2.grow hn nt, dq, upd_here hD hn, by show upd G2.hp p o D = none; rw [upd_ne (ne_of_none hD hn)]; exact hGD, no.2⟩
    rw [drop_cons hd] at pc
    unfold compD at pc
    cases eg : g d (wipeM ρb os) with
    | none => simp only [eg] at pc
    | some ρ2 =>
      simp only [eg] at pc
      refine ⟨here c G3 H3 (wipe σ os) (wipeM ρb os), G3, wipeM ρb os, d, j3.here, dq, ?_⟩
      rw [eg]
      intro σ' G4 H4 hw l4 j4
      have hw' : wipe σ' os = wipe σ os := by rw [hw, wipe_wipe]
      refine ⟨hw', here c G3 H3 (wipe σ os) (wipeM ρb os), G4, ρ2, j4, ?_⟩
      have fin : ∀ {G5 : Wd} {H5 : Hp} {ρ5 : MSt}, J X.K T (here c G3 H3 (wipe σ os) (wipeM ρb os)) G5 H5 σ' ρ5 → J X.K T c G5 H5 (wipe σ os) (wipeM ρ5 os) ∧ H5 D = some (.lst vs) ∧ G5 D = none ∧ D ∉ owns (wipe σ os) (wipeM ρ5 os) ∧ D ∉ G5.m := fun {G5 H5 ρ5} j5 => by
        have jw := j5.wipe os
        rw [hw'] at jw
        have nh := not_here (c := c) (H := H3) (G := G3) (σ := wipe σ os) (ρ := wipeM ρb os) ⟨no.1, nm3⟩
        have h3 : (here c G3 H3 (wipe σ os) (wipeM ρb os)).H0 D ≠ none := by show H3 D ≠ none; rw [hD3]; exact fun z => by cases z
        exact ⟨j3.back jw, j5.fr D _ hD3 nh (fun _ z => by cases z), j5.gn D hGD3 h3 nh, jw.apart h3 nh nm3⟩
      cases et : t ρ2 with
      | ok b ρ3 =>
        simp only [et] at pc
        intro b' G5 H5 l5 j5 rb
        cases rb
        cases b with
        | true =>
          rw [if_pos rfl]
          refine ⟨here c G3 H3 (wipe σ os) (wipeM ρb os), G5, ρ3, j5, ?_⟩
          cases ee : e ρ3 with
          | ok y ρ4 =>
            simp only [ee] at pc
            intro v G6 H6 l6 j6 dv
            obtain ⟨f1, f2, f3, f4⟩ := fin j6
            by_cases hz : acc.length < sizeLine
            · rw [if_pos hz] at pc
              have l : Le G2 G6 := ((l3.trans l4).trans l5).trans l6
              refine ⟨vs, f2, by rw [dqa.length]; exact hz, G6, ρ4, vs ++ [v], acc ++ [y], l2.trans l, f1.write f3 f2 (fun _ z => by cases z) (fun _ _ z => by unfold LamX.CodeO at z; cases z) h0 f4.1 f4.2, upd_same, f3, (dqa.le l).app (.one dv), f4, pc⟩
            · rw [if_neg hz] at pc
              exact pc.elim
          | exn y ρ4 => simp only [ee] at pc
          | stuck => simp only [ee] at pc
        | false =>
          rw [if_neg Bool.false_ne_true]
          obtain ⟨f1, f2, f3, f4⟩ := fin j5
          have l : Le G2 G5 := (l3.trans l4).trans l5
          exact ⟨G5, ρ3, vs, acc, l2.trans l, f1, f2, f3, dqa.le l, f4, pc⟩
      | exn y ρ3 => simp only [et] at pc
      | stuck => simp only [et] at pc
  · have ei : i = xs.length := by omega
    subst ei
    rw [List.drop_length] at pc
    refine .inl ⟨r1.stop G2 H2 l2 j2.sub j2.frm, ?_⟩
    have js := j2.still hGD hD h0 no.1 no.2
    have l : Le G1 (wupd G2 D (.lst vs)) := l2.trans (Le.upd hGD)
    exact pc (.ref D) _ H2 l (j1.restore l js) (.lst (.inl upd_same) (dqa.le (Le.upd hGD)))
theorem me_lc (hc : X.calm = true) (hN : X.N.Nodup) (hi : PI X tg iter (mI X.K T c W rel fi)) (ok : BlkOk X.N X.env.scope scope own) (ho : own.map (·.2) = os)
    (hg : ∀ (c : Gh) (s : Shared) (H : Hp) (C : Addr) (cl : List (Str × Addr)) (fp : List Addr), PG (X.blk s H scope (compEnvC scope cl C X.env) fp) tg (mG X.K T c rel os g)) (ht : ∀ (c : Gh) (s : Shared) (H : Hp) (C : Addr) (cl : List (Str × Addr)) (fp : List Addr), PTs (X.blk s H scope (compEnvC scope cl C X.env) fp) ifs (mT X.K T c W0 t))
    (he : ∀ (c : Gh) (s : Shared) (H : Hp) (C : Addr) (cl : List (Str × Addr)) (fp : List Addr), PE (X.blk s H scope (compEnvC scope cl C X.env) fp) elt (mE X.K T c W0 e)) (hs : ∀ x, foldedSetIterable iter X.env x = pure x := by intro _; rfl) :
    PE X (.ListComp elt [⟨tg, iter, ifs, 0⟩] scope pos) (mE X.K T c W (MM.bind fi (compL os g t e))) := by
  subst ho
  exact pe_mono (pe_lc hc hN hi ok (fun s H C cl fp => pg_ex fun c => hg c s H C cl fp) (fun s H C cl fp => pts_ex fun c => ht c s H C cl fp) (fun s H C cl fp => pe_ex fun c => he c s H C cl fp) hs) lc_to
end
end Mi
set_option Elab.async false
set_option linter.all false
set_option maxRecDepth 100000
set_option maxHeartbeats 4000000
namespace Mi
open PySem L2
section
variable {X : Cx} {T : Tb} {c : Gh} {W : WX} {a b e : Expr} {f f1 f2 : MM D} {pos : Pos}
/-- an operator by a rule for each kind -/
theorem Op2.mk {f : Value → Value → Sem Value} {g : D → D → Res D} {r : R2} (h : OpR X f r)
    (k : ∀ G H x y d e q (Q : VK), Lh G H → Dq X.K G x d → Dq X.K G y e → g d e = .ok q → ((∀ v, Dq X.K G v q → Q v H) ∧ ∀ p o, H p = none → (∀ ps, o ≠ .tbl ps) → Dq X.K (wupd G p o) (.ref p) q → Q (.ref p) (upd H p o)) → r x y H Q)
    (nx : ∀ d e y, g d e ≠ .exn y) : Op2 X T c W f g := by
  refine ⟨r, h, fun σ ρ G H x y d e Q j dx dy p => ?_⟩
  cases q : g d e with
  | ok z =>
    rw [q] at p
    refine k G H x y d e z Q j.sub dx dy q ⟨fun v dv => p.here j dv, fun p' o hn nt dv => ?_⟩
    exact p _ _ _ (Le.upd (j.fresh hn)) (j.grow hn nt) dv
  | exn y => exact absurd q (nx d e y)
  | stuck => rw [q] at p; exact p.elim
def intOp (g : Int → Int → Res D) : D → D → Res D
  | .int i, .int j => g i j
  | _, _ => .stuck
def dSub : D → D → Res D := intOp fun i j => .ok (.int (i - j))
def dLe : D → D → Res D := intOp fun i j => .ok (.bool (decide (i ≤ j)))
def dGt : D → D → Res D := intOp fun i j => .ok (.bool (decide (j < i)))
def dGe : D → D → Res D := intOp fun i j => .ok (.bool (decide (j ≤ i)))
def dFdiv : D → D → Res D := intOp fun i j => if 0 < j ∧ j.natAbs.log2 < 9000 then .ok (.int (i / j)) else .stuck
def dMod : D → D → Res D := intOp fun i j => if 0 < j then .ok (.int (i % j)) else .stuck
theorem o_sub : Op2 X T c W (binaryOp .Sub) dSub := Op2.mk op_sub (fun G H x y d e q Q l dx dy hq k => by
  cases dx <;> cases dy <;> first | (cases hq; exact ⟨_, _, rfl, rfl, k.1 _ (.int _)⟩) | (exact nomatch hq)) fun d e y z => by cases d <;> cases e <;> exact nomatch z
theorem o_le : Op2 X T c W (compareOp .LtE) dLe := Op2.mk op_le (fun G H x y d e q Q l dx dy hq k => by
  cases dx <;> cases dy <;> first | (cases hq; exact ⟨_, _, rfl, rfl, k.1 _ (.bl _)⟩) | (exact nomatch hq)) fun d e y z => by cases d <;> cases e <;> exact nomatch z
theorem o_gt : Op2 X T c W (compareOp .Gt) dGt := Op2.mk op_gt (fun G H x y d e q Q l dx dy hq k => by
  cases dx <;> cases dy <;> first | (cases hq; exact ⟨_, _, rfl, rfl, k.1 _ (.bl _)⟩) | (exact nomatch hq)) fun d e y z => by cases d <;> cases e <;> exact nomatch z
theorem o_ge : Op2 X T c W (compareOp .GtE) dGe := Op2.mk op_ge (fun G H x y d e q Q l dx dy hq k => by
  cases dx <;> cases dy <;> first | (cases hq; exact ⟨_, _, rfl, rfl, k.1 _ (.bl _)⟩) | (exact nomatch hq)) fun d e y z => by cases d <;> cases e <;> exact nomatch z
theorem ite_res {α : Type} {P : Prop} [Decidable P] {u v : α} (h : (if P then Res.ok u else .stuck) = .ok v) : P ∧ u = v := by
  by_cases p : P
  · rw [if_pos p] at h; cases h; exact ⟨p, rfl⟩
  · rw [if_neg p] at h; cases h
theorem ite_nx {α : Type} {P : Prop} [Decidable P] {u : α} {y : Exn} (h : (if P then Res.ok u else .stuck) = .exn y) : False := by
  by_cases p : P
  · rw [if_pos p] at h; cases h
  · rw [if_neg p] at h; cases h
theorem o_fdiv : Op2 X T c W (binaryOp .FloorDiv) dFdiv := Op2.mk op_fdivW (fun G H x y d e q Q l dx dy hq k => by
  cases dx with
  | int i =>
    cases dy with
    | int j => obtain ⟨p, rfl⟩ := ite_res hq; exact ⟨_, _, rfl, rfl, p, k.1 _ (.int _)⟩
    | _ => exact nomatch hq
  | _ => cases dy <;> exact nomatch hq) fun d e y z => by cases d <;> cases e <;> first | (exact ite_nx z) | (exact nomatch z)
theorem o_mod : Op2 X T c W (binaryOp .Mod) dMod := Op2.mk op_mod (fun G H x y d e q Q l dx dy hq k => by
  cases dx with
  | int i =>
    cases dy with
    | int j => obtain ⟨p, rfl⟩ := ite_res hq; exact ⟨_, _, rfl, rfl, p, k.1 _ (.int _)⟩
    | _ => exact nomatch hq
  | _ => cases dy <;> exact nomatch hq) fun d e y z => by cases d <;> cases e <;> first | (exact ite_nx z) | (exact nomatch z)
/-- < of ints, of texts -/
def dLt : D → D → Res D
  | .int i, .int j => .ok (.bool (decide (i < j)))
  | .str i, .str j => .ok (.bool (decide (i.cps.toList < j.cps.toList)))
  | _, _ => .stuck
theorem o_lt : Op2 X T c W (compareOp .Lt) dLt := Op2.mk (op_lt.or op_lt_str) (fun G H x y d e q Q l dx dy hq k => by
  cases dx <;> cases dy <;> first | (cases hq; exact .inl ⟨_, _, rfl, rfl, k.1 _ (.bl _)⟩) | (cases hq; exact .inr ⟨_, _, rfl, rfl, k.1 _ (.bl _)⟩) | (exact nomatch hq)) fun d e y z => by cases d <;> cases e <;> exact nomatch z
theorem inv_lst {pins : List (Addr × Obj)} {s : Shared} {σ : St} {H : Hp} {l : Addr} {xs : List V} (I : Inv X pins σ H s) (h : Rd H l (.lst xs)) : xs.length ≤ sizeLine ∧ ∃ (its : List Value) (n : Nat), Vals xs its ∧ xs.length = its.length ∧ s.heap.get? l = some { cls := .type "list", data := .seq its.toArray n } := by
  obtain ⟨z, its, n, r, e⟩ := h.ok I.hok
  exact ⟨z, its, n, r, r.length, e⟩
def rCatL : R2 := fun x y H Q => ∃ l b xs zs, x = .ref l ∧ y = .ref b ∧ Rd H l (.lst xs) ∧ Rd H b (.lst zs) ∧ xs.length + zs.length ≤ sizeLine ∧ ∀ p, H p = none → Q (.ref p) (upd H p (.lst (xs ++ zs)))
theorem op_catL : OpR X (binaryOp .Add) rCatL := by
  intro pins s σ H x y v u Q I rx ry h
  obtain ⟨l, b, xs, zs, rfl, rfl, hH, hB, hz, q⟩ := h
  cases rx
  cases ry
  obtain ⟨z, its, n, r, hl, e⟩ := inv_lst I hH
  obtain ⟨z2, its2, n2, r2, hl2, e2⟩ := inv_lst I hB
  refine PySem.P.add_list e e2 ?_ (by rw [List.size_toArray, List.size_toArray]; omega)
  have ea : its.toArray ++ its2.toArray = (its ++ its2).toArray := by simp
  rw [ea]
  exact ⟨.ref _, _, I.lnew (t' := s.toks) (r.append r2) (by rw [List.length_append]; omega), rfl, q _ I.fresh⟩
def rRepL : R2 := fun x y H Q => ∃ l k xs, x = .ref l ∧ y = .int k ∧ Rd H l (.lst xs) ∧ -(2 ^ 63) ≤ k ∧ k < 2 ^ 63 ∧ xs.length * k.toNat ≤ sizeLine ∧
  ∀ p, H p = none → Q (.ref p) (upd H p (.lst (List.replicate k.toNat xs).flatten))
theorem op_repL : OpR X (binaryOp .Mult) rRepL := by
  intro pins s σ H x y v u Q I rx ry h
  obtain ⟨l, k, xs, rfl, rfl, hH, h1, h2, hz, q⟩ := h
  cases rx
  obtain ⟨t, rfl⟩ := ry
  obtain ⟨z, its, n, r, hl, e⟩ := inv_lst I hH
  have hlen : its.toArray.size * k.toNat ≤ sizeLine := by rw [List.size_toArray, ← hl]; exact hz
  have hcap : ¬ its.toArray.size * k.toNat > (2 ^ 63 - 1) / 8 := by
    have : (sizeLine : Nat) ≤ (2 ^ 63 - 1) / 8 := by decide
    omega
  have hfit : ¬ (!Builtin.List.listFitsIndex k) = true := by
    rw [fitsIndex_both h1 h2]
    exact Bool.false_ne_true
  have hlong : ¬ Builtin.List.listTooLong (its.toArray.size * k.toNat) = true := by
    rw [notLongL hlen]
    exact Bool.false_ne_true
  have hnew : List.foldl (fun x1 x2 => x1 ++ x2) #[] (List.replicate (if its.toArray.isEmpty = true then 0 else k.toNat) its.toArray) = (List.replicate k.toNat its).flatten.toArray := by
    have f0 : ∀ m : Nat, List.foldl (fun x1 x2 => x1 ++ x2) #[] (List.replicate m its.toArray) = (List.replicate m its).flatten.toArray := fun m => by
      have := foldl_rep its m []
      rw [List.nil_append] at this
      exact this
    rw [f0]
    cases its with
    | nil => simp
    | cons a r' => rw [if_neg (by simp)]
  refine wpAny_binaryOp_repeat_ref (T := "list") (U := "int") (by decide) ⟨_, e, rfl⟩ (fun s' => typeIs_int s' k t) noFill_list_mul F.fills_int_mul F.slot_int_rmul repeat_list F.slot_int_index.lookup
    (call_meets F.slot_int_rmul (typeIs_int s k t) F.entry_int_rmul (F.args_int_rmul_2 _ _) (int___rmul___int_list k t l its.toArray n)
      ⟨e, rfl, ⟨_, e, rfl⟩, call_meets F.slot_list_mul ⟨_, e, rfl⟩ F.entry_list_mul (F.args_list_mul_2 _ _) (AutoListH.list___mul___list_int_3 l its.toArray n k t hfit hcap hlong) ⟨e, ?_⟩⟩)
  rw [hnew]
  exact ⟨.ref _, _, I.lnew (t' := s.toks) (r.rep k.toNat) (by rw [PyProof.Rows.lm_len_rep_flat, Nat.mul_comm]; exact hz), rfl, q _ I.fresh⟩
/-- t + u; a new tuple's object is told -/
def rCatF (K : Fg) : R2 := fun x y H Q => ∃ a b xs ys, x = .ref a ∧ y = .ref b ∧ SqT K H a xs ∧ SqT K H b ys ∧ xs.length + ys.length ≤ sizeLine ∧
  (xs = [] → Q (.ref b) H) ∧ (xs ≠ [] → ys = [] → Q (.ref a) H) ∧ (xs ≠ [] → ys ≠ [] → ∀ p o, H p = none → o.dict = none → Q (.ref p) (upd H p (.frz o (.tup (xs ++ ys)))))
theorem op_catF : OpR X (binaryOp .Add) (rCatF X.K) := by
  intro pins s σ H x y v u Q I rx ry h
  obtain ⟨a, b, xs, ys, rfl, rfl, ha, hb, hz, q0, q1, q2⟩ := h
  cases rx
  cases ry
  obtain ⟨its, r1, p1, _⟩ := I.tuple ha
  obtain ⟨its2, r2, p2, _⟩ := I.tuple hb
  by_cases hx : xs = []
  · subst hx
    cases r1
    exact cat_tup0 p1 p2 ⟨.ref b, H, I, rfl, q0 rfl⟩
  · refine HT.cat_tup p1 p2 (fun z => hx (r1.nil_iff.mp z)) (fun z => ⟨.ref a, H, I, rfl, q1 hx (r2.nil_iff.mp z)⟩) (fun z => ?_) (by rw [← r1.length, ← r2.length]; exact hz)
    exact laidT (t' := s.toks) I (r1.append r2) (by rw [List.length_append]; exact hz) (q2 hx (fun w => z (r2.nil_iff.mpr w)))
/-- + -/
def dAdd : D → D → Res D
  | .int i, .int j => .ok (.int (i + j))
  | .str i, .str j => if i.length + j.length ≤ sizeLine then .ok (.str (i ++ j)) else .stuck
  | .list xs, .list ys => if xs.length + ys.length ≤ sizeLine then .ok (.list (xs ++ ys)) else .stuck
  | .tuple xs, .tuple ys => if xs.length + ys.length ≤ sizeLine then .ok (.tuple (xs ++ ys)) else .stuck
  | _, _ => .stuck
theorem o_add : Op2 X T c W (binaryOp .Add) dAdd := Op2.mk (op_add.or (op_add_str.or (op_catL.or op_catF))) (fun G H x y d e q Q l dx dy hq k => by
  cases dx with
  | int i => cases dy <;> first | (cases hq; exact .inl ⟨_, _, rfl, rfl, k.1 _ (.int _)⟩) | (exact nomatch hq)
  | str i => cases dy <;> first | (obtain ⟨p, rfl⟩ := ite_res hq; exact .inr (.inl ⟨_, _, rfl, rfl, p, k.1 _ (.str _)⟩)) | (exact nomatch hq)
  | lst h1 h2 =>
    cases dy with
    | lst h3 h4 =>
      obtain ⟨p, rfl⟩ := ite_res hq
      refine .inr (.inr (.inl ⟨_, _, _, _, rfl, rfl, l.sub.rd _ _ (fun _ _ z => by cases z) h1, l.sub.rd _ _ (fun _ _ z => by cases z) h3, by rw [h2.length, h4.length]; exact p, fun p hp => k.2 p _ hp (by intro _ z; cases z) ?_⟩))
      have hG : G p = none := by
        cases z : G p with
        | none => rfl
        | some o => have := l p o z; rw [hp] at this; cases this
      exact .lst (.inl upd_same) ((h2.app h4).le (Le.upd hG))
    | _ => exact nomatch hq
  | tup h1 h2 =>
    cases dy with
    | tup h3 h4 =>
      obtain ⟨p, rfl⟩ := ite_res hq
      refine .inr (.inr (.inr ⟨_, _, _, _, rfl, rfl, sqT_sub h1.sq l.sub, sqT_sub h3.sq l.sub, by rw [h2.length, h4.length]; exact p, fun e => ?_, fun _ e => ?_, fun _ _ p o hp ho => k.2 p _ hp (by intro _ z; cases z) ?_⟩))
      · subst e
        cases h2
        exact k.1 _ (.tup h3 h4)
      · subst e
        cases h4
        rw [List.append_nil] at k
        exact k.1 _ (.tup h1 h2)
      · have hG : G p = none := by
          cases z : G p with
          | none => rfl
          | some o => have := l p o z; rw [hp] at this; cases this
        exact .tup (.inl ⟨o, upd_same, ho⟩) ((h2.app h4).le (Le.upd hG))
    | _ => exact nomatch hq
  | _ => cases dy <;> exact nomatch hq) fun d e y z => by cases d <;> cases e <;> first | (exact ite_nx z) | (exact nomatch z)
/-- * -/
def mulOk (i j : Int) : Bool := decide (-(2 ^ 64) < i) && decide (i < 2 ^ 64) || decide (-(2 ^ 64) < j) && decide (j < 2 ^ 64) || decide (i.natAbs.log2 + j.natAbs.log2 < 1000000)
def dMul : D → D → Res D
  | .int i, .int j => if mulOk i j = true then .ok (.int (i * j)) else .stuck
  | .list xs, .int k => if -(2 ^ 63) ≤ k ∧ k < 2 ^ 63 ∧ xs.length * k.toNat ≤ sizeLine then .ok (.list (List.replicate k.toNat xs).flatten) else .stuck
  | _, _ => .stuck
theorem DqAll.rep {K : Fg} {G : Wd} {vs : List V} {ds : List D} (h : DqAll K G vs ds) : ∀ n : Nat, DqAll K G (List.replicate n vs).flatten (List.replicate n ds).flatten
  | 0 => .nil
  | n + 1 => by
    rw [List.replicate_succ, List.replicate_succ, List.flatten_cons, List.flatten_cons]
    exact h.app (DqAll.rep h n)
theorem o_mul : Op2 X T c W (binaryOp .Mult) dMul := Op2.mk (op_mul.or (op_mulW.or op_repL)) (fun G H x y d e q Q l dx dy hq k => by
  cases dx with
  | int i =>
    cases dy with
    | int j =>
      obtain ⟨p, rfl⟩ := ite_res hq
      unfold mulOk at p
      simp only [Bool.or_eq_true, Bool.and_eq_true, decide_eq_true_eq] at p
      rcases p with p | p
      · exact .inl ⟨_, _, rfl, rfl, p, k.1 _ (.int _)⟩
      · exact .inr (.inl ⟨_, _, rfl, rfl, p, k.1 _ (.int _)⟩)
    | _ => exact nomatch hq
  | lst h1 h2 =>
    cases dy with
    | int j =>
      obtain ⟨⟨p1, p2, p3⟩, rfl⟩ := ite_res hq
      refine .inr (.inr ⟨_, _, _, rfl, rfl, l.sub.rd _ _ (fun _ _ z => by cases z) h1, p1, p2, by rw [h2.length]; exact p3, fun p hp => k.2 p _ hp (by intro _ z; cases z) ?_⟩)
      have hG : G p = none := by
        cases z : G p with
        | none => rfl
        | some o => have := l p o z; rw [hp] at this; cases this
      exact .lst (.inl upd_same) ((h2.rep _).le (Le.upd hG))
    | _ => exact nomatch hq
  | _ => cases dy <;> exact nomatch hq) fun d e y z => by cases d <;> cases e <;> first | (exact ite_nx z) | (exact nomatch z)
mutual
def noDict : D → Bool
  | .dict _ => false
  | .loc _ => false
  | .exc _ => false
  | .fn _ => false
  | .list xs => noDicts xs
  | .tuple xs => noDicts xs
  | _ => true
def noDicts : List D → Bool
  | [] => true
  | x :: xs => noDict x && noDicts xs
end
mutual
theorem dp_of {K : Fg} {G : Wd} : ∀ {v : V} {d : D}, Dq K G v d → noDict d = true → Dp K G v d.py
  | _, _, .non, _ => .non
  | _, _, .bl b, _ => .bl b
  | _, _, .int i, _ => .int i
  | _, _, .str x, _ => .str x
  | _, _, .lst h t, n => .lst (.inl h) (dpAll_of t n)
  | _, _, .tup h t, n => .tup h.sq (dpAll_of t n)
  | _, _, .dic h t, n => by cases n
  | _, _, .loc h, n => by cases n
theorem dpAll_of {K : Fg} {G : Wd} : ∀ {vs : List V} {ds : List D}, DqAll K G vs ds → noDicts ds = true → DpAll K G vs (pys ds)
  | _, _, .nil, _ => .nil
  | _, _, .cons h t, n => by
    obtain ⟨n1, n2⟩ := Bool.and_eq_true_iff.mp (show (noDict _ && noDicts _) = true from n)
    exact .cons (dp_of h n1) (dpAll_of t n2)
end
def eqOk (d : D) : Bool := noDict d && SeqAt.shaped d.py
def dEq (d e : D) : Res D := if eqOk d = true ∧ eqOk e = true then .ok (.bool (D.eqv d e)) else .stuck
def dNe (d e : D) : Res D := if eqOk d = true ∧ eqOk e = true then .ok (.bool (!D.eqv d e)) else .stuck
theorem o_eq (hu : X.A.units + 64 < cLine) : Op2 X T c W (compareOp .Eq) dEq := Op2.mk (op_eqD hu) (fun G H x y d e q Q l dx dy hq k => by
  obtain ⟨⟨p1, p2⟩, rfl⟩ := ite_res hq
  obtain ⟨n1, s1⟩ := Bool.and_eq_true_iff.mp p1
  obtain ⟨n2, s2⟩ := Bool.and_eq_true_iff.mp p2
  exact ⟨d.py, e.py, dp_of (dx.up l) n1, dp_of (dy.up l) n2, s1, s2, k.1 _ (.bl _)⟩) fun d e y z => ite_nx z
theorem o_ne (hu : X.A.units + 64 < cLine) : Op2 X T c W (compareOp .NotEq) dNe := Op2.mk (op_neD hu) (fun G H x y d e q Q l dx dy hq k => by
  obtain ⟨⟨p1, p2⟩, rfl⟩ := ite_res hq
  obtain ⟨n1, s1⟩ := Bool.and_eq_true_iff.mp p1
  obtain ⟨n2, s2⟩ := Bool.and_eq_true_iff.mp p2
  exact ⟨d.py, e.py, dp_of (dx.up l) n1, dp_of (dy.up l) n2, s1, s2, k.1 _ (.bl _)⟩) fun d e y z => ite_nx z
def isNone : D → Bool
  | .none => true
  | _ => false
def dIs : D → D → Res D
  | d, .none => .ok (.bool (isNone d))
  | .bool a, .bool b => .ok (.bool (decide (a = b)))
  | _, _ => .stuck
def dIsNot : D → D → Res D
  | d, .none => .ok (.bool (!isNone d))
  | .bool a, .bool b => .ok (.bool (!decide (a = b)))
  | _, _ => .stuck
def flatD : D → Bool
  | .none | .bool _ | .int _ | .str _ => true
  | _ => false
def inSeq (x : D) (xs : List D) : Bool := xs.any fun y => D.eqv y x
/-- the key that a datum is -/
def keyOf : D → Option Key
  | .int i => some (.inl i)
  | .str s => some (.inr s)
  | _ => none
def hasKey (k : D) (kvs : List (D × D)) : Bool := kvs.any fun p => D.eqv p.1 k
def valAt (kvs : List (D × D)) (k : D) : Option D := (kvs.find? fun p => D.eqv p.1 k).map (·.2)
theorem keyOf_keyD {d : D} {k : Key} (h : keyOf d = some k) : d = keyD k := by
  cases d <;> first | (cases h; rfl) | (exact nomatch h)
theorem eqv_key (k k' : Key) : D.eqv (keyD k) (keyD k') = decide (k = k') := by
  cases k with
  | inl i => cases k' with
    | inl j => show (i == j) = _; rw [key_ll]
    | inr j => show false = _; rw [key_lr]
  | inr i => cases k' with
    | inl j => show false = _; rw [key_rl]
    | inr j =>
      show (i == j) = _
      rw [key_rr, Bool.beq_eq_decide_eq]
theorem dqkv_val {K : Fg} {G : Wd} {k : Key} : ∀ {kvs : List (Key × V)} {ds : List (D × D)}, DqKV K G kvs ds → (valV kvs k = none ∧ valAt ds (keyD k) = none) ∨ ∃ v d, valV kvs k = some v ∧ valAt ds (keyD k) = some d ∧ Dq K G v d
  | _, _, .nil => .inl ⟨rfl, rfl⟩
  | _, _, .cons (k := k') (v := v) (d := d) h t => by
    by_cases z : k' = k
    · refine .inr ⟨v, d, valV_pos z, ?_, h⟩
      unfold valAt
      rw [List.find?_cons, eqv_key]
      simp [z]
    · rcases dqkv_val (k := k) t with ⟨h1, h2⟩ | ⟨v2, d2, h1, h2, h3⟩
      · refine .inl ⟨(valV_neg z).trans h1, ?_⟩
        unfold valAt at h2 ⊢
        rw [List.find?_cons, eqv_key]
        simp only [z, decide_false]
        exact h2
      · refine .inr ⟨v2, d2, (valV_neg z).trans h1, ?_, h3⟩
        unfold valAt at h2 ⊢
        rw [List.find?_cons, eqv_key]
        simp only [z, decide_false]
        exact h2
theorem valAt_has (kvs : List (D × D)) (k : D) : (valAt kvs k).isSome = hasKey k kvs := by
  unfold valAt hasKey
  rw [Option.isSome_map, Bool.eq_iff_iff, List.find?_isSome, List.any_eq_true]
end
end Mi
set_option Elab.async false
set_option linter.all false
set_option maxRecDepth 100000
set_option maxHeartbeats 4000000
namespace Mi
open PySem L2
section
variable {X : Cx} {T : Tb} {c : Gh} {W : WX} {a b e : Expr} {f f1 f2 : MM D} {pos : Pos}
theorem le_none {G : Wd} {H : Hp} {p : Addr} (l : Lh G H) (h : H p = none) : G p = none := by
  cases z : G p with
  | none => rfl
  | some o => have := l p o z; rw [h] at this; cases this
theorem eqV_eqv {K : Fg} {G : Wd} {x y : V} {d e : D} (hx : Dq K G x d) (hy : Dq K G y e) (fx : flatD d = true) (fy : flatD e = true) : eqV x y = D.eqv d e := by
  cases hx <;> cases hy <;> first | rfl | (cases fx; done) | (cases fy; done)
theorem flat_V {K : Fg} {G : Wd} {x : V} {d : D} (hx : Dq K G x d) (fx : flatD d = true) : flatV x = true := by
  cases hx <;> first | rfl | (cases fx)
theorem flat_all {K : Fg} {G : Wd} : ∀ {xs : List V} {ds : List D}, DqAll K G xs ds → ds.all flatD = true → xs.all flatV = true
  | _, _, .nil, _ => rfl
  | _, _, .cons h t, n => by
    rw [List.all_cons, Bool.and_eq_true] at n ⊢
    exact ⟨flat_V h n.1, flat_all t n.2⟩
theorem in_all {K : Fg} {G : Wd} {x : V} {d : D} (hx : Dq K G x d) (fx : flatD d = true) : ∀ {xs : List V} {ds : List D}, DqAll K G xs ds → ds.all flatD = true → inV x xs = inSeq d ds
  | _, _, .nil, _ => rfl
  | _, _, .cons h t, n => by
    rw [List.all_cons, Bool.and_eq_true] at n
    unfold inV inSeq
    rw [List.any_cons, List.any_cons, eqV_eqv h hx n.1 fx]
    exact congrArg _ (in_all hx fx t n.2)
/-- in: a sign in a text, a flat thing in a list or tuple of such, a key in a dict -/
def inB0 (x y : D) : Option Bool := match y with
  | .str z => (match x with
    | .str s => (match s.cps.toList with
      | [ch] => some (decide (ch ∈ z.cps.toList))
      | _ => none)
    | _ => none)
  | .list ys => if flatD x = true ∧ ys.all flatD = true then some (inSeq x ys) else none
  | .tuple ys => if flatD x = true ∧ ys.all flatD = true then some (inSeq x ys) else none
  | .dict kvs => (match keyOf x with
    | some _ => some (hasKey x kvs)
    | none => none)
  | _ => none
def dIn (x y : D) : Res D := match inB0 x y with
  | some b => .ok (.bool b)
  | none => .stuck
def dNotIn (x y : D) : Res D := match inB0 x y with
  | some b => .ok (.bool !b)
  | none => .stuck
def rDIn (neg : Bool) : R2 := fun x y H Q => ∃ a o, y = .ref a ∧ DGet H a x o ∧ Q (.bl (if neg then !o.isSome else o.isSome)) H
theorem op_din (hu : X.A.units + 1 < cLine) : OpR X (compareOp .In) (rDIn false) := by
  intro pins s σ H x y v u Q I rx ry h
  obtain ⟨a, o, rfl, g, q⟩ := h
  cases ry
  exact d_in hu I g rx fun s' I' => ⟨.bl _, H, I', rfl, q⟩
theorem op_dnotin (hu : X.A.units + 1 < cLine) : OpR X (compareOp .NotIn) (rDIn true) := by
  intro pins s σ H x y v u Q I rx ry h
  obtain ⟨a, o, rfl, g, q⟩ := h
  cases ry
  exact d_notIn hu I g rx fun s' I' => ⟨.bl _, H, I', rfl, q⟩
theorem dq_key {K : Fg} {G : Wd} {v : V} {k : Key} (h : Dq K G v (keyD k)) : v = kV k := by
  cases k <;> (cases h; rfl)
theorem dqkv_has {K : Fg} {G : Wd} {k : Key} {kvs : List (Key × V)} {ds : List (D × D)} (h2 : DqKV K G kvs ds) : (valV kvs k).isSome = hasKey (keyD k) ds := by
  rw [← valAt_has]
  rcases dqkv_val (k := k) h2 with ⟨q1, q2⟩ | ⟨v, d, q1, q2, _⟩
  · rw [q1, q2]; rfl
  · rw [q1, q2]; rfl
theorem str_one {s : Str} {ch : Nat} (h : s.cps.toList = [ch]) : s = ⟨#[ch]⟩ := by
  obtain ⟨⟨l⟩⟩ := s
  simp only at h
  subst h
  rfl
def rInAll (K : Fg) (neg : Bool) : R2 := fun x y H Q => (∃ (ch : Nat) (z : Str), x = .str ⟨#[ch]⟩ ∧ y = .str z ∧ Q (.bl (if neg then !decide (ch ∈ z.cps.toList) else decide (ch ∈ z.cps.toList))) H) ∨ rIn K neg x y H Q ∨ rDIn neg x y H Q
theorem in_read {K : Fg} {neg : Bool} {G : Wd} {H : Hp} {x y : V} {d e : D} {b : Bool} {Q : VK} (l : Lh G H) (dx : Dq K G x d) (dy : Dq K G y e) (h : inB0 d e = some b) (q : Q (.bl (if neg then !b else b)) H) : rInAll K neg x y H Q := by
  cases dy with
  | str z =>
    cases dx with
    | str s =>
      unfold inB0 at h
      simp only at h
      split at h
      · rename_i ch hs
        cases h
        exact .inl ⟨ch, z, by rw [str_one hs], rfl, q⟩
      · cases h
    | _ => exact nomatch h
  | lst h1 h2 =>
    unfold inB0 at h
    simp only at h
    split at h
    · rename_i hp
      cases h
      refine .inr (.inl ⟨_, _, rfl, .inl (sqL_sub (.inl h1) l.sub), flat_V dx hp.1, flat_all h2 hp.2, ?_⟩)
      rw [in_all dx hp.1 h2 hp.2]; exact q
    · cases h
  | tup h1 h2 =>
    unfold inB0 at h
    simp only at h
    split at h
    · rename_i hp
      cases h
      refine .inr (.inl ⟨_, _, rfl, .inr (sqT_sub h1.sq l.sub), flat_V dx hp.1, flat_all h2 hp.2, ?_⟩)
      rw [in_all dx hp.1 h2 hp.2]; exact q
    · cases h
  | dic h1 h2 =>
    unfold inB0 at h
    simp only at h
    split at h
    · rename_i k hk
      cases h
      have e := keyOf_keyD hk
      subst e
      have ev := dq_key dx
      subst ev
      refine .inr (.inr ⟨_, _, rfl, .inl ⟨_, k, l.sub.rd _ _ (fun _ _ z => by cases z) h1.rd, rfl, rfl⟩, ?_⟩)
      rw [dqkv_has (k := k) h2]; exact q
    · cases h
  | _ => exact nomatch h
theorem o_in (hu : X.A.units + 1 < cLine) : Op2 X T c W (compareOp .In) dIn := Op2.mk (op_in_sign.or (op_in_seq.or (op_din hu))) (fun G H x y d e q Q l dx dy hq k => by
  unfold dIn at hq
  cases h : inB0 d e with
  | none => rw [h] at hq; cases hq
  | some b =>
    rw [h] at hq
    cases hq
    exact in_read (neg := false) l dx dy h (k.1 _ (.bl _))) fun d e y z => by
  unfold dIn at z
  split at z <;> cases z
theorem o_notIn (hu : X.A.units + 1 < cLine) : Op2 X T c W (compareOp .NotIn) dNotIn := Op2.mk (op_notIn_sign.or (op_notIn_seq.or (op_dnotin hu))) (fun G H x y d e q Q l dx dy hq k => by
  unfold dNotIn at hq
  cases h : inB0 d e with
  | none => rw [h] at hq; cases hq
  | some b =>
    rw [h] at hq
    cases hq
    exact in_read (neg := true) l dx dy h (k.1 _ (.bl _))) fun d e y z => by
  unfold dNotIn at z
  split at z <;> cases z
def dIx : D → D → Res D
  | .list xs, .int i => (match atI xs i with | some d => .ok d | none => .stuck)
  | .tuple xs, .int i => (match atI xs i with | some d => .ok d | none => .stuck)
  | .dict kvs, k => (match keyOf k with | some _ => (match valAt kvs k with | some d => .ok d | none => .stuck) | none => .stuck)
  | _, _ => .stuck
theorem dq_at {K : Fg} {G : Wd} {vs : List V} {ds : List D} {i : Int} {d : D} (h : DqAll K G vs ds) (e : atI ds i = some d) : ∃ v, atI vs i = some v ∧ Dq K G v d := by
  unfold atI at e ⊢
  rw [h.length]
  cases z : ixN ds.length i with
  | none => rw [z] at e; cases e
  | some k =>
    rw [z] at e
    obtain ⟨v, h1, h2⟩ := h.getD (i := k) (d := d) e
    exact ⟨v, h1, h2⟩
theorem ix_d (hu : X.A.units + 1 < cLine) : IxR X (fun x y H Q => ∃ a v, x = .ref a ∧ DGet H a y (some v) ∧ Q v H) := by
  intro value slice pins s σ H x y v u Q I rx ry h hs
  obtain ⟨a, w', rfl, g, q⟩ := h
  cases rx
  have hT := dict_typeIs I g
  have h2 : wpAny (model X.prog X.w) X.A (getItem (.ref a) u) (EP X pins σ Q) X.xe s := d_getItem hu I g ry fun w2 s3 I3 rw' => ⟨w', H, I3, rw', q⟩
  unfold PyProof.Rows.subscriptTail
  refine wpAny_bind ?_
  rw [getitemInPython_of_ne hT.not_modules]
  refine wpAny_bind (wpAny_specialOf hT PySem.F.slot_dict_getitem.lookup ?_)
  have fin : wpAny (model X.prog X.w) X.A (subscripted slice false (.ref a) u) (fun r s₃ => wpAny (model X.prog X.w) X.A (letTemporaryGo value (.ref a) r >>= fun _ => pure r) (EP X pins σ Q) X.xe s₃) X.xe s := by
    rw [hs]
    exact wpAny_operating (wpAny_mono h2 (fun r s₃ h₃ => wpAny_bind (wpAny_letTemporaryGo (wpAny_pure h₃))) fun _ _ x => x)
  first
    | exact wpAny_pure (wpAny_bind fin)
    | exact wpAny_bind (wpAny_pure (wpAny_bind fin))
    | exact wpAny_bind fin
theorem me_ix (hu : X.A.units + 1 < cLine) (ha : PE X a (mE X.K T c W f1)) (hb : PE X b (mE X.K T c W f2)) (hs : PlainIx b) : PE X (.Subscript a b pos) (mE X.K T c W (op2 dIx f1 f2)) := by
  refine pe_mono (pe_ix (ix_list.or (ix_tup.or (ix_d hu))) ha hb hs) (op2_to fun σ ρ G H x y d e Q j dx dy p => ?_)
  cases dx with
  | lst h1 h2 =>
    cases dy with
    | int i =>
      rename_i ds
      have p2 : pX X.K T c W (relD X.K) σ G Q (lift (match atI ds i with | some d => Res.ok d | none => .stuck) ρ) := p
      cases z : atI ds i with
      | none => rw [z] at p2; exact p2.elim
      | some q =>
        rw [z] at p2
        obtain ⟨v, q1, q2⟩ := dq_at h2 z
        exact .inl ⟨_, _, i, v, rfl, rfl, sqL_sub (.inl h1) j.subH, q1, p2.here j q2⟩
    | _ => exact p.elim
  | tup h1 h2 =>
    cases dy with
    | int i =>
      rename_i ds
      have p2 : pX X.K T c W (relD X.K) σ G Q (lift (match atI ds i with | some d => Res.ok d | none => .stuck) ρ) := p
      cases z : atI ds i with
      | none => rw [z] at p2; exact p2.elim
      | some q =>
        rw [z] at p2
        obtain ⟨v, q1, q2⟩ := dq_at h2 z
        exact .inr (.inl ⟨_, _, i, v, rfl, rfl, sqT_sub h1.sq j.subH, q1, p2.here j q2⟩)
    | _ => exact p.elim
  | dic h1 h2 =>
    rename_i ad kvs ds
    have p2 : pX X.K T c W (relD X.K) σ G Q (lift (match keyOf e with | some _ => (match valAt ds e with | some d => Res.ok d | none => .stuck) | none => .stuck) ρ) := by
      cases e <;> exact p
    cases hk : keyOf e with
    | none => rw [hk] at p2; exact p2.elim
    | some k =>
      rw [hk] at p2
      have ee := keyOf_keyD hk
      subst ee
      have ev := dq_key dy
      subst ev
      rcases dqkv_val (k := k) h2 with ⟨q1, q2⟩ | ⟨v, d, q1, q2, q3⟩
      · simp only [q2] at p2; exact p2.elim
      · simp only [q2] at p2
        exact .inr (.inr ⟨_, v, rfl, .inl ⟨_, k, j.subH.rd _ _ (fun _ _ z => by cases z) h1.rd, rfl, q1.symm⟩, p2.here j q3⟩)
  | _ => exact p.elim
/-- a part of a slice -/
def partN : MM (Option Int) := MM.pure none
def partS (f : MM D) : MM (Option Int) := MM.bind f fun d => match d with
  | .int i => MM.pure (some i)
  | _ => stuck
abbrev relO : Wd → Option Int → Option Int → Prop := fun _ a b => a = b
theorem mo_none : PO X none (mX X.K T c W relO partN) := ⟨fun pins s σ H Q I ⟨G, ρ, j, p⟩ => po_none.run pins s σ H Q I (p.here j rfl)⟩
theorem mo_some (h : PE X e (mE X.K T c W f)) : PO X (some e) (mX X.K T c W relO (partS f)) := ⟨fun pins s σ H Q I ⟨G, ρ, j, p⟩ => (po_some h).run pins s σ H Q I (pX_bind j p fun x v ρ1 G1 H1 l1 j1 r1 p1 => by
  cases r1 with
  | int i => exact ⟨i, rfl, p1.here j1 rfl⟩
  | _ => exact p1.elim)⟩
def cutD (xs : List D) (lo hi : Option Int) : List D := (xs.drop (HT.sIx xs.length 0 lo)).take (HT.sIx xs.length xs.length hi - HT.sIx xs.length 0 lo)
theorem dq_cut {K : Fg} {G : Wd} {vs : List V} {ds : List D} (h : DqAll K G vs ds) (lo hi : Option Int) : DqAll K G (cutV vs lo hi) (cutD ds lo hi) := by
  unfold cutV cutD
  rw [h.length]
  exact (h.drop _).take _
def sliceD (x : D) (lo hi : Option Int) : Res D := match x with
  | .list xs => .ok (.list (cutD xs lo hi))
  | .tuple xs => .ok (.tuple (cutD xs lo hi))
  | .str z => if z.length ≤ sizeLine then .ok (.str (cutS z lo hi)) else .stuck
  | _ => .stuck
def sliceE (f : MM D) (lo hi : MM (Option Int)) : MM D := MM.bind f fun x => MM.bind lo fun l => MM.bind hi fun h => lift (sliceD x l h)
def rSlF (K : Fg) : V → Option Int → Option Int → Hp → VK → Prop := fun x lo hi H Q => ∃ a xs, x = .ref a ∧ SqT K H a xs ∧
  (HT.sIx xs.length 0 lo = 0 ∧ HT.sIx xs.length xs.length hi = xs.length → Q (.ref a) H) ∧ (¬ (HT.sIx xs.length 0 lo = 0 ∧ HT.sIx xs.length xs.length hi = xs.length) → ∀ p o, H p = none → o.dict = none → Q (.ref p) (upd H p (.frz o (.tup (cutV xs lo hi)))))
theorem sl_tupF : SlR X (rSlF X.K) := by
  intro pins s σ H x v vl vu lo hi sl Q I rx hs pl pu h
  obtain ⟨a, xs, rfl, hx, q1, q2⟩ := h
  cases rx
  obtain ⟨its, r, ht, hz⟩ := I.tuple hx
  have hlen : its.toArray.size = xs.length := by rw [List.size_toArray]; exact r.length.symm
  refine ⟨"tuple", _, PyProof.Rows.slot_tuple_getitem.lookup, ht.typeIs, ?_⟩
  by_cases hw : HT.sIx xs.length 0 lo = 0 ∧ HT.sIx xs.length xs.length hi = xs.length
  · exact getItem_tuple_whole ht hs pl pu (by rw [hlen]; exact hw) ⟨.ref a, H, I, rfl, q1 hw⟩
  · refine HT.getItem_tuple_cut ht hs pl pu (by rw [hlen]; exact hw) ?_ (by rw [hlen]; exact hz)
    rw [hlen]
    exact laidT (t' := s.toks) I ((r.drop (HT.sIx xs.length 0 lo)).take (HT.sIx xs.length xs.length hi - HT.sIx xs.length 0 lo)) (Nat.le_trans (cutV_length xs lo hi) hz) (q2 hw)
theorem me_slice {lo hi : Option Expr} {ml mh : MM (Option Int)} {p2 : Pos} (he : PE X e (mE X.K T c W f)) (hl : PO X lo (mX X.K T c W relO ml)) (hh : PO X hi (mX X.K T c W relO mh)) : PE X (.Subscript e (.Slice lo hi none p2) pos) (mE X.K T c W (sliceE f ml mh)) := by
  refine pe_mono (pe_slice (sl_list.or (sl_tupF.or sl_str)) he hl hh) fun σ H Q ⟨G, ρ, j, p⟩ => ?_
  refine pX_bind j p fun x v ρ1 G1 H1 l1 j1 r1 p1 => ?_
  refine pX_bind j1 p1 fun o1 o1' ρ2 G2 H2 l2 j2 r2 p2 => ?_
  cases r2
  refine pX_bind j2 p2 fun o2 o2' ρ3 G3 H3 l3 j3 r3 p3 => ?_
  cases r3
  have r4 := (r1.le l2).le l3
  cases r4 with
  | lst h1 h2 => exact .inl ⟨_, _, rfl, sqL_sub (.inl h1) j3.subH, fun p hp => p3 _ _ _ (Le.upd (j3.fresh hp)) (j3.grow hp) (.lst (.inl upd_same) ((dq_cut h2 _ _).le (Le.upd (j3.fresh hp))))⟩
  | tup h1 h2 =>
    refine .inr (.inl ⟨_, _, rfl, sqT_sub h1.sq j3.subH, fun hw => ?_, fun _ p o hp ho => p3 _ _ _ (Le.upd (j3.fresh hp)) (j3.grow hp) (j3.newT hp ho (dq_cut h2 _ _))⟩)
    rename_i ds
    have e : cutD ds o1 o2 = ds := by
      unfold cutD
      rw [h2.length] at hw
      rw [hw.1, hw.2]
      simp
    have p4 : pX X.K T c W (relD X.K) σ G3 Q (.ok (.tuple (cutD ds o1 o2)) ρ3) := p3
    rw [e] at p4
    exact p4.here j3 (.tup h1 h2)
  | str z =>
    have p4 : pX X.K T c W (relD X.K) σ G3 Q (lift (if z.length ≤ sizeLine then .ok (.str (cutS z o1 o2)) else .stuck) ρ3) := p3
    by_cases hz : z.length ≤ sizeLine
    · rw [if_pos hz] at p4
      exact .inr (.inr ⟨_, rfl, hz, p4.here j3 (.str _)⟩)
    · rw [if_neg hz] at p4
      exact p4.elim
  | _ => exact p3.elim
end
end Mi
set_option Elab.async false
set_option linter.all false
set_option maxRecDepth 100000
set_option maxHeartbeats 4000000
namespace Mi
open PySem L2
/-- what a def leaves of the heap -/
structure Kept (T : Tb) (G : Wd) (H : Hp) (G' : Wd) (H' : Hp) : Prop where
  g : Le G G'
  s : Lh G' H'
  n : ∀ a, G a = none → H a ≠ none → G' a = none
  k : ∀ a o, H a = some o → (∀ ps, o ≠ .tbl ps) → H' a = some o
  t : ∀ a ps, H a = some (.tbl ps) → ∃ ps', H' a = some (.tbl ps')
  tb : LamX.Tabs T H'
  nt : ∀ a ps, G' a ≠ some (.tbl ps)
  m : G'.m = G.m
theorem Kept.some {T : Tb} {G G' : Wd} {H H' : Hp} (q : Kept T G H G' H') {a : Addr} (h : ∃ o, H a = some o) : ∃ o, H' a = some o := by
  obtain ⟨o, h⟩ := h
  cases o with
  | tbl ps => obtain ⟨ps', e⟩ := q.t a ps h; exact ⟨_, e⟩
  | _ => exact ⟨_, q.k a _ h (fun _ z => by cases z)⟩
theorem J.after {K : Fg} {T : Tb} {c : Gh} {G G' : Wd} {H H' : Hp} {σ : St} {ρ : MSt} (j : J K T c G H σ ρ) (q : Kept T G H G' H') : J K T c G' H' σ ρ := by
  refine ⟨q.s, j.g0.trans q.g, fun a g0 h0 m => q.n a (j.gn a g0 h0 m) fun z => (j.H0none z).elim h0 m, fun a o e m t => q.k a o (j.fr a o e m t) t, fun a ps e => ?_, j.len, fun i s e ns => ?_, j.ow, j.ap, q.tb, q.nt, fun b μ e => ?_, ⟨fun a m => q.some (j.mj.hr a (by rw [← q.m]; exact m)), fun a m => j.mj.ow a (by rw [← q.m]; exact m), fun a m => j.mj.gr a (by rw [← q.m]; exact m), fun h => q.m.trans (j.mj.nm h), j.mj.wf⟩⟩
  · obtain ⟨ps', h⟩ := j.ft a ps e
    exact q.t a ps' h
  · obtain ⟨v, e1, r⟩ := j.sl i s e ns
    refine ⟨v, e1, ?_⟩
    cases s with
    | sto b μ => cases ns
    | d x => exact Dq.le r q.g
    | ol xs =>
      obtain ⟨b, vs, e2, g, hh, r⟩ := r
      exact ⟨b, vs, e2, q.n b g (by rw [hh]; exact fun z => by cases z), q.k b _ hh (fun _ z => by cases z), r.le q.g⟩
    | od xs =>
      obtain ⟨b, vs, e2, g, hh, r⟩ := r
      exact ⟨b, vs, e2, q.n b g (by rw [hh]; exact fun z => by cases z), q.k b _ hh (fun _ z => by cases z), r.le q.g⟩
    | dc xs =>
      obtain ⟨e0, b, vs, e2, g, hh, r⟩ := r
      exact ⟨e0, b, vs, e2, q.n b g (by rw [hh]; exact fun z => by cases z), q.k b _ hh (fun _ z => by cases z), r.le q.g⟩
  · obtain ⟨s1, s3⟩ := j.st b μ e
    refine ⟨s1.keep q.g q.m (fun b g _ h => q.n b g h) fun b o e z => q.k b o e fun ps y => ?_, s3.eqm q.m⟩
    rcases z with z | ⟨x, z⟩
    · obtain ⟨_, o', h1, h2, _⟩ := s1.there z
      rw [e] at h1; cases h1; exact h2 ps y
    · rw [z] at y; cases y
/-- the promise of a def of data -/
def spF (K : Fg) (T : Tb) (f : List D → Res D) : Sp := fun vs H Q E => ∃ G ds, Lh G H ∧ (∀ a ps, G a ≠ some (.tbl ps)) ∧ LamX.Tabs T H ∧ (∀ a ∈ G.m, ∃ o, H a = some o) ∧ DqAll K G vs ds ∧ match f ds with
  | .ok d => ∀ v G' H', Kept T G H G' H' → Dq K G' v d → Q v H'
  | .exn e => ∀ cls dx G' H', Kept T G H G' H' → IsX K G'.hp e cls dx → E cls dx H'
  | .stuck => False
def startM (n : Nat) (ds : List D) : MSt := ds.map (fun d => some (S.d d)) ++ List.replicate (n + 1 - ds.length) none
def endF : Out Fl → Res D
  | .ok (.rt d) _ => .ok d
  | .ok .nx _ => .ok .none
  | .exn e _ => .exn e
  | _ => .stuck
/-- n slots, m parameters -/
def runF (n m : Nat) (b : MM Fl) : List D → Res D := fun ds => if ds.length = m then endF (b (startM n ds)) else .stuck
theorem J.entry {K : Fg} {T : Tb} {G : Wd} {H : Hp} {vs : List V} {ds : List D} {N : List Str} (l : Lh G H) (nt : ∀ a ps, G a ≠ some (.tbl ps)) (tb : LamX.Tabs T H) (hm : ∀ a ∈ G.m, ∃ o, H a = some o) (dq : DqAll K G vs ds) (hn : vs.length ≤ N.length) : J K T ⟨H, G, [], 0, false, []⟩ G H (L2.start N vs) (startM N.length ds) := by
  have hl := dq.length
  have get : ∀ (i : Nat) s, (startM N.length ds)[i]? = some (some s) → ∃ d v, s = .d d ∧ (L2.start N vs)[i]? = some (some v) ∧ Dq K G v d := fun i s e => by
    unfold startM at e
    by_cases hi : i < ds.length
    · rw [List.getElem?_append_left (by simpa using hi), List.getElem?_map] at e
      cases q : ds[i]? with
      | none => rw [q] at e; cases e
      | some d =>
        rw [q] at e
        cases e
        obtain ⟨v, h1, h2⟩ := dq.getD q
        refine ⟨d, v, rfl, ?_, h2⟩
        unfold L2.start
        rw [List.getElem?_append_left (by simpa [hl] using hi), List.getElem?_map, h1]
        rfl
    · rw [List.getElem?_append_right (by simpa using hi), List.getElem?_replicate] at e
      split at e <;> cases e
  refine ⟨l, Le.refl G, fun _ h _ _ => h, fun _ _ e _ _ => e, fun _ ps e => ⟨ps, e⟩, ?_, fun i s e ns => ?_, fun i s a e o e2 => ?_, fun i k s t a b e1 e2 o1 o2 f1 f2 n => ?_, tb, nt, fun b μ e => ?_, ⟨hm, fun a m n => ?_, fun a m => .inl m, fun _ => rfl, (fun _ z => by cases z)⟩⟩
  · unfold startM L2.start
    simp only [List.length_append, List.length_map, List.length_replicate]
    omega
  · obtain ⟨d, v, rfl, h1, h2⟩ := get i s e
    exact ⟨v, h1, h2⟩
  · obtain ⟨d, v, rfl, h1, h2⟩ := get i s e
    cases o
  · obtain ⟨d, v, rfl, h1, h2⟩ := get i s e1
    cases o1
  · obtain ⟨d, v, z, h1, h2⟩ := get _ _ e
    cases z
  · obtain ⟨i, s, e1, e2, e3⟩ := mem_owns.mp n
    obtain ⟨d, v, rfl, h1, h2⟩ := get i s e1
    cases e2
theorem J.kept {K : Fg} {T : Tb} {G G' : Wd} {H H' : Hp} {σ : St} {ρ : MSt} (j : J K T ⟨H, G, [], 0, false, []⟩ G' H' σ ρ) : Kept T G H G' H' :=
  ⟨j.g0, j.sub, fun a g h => j.gn a g h (by simp), fun a o e t => j.fr a o e (by simp) t, j.ft, j.tb, j.nt, j.mj.nm rfl⟩
section
variable {P : Program} {w : World} {K : Fg} {mg : Str → Option Value} {base : Heap} {T : Tb}
/-- a def by its body's mirror -/
abbrev cxX (P : Program) (w : World) (K : Fg) (mg : Str → Option Value) (base : Heap) (N : List Str) (qual : Str) (scope : Scope) (f : Addr) (cd : Value) (A : Around) (outer : List Env) (s : Shared) (H : Hp) (E : XK) : Cx := cxOf (L2N.CX P w) P w K mg base N qual scope f cd A outer s H E
theorem okN {x qual : Str} {st : Stmt} {f : Addr} {fd : FuncData} {N ps : List Str} {k : Nat} {sp : Sp} (F : Fun K x qual st f fd) (S : FnScope N ps (defScope st)) (len : ∀ vs H Q E, sp vs H Q E → vs.length = ps.length)
    (hb : ∀ (cdv : Value), cdv = fd.code → ∀ (A : Around) (outer : List Env) (s : Shared) (H : Hp) (vs : List V) (Q : VK) (E : XK), Room k (A.deeper (PyProof.Rows.envOfC qual (defScope st) s.heap.objs.size f cdv)) → sp vs H Q E →
      ∃ t, PSs (cxX P w K mg base N qual (defScope st) f cdv A outer s H E) (defBody st) t ∧ t { nx := fun _ H' => Q .non H', rt := Q } (L2.start N vs) H) : FnOk P w K mg base (L2N.CX P w) (k + 1) f fd ps sp := by
  obtain ⟨oc, od, kV, doc, pm, an, cdv, ct, osl, rfl, lk, hcd⟩ := F.ex
  exact fn_of lk hcd S len fun A outer s H vs Q E hr hsp => hb cdv rfl A outer s H vs Q E hr hsp
theorem fn_def {x qual : Str} {st : Stmt} {f : Addr} {fd : FuncData} {N ps : List Str} {k : Nat} {b : MM Fl} (F : Fun K x qual st f fd) (S : FnScope N ps (defScope st))
    (hb : ∀ (cdv : Value), cdv = fd.code → ∀ (A : Around) (outer : List Env) (s : Shared) (H : Hp) (E : XK) (c : Gh), Room k (A.deeper (PyProof.Rows.envOfC qual (defScope st) s.heap.objs.size f cdv)) →
      PSs (cxX P w K mg base N qual (defScope st) f cdv A outer s H E) (defBody st) (mS K T c (fun cls d _ H => E cls d H) b)) :
    FnOk P w K mg base (L2N.CX P w) (k + 1) f fd ps (spF K T (runF N.length ps.length b)) := by
  have hpl : ps.length ≤ N.length := by have := congrArg List.length S.pre; rw [List.length_take] at this; omega
  refine okN F S (fun vs H Q E h => ?_) fun cdv hcd A outer s H vs Q E hr h => ⟨_, hb cdv hcd A outer s H E ⟨H, h.choose, [], 0, false, []⟩ hr, ?_⟩
  · obtain ⟨G, ds, _, _, _, _, dq, p⟩ := h
    unfold runF at p
    by_cases z : ds.length = ps.length
    · rw [dq.length, z]
    · rw [if_neg z] at p; exact p.elim
  · have h2 := h.choose_spec
    generalize hG : h.choose = G at h2 ⊢
    obtain ⟨ds, l, nt, tb, hm, dq, p⟩ := h2
    unfold runF at p
    by_cases z : ds.length = ps.length
    · rw [if_pos z] at p
      refine ⟨G, startM N.length ds, J.entry l nt tb hm dq (by rw [dq.length, z]; exact hpl), ?_⟩
      cases e : b (startM N.length ds) with
      | ok fl ρ' =>
        rw [e] at p
        cases fl with
        | nx => exact fun σ' G' H' l' j' => p .non G' H' j'.kept .non
        | rt d => exact fun v σ' G' H' l' j' dv => p v G' H' j'.kept dv
        | bk => exact p.elim
        | ct => exact p.elim
      | exn y ρ' =>
        rw [e] at p
        exact fun cls dx σ' G' H' l' j' i => p cls dx G' H' j'.kept i
      | stuck => rw [e] at p; exact p.elim
    · rw [if_neg z] at p; exact p.elim
end
section
variable {X : Cx} {T : Tb} {c : Gh} {W : WX} {a b e : Expr} {f f1 f2 : MM D} {pos p : Pos}
/-- f(e, ..), f a def of data -/
def callE (fm : List D → Res D) (g : MM (List D)) : MM D := MM.bind g fun ds => lift (fm ds)
theorem call_to {g : MM (List D)} {fm : List D → Res D} (σ : St) (H : Hp) (Q : VK) (h : mE X.K T c W (callE fm g) σ H Q) : tCallS (spF X.K T fm) (WE W) (mA X.K T c W g) σ H Q := by
  obtain ⟨G, ρ, j, p⟩ := h
  refine pX_bind j p fun ds vs ρ1 G1 H1 l1 j1 r1 p1 => ⟨G1, ds, j1.sub, j1.nt, j1.tb, j1.mj.hr, r1, ?_⟩
  cases z : fm ds with
  | ok d =>
    rw [z] at p1
    exact fun v G' H' q dv => p1 v G' H' q.g (j1.after q) dv
  | exn y =>
    rw [z] at p1
    exact fun cls dx G' H' q i => p1 cls dx G' H' q.g (j1.after q) i
  | stuck => rw [z] at p1; exact p1.elim
theorem me_call {x : Str} {es : List Expr} {g : MM (List D)} {k : Nat} {fa : Addr} {fd : FuncData} {ps : List Str} {fm : List D → Res D} (F : FnOk X.prog X.w X.K X.mg X.base (L2N.CX X.prog X.w) k fa fd ps (spF X.K T fm)) (hr : Room k X.A) (hg : Gl X x) (hm : X.mg x = some (.ref fa)) (hk : PySem.W.keepIn X.K (.ref fa) = true)
    (hb : Binds X.K fd ps []) (tk : L2N.Takes X W) (ha : PA X (e :: es) (mA X.K T c W g)) (hdb : (x == ("__debug__" : Str)) = false := by decide) (he : starEach (e :: es) X.env = (false, eval e X.env) :: starEach es X.env := by rfl) (hpl : (backTo pos (starEach es X.env)).any (·.1) = false := by rfl) :
    PE X (.Call (.Name x p) (e :: es) [] pos) (mE X.K T c W (callE fm g)) :=
  pe_mono (pe_callS F hr hg hm hk hb (fun σ => L2N.passAt tk σ) ha hdb he hpl) call_to
def Fn1 (X : Cx) (T : Tb) (c : Gh) (W : WX) (fv : Value) (g : List D → Res D) : Prop :=
  ∃ r : List V → Hp → VK → Prop, CallR X fv r ∧ ∀ σ ρ G H xs ds (Q : VK), J X.K T c G H σ ρ → DqAll X.K G xs ds → pX X.K T c W (relD X.K) σ G Q (lift (g ds) ρ) → r xs H Q
theorem CallR.or {fv : Value} {r r' : List V → Hp → VK → Prop} (h : CallR X fv r) (h' : CallR X fv r') : CallR X fv (fun xs H Q => r xs H Q ∨ r' xs H Q) := by
  intro pins s σ H xs us Q I rx q
  rcases q with q | q
  · exact h pins s σ H xs us Q I rx q
  · exact h' pins s σ H xs us Q I rx q
/-- the new object is locked for good -/
def LockQ (Q : VK) : VK := fun v H1 => ∃ d u, v = .ref d ∧ H1 d = some u ∧ Mut (some u) ∧ ∀ od, Q v (upd H1 d (.frz od u))
theorem CallR.lock {fv : Value} {r : List V → Hp → VK → Prop} (h : CallR X fv r) : CallR X fv (fun xs H Q => r xs H (LockQ Q)) := by
  intro pins s σ H xs us Q I rx q
  refine thn (h pins s σ H xs us _ I rx q) fun v s1 ⟨x, H1, I1, r1, d, u, e, hd, mu, k⟩ => ?_
  obtain ⟨od, I2⟩ := I1.lock hd mu
  exact ⟨x, _, I2, r1, k od⟩
theorem pe_lockV {te : TE} (h : PE X e te) : PE X e (fun σ H Q => te σ H (LockQ Q)) := by
  refine ⟨fun pins s σ H Q I q => ?_⟩
  refine thn (h.run pins s σ H _ I q) fun v s1 ⟨x, H1, I1, r1, d, u, e, hd, mu, k⟩ => ?_
  obtain ⟨od, I2⟩ := I1.lock hd mu
  exact ⟨x, _, I2, r1, k od⟩
theorem pss_lockV {sts : List Stmt} {t : TS} (h : PSs X sts t) : PSs X sts (fun Dn σ H => ∃ d u, H d = some u ∧ Mut (some u) ∧ ∀ od, t Dn σ (upd H d (.frz od u))) := by
  refine ⟨fun pins s σ H Dn I ⟨d, u, hd, mu, k⟩ => ?_⟩
  obtain ⟨od, I2⟩ := I.lock hd mu
  exact h.run pins s σ _ Dn I2 (k od)
theorem LockQ.new {Q : VK} {H : Hp} {p : Addr} {u : HO} (mu : Mut (some u)) (h : ∀ od, Q (.ref p) (upd H p (.frz od u))) : LockQ Q (.ref p) (upd H p u) :=
  ⟨p, u, rfl, upd_same, mu, fun od => by rw [upd_upd]; exact h od⟩
theorem Fn1.mk {fv : Value} {g : List D → Res D} {r : List V → Hp → VK → Prop} (h : CallR X fv r)
    (k : ∀ G H xs ds q (Q : VK), Lh G H → DqAll X.K G xs ds → g ds = .ok q → ((∀ v, Dq X.K G v q → Q v H) ∧ ∀ p o, H p = none → (∀ ps, o ≠ .tbl ps) → Dq X.K (wupd G p o) (.ref p) q → Q (.ref p) (upd H p o)) → r xs H Q)
    (nx : ∀ ds y, g ds ≠ .exn y) : Fn1 X T c W fv g := by
  refine ⟨r, h, fun σ ρ G H xs ds Q j dx p => ?_⟩
  cases q : g ds with
  | ok z =>
    rw [q] at p
    refine k G H xs ds z Q j.sub dx q ⟨fun v dv => p.here j dv, fun p' o hn nt dv => ?_⟩
    exact p _ _ _ (Le.upd (j.fresh hn)) (j.grow hn nt) dv
  | exn y => exact absurd q (nx ds y)
  | stuck => rw [q] at p; exact p.elim
theorem callB_to {g : MM (List D)} {fm : List D → Res D} {r : List V → Hp → VK → Prop} (k : ∀ σ ρ G H xs ds (Q : VK), J X.K T c G H σ ρ → DqAll X.K G xs ds → pX X.K T c W (relD X.K) σ G Q (lift (fm ds) ρ) → r xs H Q)
    (σ : St) (H : Hp) (Q : VK) (h : mE X.K T c W (callE fm g) σ H Q) : tCB r (mA X.K T c W g) σ H Q := by
  obtain ⟨G, ρ, j, p⟩ := h
  exact pX_bind j p fun ds vs ρ1 G1 H1 l1 j1 r1 p1 => k σ ρ1 G1 H1 vs ds Q j1 r1 p1
theorem me_callB {x : Str} {id : String} {es : List Expr} {g : MM (List D)} {fm : List D → Res D} (hc : Fn1 X T c W (.builtin id) fm) (hg : Gl X x) (hm : X.mg x = none) (hv : bootBuiltins x = some (.builtin id)) (ha : PA X (e :: es) (mA X.K T c W g)) (hn : x ≠ "__name__" := by decide) (hdb : (x == ("__debug__" : Str)) = false := by decide)
    (he : starEach (e :: es) X.env = (false, eval e X.env) :: starEach es X.env := by rfl) (hpl : (backTo pos (starEach es X.env)).any (·.1) = false := by rfl) : PE X (.Call (.Name x p) (e :: es) [] pos) (mE X.K T c W (callE fm g)) := by
  obtain ⟨r, h, k⟩ := hc
  exact pe_mono (pe_callB h hg hm hv ha hn hdb he hpl) (callB_to k)
theorem me_callTy {x : Str} {Ty : String} {es : List Expr} {g : MM (List D)} {fm : List D → Res D} (hc : Fn1 X T c W (.type Ty) fm) (hg : Gl X x) (hm : X.mg x = none) (hv : bootBuiltins x = some (.type Ty)) (ha : PA X (e :: es) (mA X.K T c W g)) (hn : x ≠ "__name__" := by decide) (hdb : (x == ("__debug__" : Str)) = false := by decide)
    (he : starEach (e :: es) X.env = (false, eval e X.env) :: starEach es X.env := by rfl) (hpl : (backTo pos (starEach es X.env)).any (·.1) = false := by rfl) : PE X (.Call (.Name x p) (e :: es) [] pos) (mE X.K T c W (callE fm g)) := by
  obtain ⟨r, h, k⟩ := hc
  exact pe_mono (pe_callTy h hg hm hv ha hn hdb he hpl) (callB_to k)
def tyN : D → String
  | .none => "NoneType" | .bool _ => "bool" | .int _ => "int" | .str _ => "str" | .list _ => "list" | .tuple _ => "tuple" | .dict _ => "dict" | .loc _ => "" | .exc _ => "" | .fn _ => ""
def isLoc : D → Bool
  | .loc _ => true
  | .exc _ => true
  | .fn _ => true
  | _ => false
theorem tyX_of {K : Fg} {G : Wd} {H : Hp} {v : V} {d : D} (l : Lh G H) (h : Dq K G v d) (nl : isLoc d = false) : TyX K H v (.type (tyN d)) := by
  cases h with
  | loc h => cases nl
  | exc h => cases nl
  | fn => cases nl
  | non => exact .base .non
  | bl b => exact .base (.bl b)
  | int i => exact .base (.int i)
  | str x => exact .base (.str x)
  | lst h _ =>
    rcases h with h | ⟨o, h⟩
    · exact .base (.lst (l _ _ h))
    · exact .base (.frz (l _ _ h))
  | tup h _ =>
    rcases h with ⟨o, h, _⟩ | ⟨o, its, n, h, hc, _⟩
    · exact .fTuple (l _ _ h)
    · exact .kTuple h hc
  | dic h _ =>
    obtain ⟨o, h⟩ := h
    exact .fDict (l _ _ h)
def isiK (t : D → Bool) (d : D) : MM D := if isLoc d = true then stuck else MM.pure (.bool (t d))
def isiE (t : D → Bool) (f : MM D) : MM D := MM.bind f (isiK t)
theorem me_isi {Ty : String} {q : Str} {t : D → Bool} {p2 : Pos} (ht : ∀ d, isLoc d = false → kitB (tyN d) Ty = some (t d)) (hg : Gl X "isinstance") (hm : X.mg "isinstance" = none) (hgT : Gl X q) (hmT : X.mg q = none) (hvT : bootBuiltins q = some (.type Ty)) (ha : PE X a (mE X.K T c W f))
    (hv : bootBuiltins "isinstance" = some (.builtin "isinstance")) (hnT : q ≠ "__name__" := by decide) (hdT : (q == ("__debug__" : Str)) = false := by decide)
    (he : starEach (a :: [.Name q p2]) X.env = (false, eval a X.env) :: starEach [.Name q p2] X.env := by rfl) (he2 : starEach [.Name q p2] X.env = (false, eval (.Name q p2) X.env) :: starEach [] X.env := by rfl) (hpl : (backTo pos (starEach [.Name q p2] X.env)).any (·.1) = false := by rfl) :
    PE X (.Call (.Name "isinstance" p) [a, .Name q p2] [] pos) (mE X.K T c W (isiE t f)) := by
  refine pe_mono (pe_callB call_isi hg hm hv (pa_cons ha (pa_cons (pe_bltn (v := .ty Ty) hgT hmT hvT rfl hnT hdT) pa_nil he2) he) (by decide) (by decide) he hpl) fun σ H Q ⟨G, ρ, j, p⟩ => ?_
  refine pX_bind j p fun d v ρ1 G1 H1 l1 j1 r1 p1 => ?_
  unfold isiK at p1
  by_cases nl : isLoc d = true
  · rw [if_pos nl] at p1; exact p1.elim
  · rw [if_neg nl] at p1
    have nl : isLoc d = false := by simpa using nl
    exact ⟨v, .ty Ty, _, _, t d, rfl, .ty Ty, tyX_of j1.sub r1 nl, kit_ty (ht d nl), p1.here j1 (.bl _)⟩
def isInt : D → Bool
  | .int _ | .bool _ => true
  | _ => false
def isBool : D → Bool
  | .bool _ => true
  | _ => false
def isStr : D → Bool
  | .str _ => true
  | _ => false
def isTup : D → Bool
  | .tuple _ => true
  | _ => false
def isLst : D → Bool
  | .list _ => true
  | _ => false
def isDic : D → Bool
  | .dict _ => true
  | _ => false
theorem kit_int : ∀ d, isLoc d = false → kitB (tyN d) "int" = some (isInt d)
  | .none, _ => (by decide +kernel : kitB "NoneType" "int" = some false)
  | .bool _, _ => (by decide +kernel : kitB "bool" "int" = some true)
  | .int _, _ => (by decide +kernel : kitB "int" "int" = some true)
  | .str _, _ => (by decide +kernel : kitB "str" "int" = some false)
  | .list _, _ => (by decide +kernel : kitB "list" "int" = some false)
  | .tuple _, _ => (by decide +kernel : kitB "tuple" "int" = some false)
  | .dict _, _ => (by decide +kernel : kitB "dict" "int" = some false)
  | .loc _, z => by cases z
  | .exc _, z => by cases z
  | .fn _, z => by cases z
theorem kit_bool : ∀ d, isLoc d = false → kitB (tyN d) "bool" = some (isBool d)
  | .none, _ => (by decide +kernel : kitB "NoneType" "bool" = some false)
  | .bool _, _ => (by decide +kernel : kitB "bool" "bool" = some true)
  | .int _, _ => (by decide +kernel : kitB "int" "bool" = some false)
  | .str _, _ => (by decide +kernel : kitB "str" "bool" = some false)
  | .list _, _ => (by decide +kernel : kitB "list" "bool" = some false)
  | .tuple _, _ => (by decide +kernel : kitB "tuple" "bool" = some false)
  | .dict _, _ => (by decide +kernel : kitB "dict" "bool" = some false)
  | .loc _, z => by cases z
  | .exc _, z => by cases z
  | .fn _, z => by cases z
theorem kit_str : ∀ d, isLoc d = false → kitB (tyN d) "str" = some (isStr d)
  | .none, _ => (by decide +kernel : kitB "NoneType" "str" = some false)
  | .bool _, _ => (by decide +kernel : kitB "bool" "str" = some false)
  | .int _, _ => (by decide +kernel : kitB "int" "str" = some false)
  | .str _, _ => (by decide +kernel : kitB "str" "str" = some true)
  | .list _, _ => (by decide +kernel : kitB "list" "str" = some false)
  | .tuple _, _ => (by decide +kernel : kitB "tuple" "str" = some false)
  | .dict _, _ => (by decide +kernel : kitB "dict" "str" = some false)
  | .loc _, z => by cases z
  | .exc _, z => by cases z
  | .fn _, z => by cases z
theorem kit_tup : ∀ d, isLoc d = false → kitB (tyN d) "tuple" = some (isTup d)
  | .none, _ => (by decide +kernel : kitB "NoneType" "tuple" = some false)
  | .bool _, _ => (by decide +kernel : kitB "bool" "tuple" = some false)
  | .int _, _ => (by decide +kernel : kitB "int" "tuple" = some false)
  | .str _, _ => (by decide +kernel : kitB "str" "tuple" = some false)
  | .list _, _ => (by decide +kernel : kitB "list" "tuple" = some false)
  | .tuple _, _ => (by decide +kernel : kitB "tuple" "tuple" = some true)
  | .dict _, _ => (by decide +kernel : kitB "dict" "tuple" = some false)
  | .loc _, z => by cases z
  | .exc _, z => by cases z
  | .fn _, z => by cases z
theorem kit_lst : ∀ d, isLoc d = false → kitB (tyN d) "list" = some (isLst d)
  | .none, _ => (by decide +kernel : kitB "NoneType" "list" = some false)
  | .bool _, _ => (by decide +kernel : kitB "bool" "list" = some false)
  | .int _, _ => (by decide +kernel : kitB "int" "list" = some false)
  | .str _, _ => (by decide +kernel : kitB "str" "list" = some false)
  | .list _, _ => (by decide +kernel : kitB "list" "list" = some true)
  | .tuple _, _ => (by decide +kernel : kitB "tuple" "list" = some false)
  | .dict _, _ => (by decide +kernel : kitB "dict" "list" = some false)
  | .loc _, z => by cases z
  | .exc _, z => by cases z
  | .fn _, z => by cases z
theorem kit_dic : ∀ d, isLoc d = false → kitB (tyN d) "dict" = some (isDic d)
  | .none, _ => (by decide +kernel : kitB "NoneType" "dict" = some false)
  | .bool _, _ => (by decide +kernel : kitB "bool" "dict" = some false)
  | .int _, _ => (by decide +kernel : kitB "int" "dict" = some false)
  | .str _, _ => (by decide +kernel : kitB "str" "dict" = some false)
  | .list _, _ => (by decide +kernel : kitB "list" "dict" = some false)
  | .tuple _, _ => (by decide +kernel : kitB "tuple" "dict" = some false)
  | .dict _, _ => (by decide +kernel : kitB "dict" "dict" = some true)
  | .loc _, z => by cases z
  | .exc _, z => by cases z
  | .fn _, z => by cases z
end
end Mi
set_option Elab.async false
set_option linter.all false
set_option maxRecDepth 100000
set_option maxHeartbeats 4000000
namespace Mi
open PySem L2
section
variable {X : Cx} {T : Tb} {c : Gh} {W : WX} {a b e : Expr} {f f1 f2 : MM D} {pos p : Pos}
def dLen : List D → Res D
  | [.list xs] => .ok (.int xs.length)
  | [.tuple xs] => .ok (.int xs.length)
  | [.str s] => if s.length ≤ sizeLine then .ok (.int s.length) else .stuck
  | [.dict kvs] => .ok (.int kvs.length)
  | _ => .stuck
theorem call_lenR : CallR X (.builtin "len") (fun xs H Q => ∃ a kvs, xs = [V.ref a] ∧ Rd H a (.dK kvs) ∧ Q (.int kvs.length) H) := by
  intro pins s σ H xs us Q I r h
  obtain ⟨a, kvs, rfl, ha, q⟩ := h
  obtain ⟨u, rfl, ru⟩ := vals1 r
  cases ru
  exact d_len I ha fun t s' I' => ⟨.int _, H, I', ⟨t, rfl⟩, q⟩
theorem b_len : Fn1 X T c W (.builtin "len") dLen := Fn1.mk (CallR.or call_len_seq (CallR.or call_len_str call_lenR)) (fun G H xs ds q Q l dq hq k => by
  cases dq with
  | nil => exact nomatch hq
  | cons d r =>
    cases r with
    | cons _ _ => cases d <;> exact nomatch hq
    | nil =>
      cases d with
      | lst h1 h2 => cases hq; exact .inl ⟨_, _, rfl, .inl (sqL_sub (.inl h1) l.sub), by rw [h2.length]; exact k.1 _ (.int _)⟩
      | tup h1 h2 => cases hq; exact .inl ⟨_, _, rfl, .inr (sqT_sub h1.sq l.sub), by rw [h2.length]; exact k.1 _ (.int _)⟩
      | str s => obtain ⟨p, rfl⟩ := ite_res hq; exact .inr (.inl ⟨_, rfl, p, k.1 _ (.int _)⟩)
      | dic h1 h2 => cases hq; exact .inr (.inr ⟨_, _, rfl, l.sub.rd _ _ (fun _ _ z => by cases z) h1.rd, by rw [h2.length]; exact k.1 _ (.int _)⟩)
      | _ => exact nomatch hq) fun ds y z => by
  unfold dLen at z
  split at z <;> first | (exact ite_nx z) | (exact nomatch z)
def toBools : List D → Option (List Bool)
  | [] => some []
  | .bool b :: r => (toBools r).map (b :: ·)
  | _ => none
def toInts : List D → Option (List Int)
  | [] => some []
  | .int i :: r => (toInts r).map (i :: ·)
  | _ => none
theorem vs_bools {K : Fg} {G : Wd} : ∀ {vs : List V} {ds : List D} {bs : List Bool}, DqAll K G vs ds → toBools ds = some bs → vs = bs.map V.bl
  | _, _, _, .nil, h => by cases h; rfl
  | _, _, _, .cons (d := d) h t, e => by
    cases h with
    | bl b =>
      unfold toBools at e
      cases q : toBools _ with
      | none => rw [q] at e; cases e
      | some r => rw [q] at e; cases e; rw [List.map_cons, vs_bools t q]
    | _ => exact nomatch e
theorem vs_ints {K : Fg} {G : Wd} : ∀ {vs : List V} {ds : List D} {bs : List Int}, DqAll K G vs ds → toInts ds = some bs → vs = bs.map V.int
  | _, _, _, .nil, h => by cases h; rfl
  | _, _, _, .cons (d := d) h t, e => by
    cases h with
    | int b =>
      unfold toInts at e
      cases q : toInts _ with
      | none => rw [q] at e; cases e
      | some r => rw [q] at e; cases e; rw [List.map_cons, vs_ints t q]
    | _ => exact nomatch e
def onBools (g : List Bool → D) : List D → Res D
  | [.list ds] => (match toBools ds with | some bs => .ok (g bs) | none => .stuck)
  | _ => .stuck
def onInts (g : List Int → Res D) : List D → Res D
  | [.list ds] => (match toInts ds with | some bs => g bs | none => .stuck)
  | _ => .stuck
def dAll : List D → Res D := onBools fun bs => .bool (bs.all id)
def dAny : List D → Res D := onBools fun bs => .bool (bs.any id)
def dSum : List D → Res D := onInts fun ns => .ok (.int ns.sum)
theorem onBools_ok {g : List Bool → D} {ds : List D} {q : D} (h : onBools g ds = .ok q) : ∃ es bs, ds = [.list es] ∧ toBools es = some bs ∧ q = g bs := by
  unfold onBools at h
  split at h
  · rename_i es
    cases z : toBools es with
    | none => rw [z] at h; cases h
    | some bs => rw [z] at h; cases h; exact ⟨es, bs, rfl, z, rfl⟩
  · cases h
theorem onBools_nx {g : List Bool → D} {ds : List D} {y : Exn} (h : onBools g ds = .exn y) : False := by
  unfold onBools at h
  split at h
  · split at h <;> cases h
  · cases h
theorem onInts_ok {g : List Int → Res D} {ds : List D} {q : D} (h : onInts g ds = .ok q) : ∃ es bs, ds = [.list es] ∧ toInts es = some bs ∧ g bs = .ok q := by
  unfold onInts at h
  split at h
  · rename_i es
    cases z : toInts es with
    | none => rw [z] at h; cases h
    | some bs => rw [z] at h; exact ⟨es, bs, rfl, z, h⟩
  · cases h
theorem onInts_nx {g : List Int → Res D} (hg : ∀ bs y, g bs ≠ .exn y) {ds : List D} {y : Exn} (h : onInts g ds = .exn y) : False := by
  unfold onInts at h
  split at h
  · split at h
    · exact hg _ _ h
    · cases h
  · cases h
theorem one_list {K : Fg} {G : Wd} {xs : List V} {es : List D} (h : DqAll K G xs [.list es]) : ∃ a vs, xs = [.ref a] ∧ Rd G a (.lst vs) ∧ DqAll K G vs es := by
  cases h with
  | cons d r =>
    cases r
    cases d with
    | lst h1 h2 => exact ⟨_, _, rfl, h1, h2⟩
theorem b_all (hc : X.calm = true) : Fn1 X T c W (.builtin "all") dAll := Fn1.mk (cr_all hc) (fun G H xs ds q Q l dq hq k => by
  obtain ⟨es, bs, rfl, h1, rfl⟩ := onBools_ok hq
  obtain ⟨a, vs, rfl, h2, h3⟩ := one_list dq
  rw [vs_bools h3 h1] at h2
  exact ⟨a, bs, rfl, sqL_sub (.inl h2) l.sub, k.1 _ (.bl _)⟩) fun ds y z => onBools_nx z
theorem b_sum (hc : X.calm = true) : Fn1 X T c W (.builtin "sum") dSum := Fn1.mk (cr_sum hc) (fun G H xs ds q Q l dq hq k => by
  obtain ⟨es, bs, rfl, h1, h4⟩ := onInts_ok hq
  cases h4
  obtain ⟨a, vs, rfl, h2, h3⟩ := one_list dq
  rw [vs_ints h3 h1] at h2
  exact ⟨a, bs, rfl, sqL_sub (.inl h2) l.sub, k.1 _ (.int _)⟩) fun ds y z => onInts_nx (fun bs y q => by cases q) z
def maxL : List Int → Option Int
  | [] => none
  | x :: xs => some (xs.foldl (fun a b => if b > a then b else a) x)
def minL : List Int → Option Int
  | [] => none
  | x :: xs => some (xs.foldl (fun a b => if b < a then b else a) x)
theorem foldmin (xs : List Int) : ∀ x : Int, (xs.foldl (fun a b => if b < a then b else a) x ∈ x :: xs) ∧ ∀ y ∈ x :: xs, xs.foldl (fun a b => if b < a then b else a) x ≤ y := by
  induction xs with
  | nil => intro x; simp
  | cons z zs ih =>
    intro x
    obtain ⟨h1, h2⟩ := ih (if z < x then z else x)
    rw [List.foldl_cons]
    refine ⟨?_, fun y hy => ?_⟩
    · rcases List.mem_cons.mp h1 with h | h
      · rw [h]; split <;> simp
      · simp [h]
    · have h3 := h2 _ List.mem_cons_self
      rcases List.mem_cons.mp hy with h | h
      · subst h
        exact Int.le_trans h3 (show (if z < y then z else y) ≤ y by split <;> omega)
      · rcases List.mem_cons.mp h with h | h
        · subst h
          exact Int.le_trans h3 (show (if y < x then y else x) ≤ y by split <;> omega)
        · exact h2 y (List.mem_cons_of_mem _ h)
theorem minL_is {ns : List Int} {m m' : Int} (h : minL ns = some m) (h1 : m' ∈ ns) (h2 : ∀ y ∈ ns, m' ≤ y) : m' = m := by
  cases ns with
  | nil => cases h
  | cons x xs =>
    cases h
    obtain ⟨a, b⟩ := foldmin xs x
    have := b m' h1
    have := h2 _ a
    omega
def intOr (o : Option Int) : Res D := match o with
  | some m => .ok (.int m)
  | none => .stuck
def dMax : List D → Res D
  | [.int i, .int j] => .ok (.int (if j > i then j else i))
  | ds => onInts (fun ns => intOr (maxL ns)) ds
def dMin : List D → Res D
  | [.int i, .int j] => .ok (.int (if j < i then j else i))
  | ds => onInts (fun ns => intOr (minL ns)) ds
theorem b_min (hc : X.calm = true) : Fn1 X T c W (.builtin "min") dMin := Fn1.mk (CallR.or (call_min2 hc) (cr_min hc)) (fun G H xs ds q Q l dq hq k => by
  unfold dMin at hq
  split at hq
  · rename_i i j
    cases hq
    cases dq with
    | cons d1 r =>
      cases r with
      | cons d2 r =>
        cases r
        cases d1
        cases d2
        exact .inl ⟨_, _, rfl, k.1 _ (.int _)⟩
  · obtain ⟨es, bs, rfl, h1, h4⟩ := onInts_ok hq
    obtain ⟨a, vs, rfl, h2, h3⟩ := one_list dq
    rw [vs_ints h3 h1] at h2
    cases z : minL bs with
    | none => rw [z] at h4; cases h4
    | some m =>
      rw [z] at h4
      cases h4
      refine .inr ⟨a, bs, rfl, sqL_sub (.inl h2) l.sub, by cases bs with | nil => cases z | cons _ _ => simp, fun m' e1 e2 => ?_⟩
      rw [minL_is z e1 e2]
      exact k.1 _ (.int _)) fun ds y z => by
  unfold dMin at z
  split at z
  · cases z
  · exact onInts_nx (fun bs y q => by unfold intOr at q; split at q <;> cases q) z
def dTuple : List D → Res D
  | [.list xs] => .ok (.tuple xs)
  | [.tuple xs] => .ok (.tuple xs)
  | _ => .stuck
def dList : List D → Res D
  | [.list xs] => .ok (.list xs)
  | [.tuple xs] => .ok (.list xs)
  | _ => .stuck
end
end Mi
set_option Elab.async false
set_option linter.all false
set_option maxRecDepth 100000
set_option maxHeartbeats 4000000
namespace Mi
open PySem L2
def alikeB (ds : List D) : Bool := ds.all fun d => ds.all fun d' => PySem.W.alike d.py d'.py
def tupNE : D → Bool
  | .tuple (_ :: _) => true
  | _ => false
def plainK : D → Bool
  | .none => false
  | .tuple _ => false
  | .loc _ => false
  | .exc _ => false
  | .fn _ => false
  | _ => true
def sortB (ds : List D) : Bool := ds.all tupNE || ds.all plainK
def leD : D → D → Bool := PySem.W.dataLe false D.py
def sortOk (ds : List D) : Bool := alikeB ds && sortB ds && noDicts ds && ds.all fun d => decide (d.depth ≤ 60)
def sortL (ds : List D) : List D := ds.mergeSort leD
section
variable {X : Cx} {T : Tb} {c : Gh} {W : WX} {a b e : Expr} {f f1 f2 : MM D} {pos p : Pos}
def allStr : List (D × D) → Option (List Str)
  | [] => some []
  | (.str s, _) :: r => (allStr r).map (s :: ·)
  | _ => none
def dSorted : List D → Res D
  | [.list ds] => if sortOk ds = true then .ok (.list (sortL ds)) else .stuck
  | [.dict kvs] => (match allStr kvs with
    | some ks => if ks.length < 64 then .ok (.list (sortL (ks.map .str))) else .stuck
    | none => .stuck)
  | _ => .stuck
end
end Mi
set_option Elab.async false
set_option linter.all false
set_option maxRecDepth 100000
namespace Mi
open PySem L2
section
variable {X : Cx} {T : Tb} {c : Gh} {W : WX} {a b e : Expr} {f f1 f2 f3 : MM D} {pos p : Pos}
def putD (kvs : List (D × D)) (k v : D) : List (D × D) := if hasKey k kvs = true then kvs.map fun kv => if D.eqv kv.1 k = true then (kv.1, v) else kv else kvs ++ [(k, v)]
def mergeD (kvs more : List (D × D)) : List (D × D) := more.foldl (fun acc kv => putD acc kv.1 kv.2) kvs
theorem DqKV.app {K : Fg} {G : Wd} : ∀ {vs ws : List (Key × V)} {ds es : List (D × D)}, DqKV K G vs ds → DqKV K G ws es → DqKV K G (vs ++ ws) (ds ++ es)
  | _, _, _, _, .nil, h => h
  | _, _, _, _, .cons h t, h2 => .cons h (DqKV.app t h2)
theorem DqKV.repl {K : Fg} {G : Wd} {k : Key} {v : V} {d : D} (r : Dq K G v d) : ∀ {kvs : List (Key × V)} {ds : List (D × D)}, DqKV K G kvs ds → DqKV K G (kvs.map fun kv => if kv.1 = k then (kv.1, v) else kv) (ds.map fun kv => if D.eqv kv.1 (keyD k) = true then (kv.1, d) else kv)
  | _, _, .nil => .nil
  | _, _, .cons (k := k') h t => by
    rw [List.map_cons, List.map_cons]
    simp only [eqv_key, decide_eq_true_eq]
    have ih := DqKV.repl (k := k) r t
    by_cases z : k' = k
    · rw [if_pos z, if_pos z]; exact .cons r ih
    · rw [if_neg z, if_neg z]; exact .cons h ih
theorem DqKV.put {K : Fg} {G : Wd} {k : Key} {v : V} {d : D} {kvs : List (Key × V)} {ds : List (D × D)} (h : DqKV K G kvs ds) (r : Dq K G v d) : DqKV K G (putK kvs k v) (putD ds (keyD k) d) := by
  unfold putK putD
  have e : (kvs.any fun kv => decide (kv.1 = k)) = hasKey (keyD k) ds := by rw [valV_any, dqkv_has h]
  rw [e]
  by_cases z : hasKey (keyD k) ds = true
  · rw [if_pos z, if_pos z]; exact h.repl r
  · rw [if_neg z, if_neg z]; exact h.app (.cons r .nil)
theorem DqKV.merge {K : Fg} {G : Wd} : ∀ {more : List (Key × V)} {ms : List (D × D)} {kvs : List (Key × V)} {ds : List (D × D)}, DqKV K G more ms → DqKV K G kvs ds → DqKV K G (mergeK kvs more) (mergeD ds ms)
  | _, _, _, _, .nil, h => h
  | _, _, _, _, .cons (kvs := kr) (ds := dr) (k := k) (v := v) (d := d) h t, h2 => by
    show DqKV K G (mergeK (putK _ k v) kr) (mergeD (putD _ (keyD k) d) dr)
    exact DqKV.merge t (h2.put h)
def toPairs : List D → Option (List (D × D))
  | [] => some []
  | .tuple [k, v] :: r => (match keyOf k with
    | some _ => (toPairs r).map ((k, v) :: ·)
    | none => none)
  | _ => none
def dDict : List D → Res D
  | [.list ds] => (match toPairs ds with | some ms => .ok (.dict (mergeD [] ms)) | none => .stuck)
  | [.tuple ds] => (match toPairs ds with | some ms => .ok (.dict (mergeD [] ms)) | none => .stuck)
  | [.dict kvs] => .ok (.dict kvs)
  | _ => .stuck
def get1E (f1 f2 : MM D) : MM D := MM.bind f1 fun x => match x with
  | .dict kvs => MM.bind f2 fun k => match keyOf k with
    | some _ => MM.pure ((valAt kvs k).getD .none)
    | none => stuck
  | _ => stuck
def get2E (f1 f2 f3 : MM D) : MM D := MM.bind f1 fun x => match x with
  | .dict kvs => MM.bind f2 fun k => MM.bind f3 fun z => match keyOf k with
    | some _ => MM.pure ((valAt kvs k).getD z)
    | none => stuck
  | _ => stuck
theorem me_gint {x : Str} {i : Int} (hg : Gl X x) (hm : ∃ t, X.mg x = some (.int i t)) (hd : (x == ("__debug__" : Str)) = false := by decide) : PE X (.Name x pos) (mE X.K T c W (MM.pure (.int i))) := by
  obtain ⟨t, hm⟩ := hm
  exact me_const (pe_glob (v := V.int i) hg hm ⟨t, rfl⟩ hd) fun _ => .int i
theorem me_gstr {x z : Str} (hg : Gl X x) (hm : ∃ t, X.mg x = some (.str z t)) (hd : (x == ("__debug__" : Str)) = false := by decide) : PE X (.Name x pos) (mE X.K T c W (MM.pure (.str z))) := by
  obtain ⟨t, hm⟩ := hm
  exact me_const (pe_glob (v := V.str z) hg hm ⟨t, rfl⟩ hd) fun _ => .str z
def zipD : List D → List D → List D
  | x :: xs, y :: ys => .tuple [x, y] :: zipD xs ys
  | _, _ => []
def zip2 : List D → Res (List D)
  | [.list xs, .list ys] => .ok (zipD xs ys)
  | [.tuple xs, .tuple ys] => .ok (zipD xs ys)
  | _ => .stuck
theorem zipD_length : ∀ (xs ys : List D), (zipD xs ys).length = min xs.length ys.length
  | [], _ => by simp [zipD]
  | _ :: _, [] => by simp [zipD]
  | x :: xs, y :: ys => by simp only [zipD, List.length_cons, zipD_length xs ys]; omega
theorem zipD_get : ∀ {xs ys : List D} {i : Nat} {x y : D}, xs[i]? = some x → ys[i]? = some y → (zipD xs ys)[i]? = some (.tuple [x, y])
  | [], _, _, _, _, h, _ => by simp at h
  | _ :: _, [], _, _, _, _, h => by simp at h
  | a :: xs, b :: ys, 0, x, y, h1, h2 => by simp at h1 h2; subst h1; subst h2; rfl
  | a :: xs, b :: ys, i + 1, x, y, h1, h2 => by
    simp only [List.getElem?_cons_succ] at h1 h2
    show (zipD xs ys)[i]? = _
    exact zipD_get h1 h2
theorem gives_zipL {K : Fg} {c : Gh} {G : Wd} {a b : Addr} {vs ws : List V} {ds es : List D} (hq : SqL K G a vs) (hr : DqAll K G vs ds) (hq2 : SqL K G b ws) (hr2 : DqAll K G ws es) : Gives (relY K) (Itz K a b) c G (zipD ds es) where
  go := fun i G1 H l1 l2 _ hi => by
    rw [zipD_length, ← hr.length, ← hr2.length] at hi
    have h1 : i < vs.length := by omega
    have h2 : i < ws.length := by omega
    exact ⟨vs, ws, vs[i], ws[i], sqL_sub (sqL_sub hq l1.sub) l2.sub, sqL_sub (sqL_sub hq2 l1.sub) l2.sub, by simp [h1], by simp [h2]⟩
  stop := fun G1 H l1 l2 _ => ⟨vs, ws, sqL_sub (sqL_sub hq l1.sub) l2.sub, sqL_sub (sqL_sub hq2 l1.sub) l2.sub, by rw [zipD_length, ← hr.length, ← hr2.length]; omega⟩
  yld := fun i G1 H x H' l1 l2 _ hi y => by
    obtain ⟨T, u, w, rfl, hn, rfl, y1, y2⟩ := y
    obtain ⟨d1, e1, q1⟩ := hr.get (y1 vs (sqL_sub (sqL_sub hq l1.sub) l2.sub))
    obtain ⟨d2, e2, q2⟩ := hr2.get (y2 ws (sqL_sub (sqL_sub hq2 l1.sub) l2.sub))
    have l3 : Le G1 (wupd G1 T (.tup [u, w])) := Le.upd (le_none l2 hn)
    exact ⟨.tuple [d1, d2], zipD_get e1 e2, .inr ⟨T, _, hn, (by intro _ z; cases z), rfl, .inr ⟨T, _, _, rfl, rfl, SqT.of upd_same, .cons ((q1.le l1).le l3) (.cons ((q2.le l1).le l3) .nil)⟩⟩⟩
theorem gives_zipT {K : Fg} {c : Gh} {G : Wd} {a b : Addr} {vs ws : List V} {ds es : List D} (hq : SqT K G a vs) (hr : DqAll K G vs ds) (hq2 : SqT K G b ws) (hr2 : DqAll K G ws es) : Gives (relY K) (RZ.ItzT K a b) c G (zipD ds es) where
  go := fun i G1 H l1 l2 _ hi => by
    rw [zipD_length, ← hr.length, ← hr2.length] at hi
    have h1 : i < vs.length := by omega
    have h2 : i < ws.length := by omega
    exact ⟨vs, ws, vs[i], ws[i], sqT_sub (sqT_sub hq l1.sub) l2.sub, sqT_sub (sqT_sub hq2 l1.sub) l2.sub, by simp [h1], by simp [h2]⟩
  stop := fun G1 H l1 l2 _ => ⟨vs, ws, sqT_sub (sqT_sub hq l1.sub) l2.sub, sqT_sub (sqT_sub hq2 l1.sub) l2.sub, by rw [zipD_length, ← hr.length, ← hr2.length]; omega⟩
  yld := fun i G1 H x H' l1 l2 _ hi y => by
    obtain ⟨T, u, w, rfl, hn, rfl, y1, y2⟩ := y
    obtain ⟨d1, e1, q1⟩ := hr.get (y1 vs (sqT_sub (sqT_sub hq l1.sub) l2.sub))
    obtain ⟨d2, e2, q2⟩ := hr2.get (y2 ws (sqT_sub (sqT_sub hq2 l1.sub) l2.sub))
    have l3 : Le G1 (wupd G1 T (.tup [u, w])) := Le.upd (le_none l2 hn)
    exact ⟨.tuple [d1, d2], zipD_get e1 e2, .inr ⟨T, _, hn, (by intro _ z; cases z), rfl, .inr ⟨T, _, _, rfl, rfl, SqT.of upd_same, .cons ((q1.le l1).le l3) (.cons ((q2.le l1).le l3) .nil)⟩⟩⟩
theorem mi_zip {e2 : Expr} {g : MM (List D)} {tpos : Pos} {elts : List Expr} {kk : Nat} (hg : Gl X "zip") (hm : X.mg "zip" = none) (ha : PA X [e, e2] (mA X.K T c W g))
    (hs : starEach [e, e2] X.env = (false, eval e X.env) :: starEach [e2] X.env := by rfl) (hpl : (backTo pos (starEach [e2] X.env)).any (·.1) = false := by rfl) :
    PI X (.Tuple elts kk tpos) (.Call (.Name "zip" p) [e, e2] [] pos) (mI X.K T c W (relY X.K) (MM.bind g fun ds => lift (zip2 ds))) := by
  refine ⟨fun pins s σ H R I h => (RZ.pi_zipA hg hm ha hs hpl).run pins s σ H R I ?_⟩
  obtain ⟨G, ρ, j, p⟩ := h
  refine pX_bind j p fun ds vs ρ1 G1 H1 l1 j1 r1 p1 => ?_
  cases r1 with
  | nil => exact p1.elim
  | cons d1 r1 =>
    cases r1 with
    | nil => cases d1 <;> exact p1.elim
    | cons d2 r1 =>
      cases r1 with
      | cons _ _ => cases d1 <;> (try exact p1.elim) <;> cases d2 <;> exact p1.elim
      | nil =>
        cases d1 with
        | lst h1 h2 =>
          cases d2 with
          | lst h3 h4 => exact ⟨_, _, _, _, rfl, .inl ⟨sqL_sub (.inl h1) j1.subH, sqL_sub (.inl h3) j1.subH, p1 _ G1 H1 (Le.refl G1) j1 (gives_zipL (.inl h1) h2 (.inl h3) h4)⟩⟩
          | _ => exact p1.elim
        | tup h1 h2 =>
          cases d2 with
          | tup h3 h4 => exact ⟨_, _, _, _, rfl, .inr ⟨sqT_sub h1.sq j1.subH, sqT_sub h3.sq j1.subH, p1 _ G1 H1 (Le.refl G1) j1 (gives_zipT h1.sq h2 h3.sq h4)⟩⟩
          | _ => exact p1.elim
        | _ => cases d2 <;> exact p1.elim
def enumD : Nat → List D → List D
  | _, [] => []
  | i, x :: xs => .tuple [.int i, x] :: enumD (i + 1) xs
theorem enumD_length : ∀ (n : Nat) (xs : List D), (enumD n xs).length = xs.length
  | _, [] => rfl
  | n, x :: xs => by simp [enumD, enumD_length (n + 1) xs]
theorem enumD_get : ∀ {xs : List D} {n i : Nat} {x : D}, xs[i]? = some x → (enumD n xs)[i]? = some (.tuple [.int ((n + i : Nat) : Int), x])
  | [], _, _, _, h => by simp at h
  | a :: xs, n, 0, x, h => by simp at h; subst h; rfl
  | a :: xs, n, i + 1, x, h => by
    simp only [List.getElem?_cons_succ] at h
    show (enumD (n + 1) xs)[i]? = _
    rw [enumD_get (n := n + 1) h]
    congr 4
    omega
theorem gives_enum {K : Fg} {c : Gh} {G : Wd} {a : Addr} {vs : List V} {ds : List D} (hq : SqL K G a vs) (hr : DqAll K G vs ds) : Gives (relY K) (Ite K a) c G (enumD 0 ds) where
  go := fun i G1 H l1 l2 _ hi => by
    rw [enumD_length, ← hr.length] at hi
    exact ⟨vs, vs[i], sqL_sub (sqL_sub hq l1.sub) l2.sub, by simp [hi]⟩
  stop := fun G1 H l1 l2 _ => ⟨vs, sqL_sub (sqL_sub hq l1.sub) l2.sub, by rw [enumD_length, ← hr.length]; exact Nat.le_refl _⟩
  yld := fun i G1 H x H' l1 l2 _ hi y => by
    obtain ⟨T, u, rfl, hn, rfl, y1⟩ := y
    obtain ⟨d1, e1, q1⟩ := hr.get (y1 vs (sqL_sub (sqL_sub hq l1.sub) l2.sub))
    have l3 : Le G1 (wupd G1 T (.tup [V.int i, u])) := Le.upd (le_none l2 hn)
    refine ⟨.tuple [.int i, d1], by simpa using enumD_get (n := 0) e1, .inr ⟨T, _, hn, (by intro _ z; cases z), rfl, .inr ⟨T, _, _, rfl, rfl, SqT.of upd_same, .cons (.int _) (.cons ((q1.le l1).le l3) .nil)⟩⟩⟩
end
end Mi
set_option Elab.async false
set_option linter.all false
namespace Mi
open PySem L2
section
variable {K : Fg} {T : Tb} {c : Gh} {G G' : Wd} {H H' : Hp} {σ : St} {ρ : MSt}
theorem RS.addr {da : Addr} {s : S} {v : V} (h : RS K da G H s v) (o : s.own = true) : ∃ a u, v = .ref a ∧ G a = none ∧ H a = some u ∧ (∀ ps, u ≠ .tbl ps) ∧ (∀ x q, u ≠ LamX.CodeO x q) ∧ (∀ x, u ≠ .own x) := by
  cases s with
  | d x => cases o
  | sto b μ => cases o
  | ol xs => obtain ⟨a, vs, e, g, hh, _⟩ := h; exact ⟨a, _, e, g, hh, (fun _ z => by cases z), (fun _ _ z => by unfold LamX.CodeO at z; cases z), (fun _ z => by cases z)⟩
  | od xs => obtain ⟨a, vs, e, g, hh, _⟩ := h; exact ⟨a, _, e, g, hh, (fun _ z => by cases z), (fun _ _ z => by unfold LamX.CodeO at z; cases z), (fun _ z => by cases z)⟩
  | dc xs => obtain ⟨_, a, vs, e, g, hh, _⟩ := h; exact ⟨a, _, e, g, hh, (fun _ z => by cases z), (fun _ _ z => by unfold LamX.CodeO at z; cases z), (fun _ z => by cases z)⟩
theorem drop_owns {i : Nat} {a : Addr} (h : a ∈ owns (σ.set i none) (ρ.set i none)) : a ∈ owns σ ρ := by
  obtain ⟨k, s, e1, e2, e3⟩ := mem_owns.mp h
  have z : k ≠ i := fun z => by
    subst z
    by_cases hk : k < ρ.length
    · rw [List.getElem?_set_self hk] at e1; cases e1
    · rw [List.getElem?_eq_none (by simpa using hk)] at e1; cases e1
  rw [List.getElem?_set_ne (Ne.symm z)] at e1 e3
  exact mem_owns.mpr ⟨k, s, e1, e2, e3⟩
/-- a slot that owns -/
theorem J.setOwn (j : J K T c G H σ ρ) {i : Nat} {a : Addr} {s : S} (hi : i + 1 < ρ.length) (r : RS K c.da G H s (.ref a)) (o : s.own = true) (h0 : c.H0 a = none ∨ a ∈ c.M) (no : a ∉ owns (σ.set i none) (ρ.set i none)) (nm : a ∉ G.m) : J K T c G H (σ.set i (some (.ref a))) (ρ.set i (some s)) := by
  have hs : i < σ.length := by have := j.len; omega
  have hi' : i < ρ.length := by omega
  have at_ : ∀ {k : Nat} {t : S}, (ρ.set i (some s))[k]? = some (some t) → (k = i ∧ t = s) ∨ (k ≠ i ∧ ρ[k]? = some (some t)) := fun {k t} e => by
    by_cases z : k = i
    · subst z; rw [List.getElem?_set_self hi'] at e; cases e; exact .inl ⟨rfl, rfl⟩
    · rw [List.getElem?_set_ne (Ne.symm z)] at e; exact .inr ⟨z, e⟩
  have other : ∀ {k : Nat} {t : S} {b : Addr}, k ≠ i → ρ[k]? = some (some t) → t.own = true → σ[k]? = some (some (.ref b)) → a ≠ b := fun {k t b} z e1 e2 e3 q => by
    subst q
    exact no (mem_owns.mpr ⟨k, t, by rw [List.getElem?_set_ne (Ne.symm z)]; exact e1, e2, by rw [List.getElem?_set_ne (Ne.symm z)]; exact e3⟩)
  refine ⟨j.sub, j.g0, j.gn, j.fr, j.ft, by simp [j.len], fun k t e ns => ?_, fun k t b e o e2 => ?_, fun k l t u b d e1 e2 o1 o2 f1 f2 n => ?_, j.tb, j.nt, fun b μ e => ?_, ⟨j.mj.hr, fun b m n => ?_, j.mj.gr, j.mj.nm, j.mj.wf⟩⟩
  · rcases at_ e with ⟨rfl, rfl⟩ | ⟨z, e⟩
    · exact ⟨.ref a, List.getElem?_set_self hs, r⟩
    · obtain ⟨w, h1, h2⟩ := j.sl k t e ns
      exact ⟨w, by rw [List.getElem?_set_ne (Ne.symm z)]; exact h1, h2⟩
  · rcases at_ e with ⟨rfl, rfl⟩ | ⟨z, e⟩
    · rw [List.getElem?_set_self hs] at e2; cases e2; exact h0
    · rw [List.getElem?_set_ne (Ne.symm z)] at e2; exact j.ow k t b e o e2
  · rcases at_ e1 with ⟨z, q1⟩ | ⟨z, q1⟩
    · rcases at_ e2 with ⟨z2, q2⟩ | ⟨z2, q2⟩
      · exact absurd (z.trans z2.symm) n
      · rw [z, List.getElem?_set_self hs] at f1
        cases f1
        rw [List.getElem?_set_ne (Ne.symm z2)] at f2
        exact other z2 q2 o2 f2
    · rw [List.getElem?_set_ne (Ne.symm z)] at f1
      rcases at_ e2 with ⟨z2, q2⟩ | ⟨z2, q2⟩
      · rw [z2, List.getElem?_set_self hs] at f2
        cases f2
        exact (other z q1 o1 f1).symm
      · rw [List.getElem?_set_ne (Ne.symm z2)] at f2
        exact j.ap k l t u b d q1 q2 o1 o2 f1 f2 n
  · rw [List.length_set] at e
    rw [List.getElem?_set_ne (by omega)] at e
    exact j.st b μ e
  · obtain ⟨k, t, e1, e2, e3⟩ := mem_owns.mp n
    rcases at_ e1 with ⟨z, q1⟩ | ⟨z, q1⟩
    · rw [z, List.getElem?_set_self hs] at e3
      cases e3
      exact nm m
    · rw [List.getElem?_set_ne (Ne.symm z)] at e3
      exact j.mj.ow b m (mem_owns.mpr ⟨k, t, q1, e2, e3⟩)
/-- the slot's own object is changed -/
theorem J.upOwn (j : J K T c G H σ ρ) {i : Nat} {a : Addr} {s s' : S} {o : HO} (e : ρ[i]? = some (some s)) (ho : s.own = true) (hv : σ[i]? = some (some (.ref a))) (ho' : s'.own = true) (r : RS K c.da G (upd H a o) s' (.ref a)) : J K T c G (upd H a o) σ (ρ.set i (some s')) := by
  obtain ⟨v, e1, r1⟩ := j.sl i s e (S.own_sto ho)
  have hn : i < σ.length := (List.getElem?_eq_some_iff.mp hv).1
  have nm : a ∉ G.m := fun m => j.mj.ow a m (mem_owns.mpr ⟨i, s, e, ho, hv⟩)
  rw [hv] at e1
  cases e1
  obtain ⟨a', u, ea, g, hh, t1, t2, t3⟩ := r1.addr ho
  cases ea
  have hi : i < ρ.length := (List.getElem?_eq_some_iff.mp e).1
  have no : a ∉ owns (σ.set i none) (ρ.set i none) := fun m => by
    obtain ⟨k, t, f1, f2, f3⟩ := mem_owns.mp m
    have z : k ≠ i := fun z => by
      subst z
      rw [List.getElem?_set_self hi] at f1; cases f1
    rw [List.getElem?_set_ne (Ne.symm z)] at f1 f3
    exact j.ap i k s t a a e f1 ho f2 hv f3 (Ne.symm z) rfl
  have jd := (j.drop1 i).write (o' := o) g hh t1 t2 (j.ow i s a e ho hv) no nm t3
  have hl : i + 1 < (ρ.set i none).length := by have := j.len; simp; omega
  have js := jd.setOwn (i := i) (a := a) (s := s') hl r ho' (j.ow i s a e ho hv) (by rw [List.set_set, List.set_set]; exact no) nm
  rw [List.set_set, List.set_set] at js
  have es : σ.set i (some (.ref a)) = σ := by
    apply List.ext_getElem?
    intro k
    by_cases z : k = i
    · subst z; rw [List.getElem?_set_self hn, hv]
    · rw [List.getElem?_set_ne (Ne.symm z)]
  rw [es] at js
  exact js
/-- all that is owned, seen as data -/
def seenS : S → Option S
  | .ol xs => some (.d (.list xs))
  | .dc xs => some (.d (.list xs))
  | .od _ => none
  | .d x => some (.d x)
  | .sto _ μ => some (.sto false μ)
def seen (ρ : MSt) : MSt := ρ.map (fun o => o.bind seenS)
theorem seen_get {i : Nat} {s : S} (h : (seen ρ)[i]? = some (some s)) : ∃ t, ρ[i]? = some (some t) ∧ seenS t = some s := by
  unfold seen at h
  rw [List.getElem?_map] at h
  cases e : ρ[i]? with
  | none => rw [e] at h; cases h
  | some o =>
    rw [e] at h
    cases o with
    | none => cases h
    | some t => exact ⟨t, rfl, Option.some.inj h⟩
theorem seenS_own {s t : S} (h : seenS s = some t) : t.own = false := by cases s <;> cases h <;> rfl
open Classical in
noncomputable def withOwn (G : Wd) (H : Hp) (l : List Addr) : Wd := ⟨fun a => if a ∈ l then H a else G a, G.m⟩
theorem withOwn_le (j : J K T c G H σ ρ) : Le G (withOwn G H (owns σ ρ)) := ⟨fun a o e => by
  show (if a ∈ owns σ ρ then H a else G a) = some o
  split
  · exact j.sub a o e
  · exact e, List.prefix_refl _⟩
theorem withOwn_sub (j : J K T c G H σ ρ) : Lh (withOwn G H (owns σ ρ)) H := fun a o e => by
  have e : (if a ∈ owns σ ρ then H a else G a) = some o := e
  split at e
  · exact e
  · exact j.sub a o e
theorem J.seen (j : J K T c G H σ ρ) : J K T ⟨H, withOwn G H (owns σ ρ), [], c.da, false, c.lk⟩ (withOwn G H (owns σ ρ)) H σ (seen ρ) := by
  refine ⟨withOwn_sub j, Le.refl _, fun _ e _ _ => e, fun _ _ e _ _ => e, fun _ ps e => ⟨ps, e⟩, by unfold Mi.seen; rw [List.length_map]; exact j.len, fun i s e ns => ?_, fun i s a e o _ => ?_, fun i k s t a b e1 e2 o1 o2 f1 f2 n => ?_, j.tb, fun a ps z => ?_, fun b μ e => ?_, ⟨j.mj.hr, fun a m n => ?_, fun a m => .inl m, fun _ => rfl, fun a h => ⟨by simp, (j.hereFz h).2⟩⟩⟩
  · obtain ⟨t, e1, es⟩ := seen_get e
    have nt : t.isSto = false := by cases t <;> first | rfl | (cases es; cases ns)
    obtain ⟨v, h1, r⟩ := j.sl i t e1 nt
    refine ⟨v, h1, ?_⟩
    have l := withOwn_le j
    have at_ : ∀ {a : Addr}, v = .ref a → t.own = true → (withOwn G H (owns σ ρ)).hp a = H a := fun {a} hv o => by
      show (if a ∈ owns σ ρ then H a else G a) = H a
      rw [if_pos (mem_owns.mpr ⟨i, t, e1, o, by rw [← hv]; exact h1⟩)]
    cases t with
    | d x => cases es; exact Dq.le r l
    | ol xs => cases es; obtain ⟨a, vs, rfl, g, hh, r⟩ := r; exact .lst (.inl (by rw [at_ rfl rfl]; exact hh)) (r.le l)
    | dc xs => cases es; obtain ⟨_, a, vs, rfl, g, hh, r⟩ := r; exact .lst (.inl (by rw [at_ rfl rfl]; exact hh)) (r.le l)
    | od xs => cases es
    | sto b μ => cases nt
  · obtain ⟨t, e1, es⟩ := seen_get e
    rw [seenS_own es] at o; cases o
  · obtain ⟨t, e1, es⟩ := seen_get e1
    rw [seenS_own es] at o1; cases o1
  · have z : (if a ∈ owns σ ρ then H a else G a) = _ := z
    split at z
    · rename_i m
      obtain ⟨i, s, h1, h2, h3⟩ := mem_owns.mp m
      obtain ⟨v, q1, q2⟩ := j.sl i s h1 (S.own_sto h2)
      rw [h3] at q1
      cases q1
      obtain ⟨a', u, ea, _, hh, t1, _⟩ := q2.addr h2
      cases ea
      rw [hh] at z
      exact t1 ps (Option.some.inj z)
    · exact j.nt a ps z
  · obtain ⟨t, e1, es⟩ := seen_get e
    have : ∃ b', t = .sto b' μ ∧ b = false := by cases t <;> cases es; exact ⟨_, rfl, rfl⟩
    obtain ⟨b', rfl, rfl⟩ := this
    obtain ⟨s1, s3⟩ := j.st b' μ e1
    refine ⟨s1.keep (withOwn_le j) rfl (fun d g m _ => ?_) fun d o e _ => e, (fun z => by cases z), (fun z => by cases z), s3.lk⟩
    show (if d ∈ owns σ ρ then H d else G d) = none
    rw [if_neg (fun n => ?_)]
    · exact g
    · rcases m with m | ⟨x, m⟩
      · exact j.mj.ow d m n
      · obtain ⟨i, s, h1, h2, h3⟩ := mem_owns.mp n
        obtain ⟨v, q1, q2⟩ := j.sl i s h1 (S.own_sto h2)
        rw [h3] at q1
        cases q1
        obtain ⟨a', u, ea, _, hh, _, _, t3⟩ := q2.addr h2
        cases ea
        rw [hh] at m
        exact t3 x (Option.some.inj m)
  · obtain ⟨i, s, h1, h2, h3⟩ := mem_owns.mp n
    obtain ⟨t, e1, es⟩ := seen_get h1
    rw [seenS_own es] at h2; cases h2
/-- .. and back, nothing of it kept -/
theorem J.unseen (j : J K T c G H σ ρ) {G2 : Wd} {ρ2 : MSt} (j2 : J K T ⟨H, withOwn G H (owns σ ρ), [], c.da, false, c.lk⟩ G2 H' σ ρ2) : J K T c G H' σ ρ :=
  j.after ⟨Le.refl G, ((withOwn_le j).trans j2.g0).lh j2.sub, fun _ e _ => e, fun a o e t => j2.fr a o e (by simp) t, j2.ft, j2.tb, j.nt, rfl⟩
end
def scal : D → Bool
  | .none | .bool _ | .int _ | .str _ => true
  | _ => false
def borrow (f : MM D) : MM D := fun ρ => match f (seen ρ) with
  | .ok d _ => if scal d = true then .ok d ρ else .stuck
  | _ => .stuck
def borrowT (f : MM Bool) : MM Bool := fun ρ => match f (seen ρ) with
  | .ok d _ => .ok d ρ
  | _ => .stuck
theorem scal_dq {K : Fg} {G G' : Wd} {v : V} {d : D} (h : Dq K G v d) (s : scal d = true) : Dq K G' v d := by
  cases h with
  | non => exact .non
  | bl b => exact .bl b
  | int i => exact .int i
  | str x => exact .str x
  | _ => cases s
section
variable {X : Cx} {T : Tb} {c : Gh} {W : WX} {a b e : Expr} {f f1 f2 f3 : MM D} {pos p : Pos}
theorem me_borrow (h : ∀ c, PE X e (mE X.K T c W0 f)) : PE X e (mE X.K T c W (borrow f)) := by
  refine ⟨fun pins s σ H Q I ⟨G, ρ, j, p⟩ => ?_⟩
  refine (h ⟨H, withOwn G H (owns σ ρ), [], c.da, false, c.lk⟩).run pins s σ H Q I ⟨_, _, j.seen, ?_⟩
  unfold borrow at p
  cases z : f (seen ρ) with
  | ok d ρ2 =>
    rw [z] at p
    by_cases sc : scal d = true
    · simp only [sc, if_true] at p
      exact fun v G' H' l j' dv => p v G H' (Le.refl G) (j.unseen j') (scal_dq dv sc)
    · simp only [sc] at p; exact p.elim
  | exn y ρ2 => rw [z] at p; exact p.elim
  | stuck => rw [z] at p; exact p.elim
def newS (i : Nat) (s : S) : MM Fl := fun ρ => if i + 1 < ρ.length then .ok .nx (ρ.set i (some s)) else .stuck
/-- {} as data -/
theorem me_dnew : PE X (.Dict [] [] pos) (mE X.K T c W (MM.pure (.dict []))) :=
  pe_mono (pe_lockV pe_dnewK) fun σ H Q ⟨G, ρ, j, p⟩ => fun q hq => LockQ.new trivial fun od => p _ _ _ (Le.upd (j.fresh hq)) (j.grow hq) (.dic ⟨_, upd_same⟩ .nil)
/-- x.append(e) -/
def appS (i : Nat) (f : MM D) : MM Fl := fun ρ => match ρ[i]? with
  | some (some (.ol _)) => MM.bind f (fun d ρ' => match ρ'[i]? with
    | some (some (.ol xs)) => if xs.length < sizeLine then .ok .nx (ρ'.set i (some (.ol (xs ++ [d])))) else .stuck
    | _ => .stuck) ρ
  | _ => .stuck
theorem ms_append {i : Nat} {x : Str} {xp apos cpos : Pos} (hN : X.N[i]? = some x) (hv : Vis X.env.scope x) (he : PE X e (mE X.K T c W f)) (hd : (x == ("__debug__" : Str)) = false := by decide) (hcd : (x == ("__classdict__" : Str)) = false := by decide)
    (hbase : attributeBase (.Name x xp) "append" X.env (eval (.Name x xp) X.env) = eval (.Name x xp) X.env := by rfl)
    (hfew : ((backTo cpos (starEach [e] X.env)).all (fun x => !x.1) && (backToKw cpos (keywordEach [] X.env)).all (fun x => x.1.isSome)
      && decide ([e].length + ([] : List Keyword).length + (if ([] : List Keyword).isEmpty then 0 else 1) < 30)) = true := by rfl)
    (hline : (apos.endLine == cpos.line) = true := by rfl) (hs : starEach [e] X.env = (false, eval e X.env) :: starEach [] X.env := by rfl) (hplain : (backTo cpos (starEach [] X.env)).any (·.1) = false := by rfl)
    (hsw : swapsWith (.Call (.Attribute (.Name x xp) "append" apos) [e] [] cpos) none pos.line X.env = pure false := by rfl) :
    PS X (.Expr (.Call (.Attribute (.Name x xp) "append" apos) [e] [] cpos) pos) (mS X.K T c W (appS i f)) := by
  refine ps_mono (ps_expr (pe_bm PySem.F.plainAttrs_list PySem.F.slot_list_append PySem.F.type_list_append mt_append (pe_var (i := i) (pos := xp) hN hv hd hcd) (pa_cons he pa_nil hs) hbase hfew hline hs hplain) hsw) fun Dn σ H ⟨G, ρ, j, p⟩ => ?_
  unfold appS at p
  split at p
  · rename_i xs hx
    obtain ⟨v, e1, al, vs, rfl, g, hh, r⟩ := j.sl i _ hx
    refine ⟨_, e1, .inl ⟨rfl, _, SqL.of hh⟩, ?_⟩
    refine pS_bind j p fun d w ρ1 G1 H1 l1 j1 r1 p1 => ?_
    split at p1
    · rename_i ys hy
      by_cases hz : ys.length < sizeLine
      · rw [if_pos hz] at p1
        obtain ⟨v2, e2, bl, ws, rfl, g2, hh2, r2⟩ := j1.sl i _ hy
        rw [e1] at e2
        cases e2
        exact ⟨_, ws, w, rfl, rfl, hh2, by rw [r2.length]; exact hz, p1 σ G1 _ (Le.refl G1) (j1.upOwn hy rfl e1 rfl ⟨_, _, rfl, g2, upd_same, r2.app (.one r1)⟩)⟩
      · rw [if_neg hz] at p1; exact p1.elim
    · exact p1.elim
  · exact p.elim
/-- x[k] = v, x an owned dict -/
def putS (i : Nat) (fv fk : MM D) : MM Fl := MM.bind fv fun v => fun ρ => match ρ[i]? with
  | some (some (.od _)) => MM.bind fk (fun k ρ' => match ρ'[i]?, keyOf k with
    | some (some (.od kvs)), some _ => if kvs.length < sizeLine then .ok .nx (ρ'.set i (some (.od (putD kvs k v)))) else .stuck
    | _, _ => .stuck) ρ
  | _ => .stuck
/-- from now on it stands still -/
def frzS (i : Nat) (ρ : MSt) : MSt := match ρ[i]? with
  | some (some (.ol xs)) => ρ.set i (some (.d (.list xs)))
  | some (some (.od kvs)) => ρ.set i (some (.d (.dict kvs)))
  | _ => ρ
theorem set_same_val {σ : St} {i : Nat} {v : V} (h : σ[i]? = some (some v)) : σ.set i (some v) = σ := by
  apply List.ext_getElem?
  intro k
  by_cases z : k = i
  · subst z; rw [List.getElem?_set_self (List.getElem?_eq_some_iff.mp h).1, h]
  · rw [List.getElem?_set_ne (Ne.symm z)]
theorem J.frz1 {K : Fg} {G : Wd} {H : Hp} {σ : St} {ρ : MSt} (j : J K T c G H σ ρ) (i : Nat) : (∃ G', Le G G' ∧ J K T c G' H σ (frzS i ρ)) ∨ ∃ d kvs, H d = some (.dK kvs) ∧ ∀ od, ∃ G', Le G G' ∧ J K T c G' (upd H d (.frz od (.dK kvs))) σ (frzS i ρ) := by
  have key : ∀ {s : S} {a : Addr} {o o' : HO} {d : D}, ρ[i]? = some (some s) → s.own = true → σ[i]? = some (some (.ref a)) → G a = none → H a = some o → (∀ ps, o ≠ .tbl ps) → (∀ x q, o ≠ LamX.CodeO x q) → (∀ x, o ≠ .own x) → (∀ ps, o' ≠ .tbl ps) → (∀ x, o' ≠ .own x) → (Le G (wupd G a o') → Dq K (wupd G a o') (.ref a) d) → Le G (wupd G a o') ∧ J K T c (wupd G a o') (upd H a o') σ (ρ.set i (some (.d d))) := fun {s a o o' d} e ho hv g hh t1 t2 t3 nt nw hd => by
    have nm : a ∉ G.m := fun m => j.mj.ow a m (mem_owns.mpr ⟨i, s, e, ho, hv⟩)
    have hn : i < σ.length := (List.getElem?_eq_some_iff.mp hv).1
    have hi : i < ρ.length := (List.getElem?_eq_some_iff.mp e).1
    have no : a ∉ owns (σ.set i none) (ρ.set i none) := fun m => by
      obtain ⟨k, t, f1, f2, f3⟩ := mem_owns.mp m
      have z : k ≠ i := fun z => by
        subst z
        rw [List.getElem?_set_self hi] at f1; cases f1
      rw [List.getElem?_set_ne (Ne.symm z)] at f1 f3
      exact j.ap i k s t a a e f1 ho f2 hv f3 (Ne.symm z) rfl
    have jw := (j.drop1 i).write (o' := o') g hh t1 t2 (j.ow i s a e ho hv) no nm t3
    have js := (jw.still g upd_same (j.ow i s a e ho hv) no nm nt nw).set (i := i) (v := .ref a) (d := d) (by have := j.len; simp; omega) (hd (Le.upd g))
    rw [List.set_set, List.set_set, set_same_val hv] at js
    exact ⟨Le.upd g, js⟩
  have self : ∀ {a : Addr} {o : HO}, H a = some o → upd H a o = H := fun {a o} e => by
    funext b
    by_cases z : b = a
    · subst z; rw [upd_same, e]
    · rw [upd_ne z]
  unfold frzS
  split
  · rename_i xs hx
    obtain ⟨v, e1, a, vs, rfl, g, hh, r⟩ := j.sl i _ hx
    have q := key (o' := .lst vs) (d := .list xs) hx rfl e1 g hh (fun _ z => by cases z) (fun _ _ z => by unfold LamX.CodeO at z; cases z) (fun _ z => by cases z) (fun _ z => by cases z) (fun _ z => by cases z) fun l => .lst (.inl upd_same) (r.le l)
    rw [self hh] at q
    exact .inl ⟨_, q⟩
  · rename_i xs hx
    obtain ⟨v, e1, a, vs, rfl, g, hh, r⟩ := j.sl i _ hx
    refine .inr ⟨a, vs, hh, fun od => ⟨_, key (o' := .frz od (.dK vs)) (d := .dict xs) hx rfl e1 g hh (fun _ z => by cases z) (fun _ _ z => by unfold LamX.CodeO at z; cases z) (fun _ z => by cases z) (fun _ z => by cases z) (fun _ z => by cases z) fun l => .dic ⟨_, upd_same⟩ (r.le l)⟩⟩
  · exact .inl ⟨G, Le.refl G, j⟩
theorem ms_freeze {sts : List Stmt} {s : MM Fl} (i : Nat) (h : PSs X sts (mS X.K T c W s)) : PSs X sts (mS X.K T c W (fun ρ => s (frzS i ρ))) := by
  refine ⟨fun pins sh σ H Dn I ⟨G, ρ, j, p⟩ => ?_⟩
  rcases j.frz1 i with ⟨G', l, j'⟩ | ⟨d, kvs, hd, k⟩
  · exact h.run pins sh σ H Dn I ⟨G', _, j', pS.le l p⟩
  · refine (pss_lockV h).run pins sh σ H Dn I ⟨d, _, hd, trivial, fun od => ?_⟩
    obtain ⟨G', l, j'⟩ := k od
    exact ⟨G', _, j', pS.le l p⟩
end
end Mi
set_option Elab.async false
set_option linter.all false
set_option maxRecDepth 100000
set_option maxHeartbeats 4000000
namespace Mi
open PySem L2
section
variable (K : Fg) (T : Tb) (c : Gh) (W : WX)
def pO (σ : St) (G : Wd) (Q : VK) : Out S → Prop
  | .ok s ρ' => ∀ D G' H', Le G G' → J K T c G' H' σ ρ' → s.own = true → RS K c.da G' H' s (.ref D) → (c.H0 D = none ∨ D ∈ c.M) → D ∉ owns σ ρ' ∧ D ∉ G'.m → Q (.ref D) H'
  | .exn e ρ' => ∀ cls dx G' H', Le G G' → J K T c G' H' σ ρ' → IsX K G'.hp e cls dx → W cls dx σ H'
  | .stuck => False
def mO (f : MM S) : TE := fun σ H Q => ∃ G ρ, J K T c G H σ ρ ∧ pO K T c W σ G Q (f ρ)
end
section
variable {X : Cx} {T : Tb} {c : Gh} {W : WX} {a b e : Expr} {f f1 f2 f3 : MM D} {pos p : Pos}
/-- owned, put into a slot -/
theorem J.keep {K : Fg} {G : Wd} {H : Hp} {σ : St} {ρ : MSt} {D : Addr} {s : S} {i : Nat} (j : J K T c G H σ ρ) (hi : i + 1 < ρ.length) (ho : s.own = true) (r : RS K c.da G H s (.ref D)) (h0 : c.H0 D = none ∨ D ∈ c.M) (no : D ∉ owns σ ρ ∧ D ∉ G.m) : J K T c G H (σ.set i (some (.ref D))) (ρ.set i (some s)) :=
  j.setOwn hi r ho h0 (fun m => no.1 (drop_owns m)) no.2
/-- .. or data from now on -/
def asD : S → Res D
  | .ol xs => .ok (.list xs)
  | .od kvs => .ok (.dict kvs)
  | _ => .stuck
theorem me_asD {fo : MM S} (h : PE X e (mO X.K T c W fo)) : PE X e (mE X.K T c W (MM.bind fo fun s => lift (asD s))) := by
  refine ⟨fun pins sh σ H Q I ⟨G, ρ, j, p⟩ => ?_⟩
  have key : ∀ {G : Wd} {H : Hp} {ρ : MSt} {D : Addr} {o o' : HO}, J X.K T c G H σ ρ → G D = none → H D = some o → (∀ ps, o ≠ .tbl ps) → (∀ x q, o ≠ LamX.CodeO x q) → (c.H0 D = none ∨ D ∈ c.M) → D ∉ owns σ ρ ∧ D ∉ G.m → (∀ x, o ≠ .own x) → (∀ ps, o' ≠ .tbl ps) → (∀ x, o' ≠ .own x) → J X.K T c (wupd G D o') (upd H D o') σ ρ := fun j g hh t1 t2 h0 no t3 nt nw => (j.write g hh t1 t2 h0 no.1 no.2 t3).still g upd_same h0 no.1 no.2 nt nw
  have q : mO X.K T c W fo σ H (fun v H1 => Q v H1 ∨ LockQ Q v H1) := by
    refine ⟨G, ρ, j, ?_⟩
    unfold MM.bind at p
    cases z : fo ρ with
    | ok s ρ1 =>
      rw [z] at p
      intro D G1 H1 l1 j1 ho r h0 no
      cases s with
      | ol xs =>
        obtain ⟨a, vs, e1, g, hh, r⟩ := r
        cases e1
        have js := j1.still g hh h0 no.1 no.2
        exact .inl (p _ _ _ (l1.trans (Le.upd g)) js (.lst (.inl upd_same) (r.le (Le.upd g))))
      | od xs =>
        obtain ⟨a, vs, e1, g, hh, r⟩ := r
        cases e1
        exact .inr ⟨D, _, rfl, hh, trivial, fun od => p _ _ _ (l1.trans (Le.upd g)) (key j1 g hh (fun _ z => by cases z) (fun _ _ z => by unfold LamX.CodeO at z; cases z) h0 no (fun _ z => by cases z) (fun _ z => by cases z) (fun _ z => by cases z)) (.dic ⟨_, upd_same⟩ (r.le (Le.upd g)))⟩
      | dc xs => exact p.elim
      | d xs => exact p.elim
      | sto b μ => exact p.elim
    | exn y ρ1 => rw [z] at p; exact p
    | stuck => rw [z] at p; exact p.elim
  refine thn (h.run pins sh σ H _ I q) fun v s1 ⟨x, H1, I1, r1, q1⟩ => ?_
  rcases q1 with q1 | ⟨d, u, e1, hd, mu, k⟩
  · exact ⟨x, H1, I1, r1, q1⟩
  · obtain ⟨od, I2⟩ := I1.lock hd mu
    exact ⟨x, _, I2, r1, k od⟩
def newO (fo : MM S) (i : Nat) : MM Fl := MM.bind fo fun s => newS i s
theorem newO_to {fo : MM S} {i : Nat} (Dn : Ends) (σ : St) (H : Hp) (h : mS X.K T c W (newO fo i) Dn σ H) : tAsg (mO X.K T c W fo) (gName i) Dn σ H := by
  obtain ⟨G, ρ, j, p⟩ := h
  refine ⟨G, ρ, j, ?_⟩
  unfold newO MM.bind at p
  cases z : fo ρ with
  | ok s ρ1 =>
    rw [z] at p
    intro D G1 H1 l1 j1 ho r h0 no
    have p2 : pS X.K T c W Dn G (newS i s ρ1) := p
    unfold newS at p2
    by_cases hl : i + 1 < ρ1.length
    · rw [if_pos hl] at p2
      exact p2 _ G1 H1 l1 (j1.keep hl ho r h0 no)
    · rw [if_neg hl] at p2; exact p2.elim
  | exn y ρ1 => rw [z] at p; exact fun cls dx G' H' l j' i => p cls dx σ G' H' l j' i
  | stuck => rw [z] at p; exact p.elim
theorem ms_newO {i : Nat} {x : Str} {pos' : Pos} {fo : MM S} (hN : X.N.Nodup) (hi : X.N[i]? = some x) (hx : Loc X.env.scope x) (he : PE X e (mO X.K T c W fo)) (hs : swapsWith e (some (.Name x pos')) pos.line X.env = pure false := by rfl) (hf : X.fn x = true ∨ X.env.scope.names.lookup x = some .local := by first | exact .inl rfl | exact .inr rfl | assumption) :
    PS X (.Assign [.Name x pos'] e pos) (mS X.K T c W (newO fo i)) := ps_mono (ps_set (pos' := pos') hN hi hx he hs hf) newO_to
end
def compK (os : List Nat) (g : D → MSt → Option MSt) (t : MM Bool) (ek ev : MM D) : List D → List (D × D) → MM (List (D × D))
  | [], acc => MM.pure acc
  | x :: xs, acc => fun ρ => match g x (wipeM ρ os) with
    | none => .stuck
    | some ρ1 => match t ρ1 with
      | .ok true ρ2 => match ek ρ2 with
        | .ok k ρ3 => match ev ρ3 with
          | .ok y ρ4 => if acc.length < sizeLine ∧ (keyOf k).isSome = true then compK os g t ek ev xs (putD acc k y) ρ4 else .stuck
          | _ => .stuck
        | _ => .stuck
      | .ok false ρ2 => compK os g t ek ev xs acc ρ2
      | _ => .stuck
def compO (os : List Nat) (g : D → MSt → Option MSt) (t : MM Bool) (ek ev : MM D) (xs : List D) : MM S := fun ρ => match compK os g t ek ev xs [] ρ with
  | .ok ys ρe => .ok (.od ys) (restore os ρ ρe)
  | _ => .stuck
theorem restore_owns {os : List Nat} {ρ1 ρe : MSt} {σ : St} {D : Addr} (h : D ∈ owns σ (restore os ρ1 ρe)) : D ∈ owns (wipe σ os) (wipeM ρe os) := by
  obtain ⟨k, s, e1, e2, e3⟩ := mem_owns.mp h
  rcases restore_at e1 with ⟨z, x, rfl, q⟩ | ⟨z, q⟩
  · cases e2
  · exact mem_owns.mpr ⟨k, s, by rw [wipeM_out z]; exact q, e2, by rw [wipe_out z]; exact e3⟩
section
variable {X : Cx} {T : Tb} {c : Gh} {W : WX} {elt kx vx tg iter : Expr} {ifs : List Expr} {scope : Scope} {own : List (Str × Nat)} {pos spos : Pos} {fi : MM (List D)} {rel : Wd → V → D → Prop} {g : D → MSt → Option MSt} {t : MM Bool} {e ek ev : MM D} {os : List Nat}
theorem dc_to (σ : St) (H : Hp) (Q : VK) (h : mO X.K T c W (MM.bind fi (compO os g t ek ev)) σ H Q) : tDc (mI X.K T c W rel fi) (xG X.K T rel os g) (xT X.K T t) (xE X.K T ek) (xE X.K T ev) os σ H Q := by
  obtain ⟨G, ρ, j, p⟩ := h
  refine ⟨G, ρ, j, ?_⟩
  unfold MM.bind at p
  cases zf : fi ρ with
  | exn y ρ1 => rw [zf] at p; exact p
  | stuck => rw [zf] at p; exact p.elim
  | ok xs ρ1 =>
  rw [zf] at p
  intro Jt G1 H1 l1 j1 r1
  intro D hD1
  have h0 : c.H0 D = none ∨ D ∈ c.M := j1.H0none hD1
  have pc0 : (match compK os g t ek ev xs [] ρ1 with | .ok ys ρe => pO X.K T c W σ G1 Q (.ok (.od ys) (restore os ρ1 ρe)) | _ => False) := by
    have p2 : pO X.K T c W σ G Q (compO os g t ek ev xs ρ1) := p
    unfold compO at p2
    cases q : compK os g t ek ev xs [] ρ1 with
    | ok ys ρe => rw [q] at p2; exact fun D G' H' l => p2 D G' H' (l1.trans l)
    | exn y ρe => rw [q] at p2; exact p2.elim
    | stuck => rw [q] at p2; exact p2.elim
  refine ⟨fun i m H => m = xs.length - i ∧ i ≤ xs.length ∧ ∃ G ρb vs acc, Le G1 G ∧ J X.K T c G H (wipe σ os) (wipeM ρb os) ∧ H D = some (.dK vs) ∧ G D = none ∧ DqKV X.K G vs acc ∧ (D ∉ owns (wipe σ os) (wipeM ρb os) ∧ D ∉ G.m) ∧
      (match compK os g t ek ev (xs.drop i) acc ρb with | .ok ys ρe => pO X.K T c W σ G1 Q (.ok (.od ys) (restore os ρ1 ρe)) | _ => False),
    ⟨xs.length, by simp, Nat.zero_le _, G1, ρ1, [], [], Le.refl G1, (j1.wipe os).aside hD1, upd_same, j1.fresh hD1, .nil, ⟨(j1.wipe os).notOwn hD1, j1.freshM hD1⟩, by simpa using pc0⟩, ?_⟩
  rintro i m H2 ⟨rfl, hi, G2, ρb, vs, acc, l2, j2, hD, hGD, dqa, no, pc⟩
  by_cases hlt : i < xs.length
  · refine .inr ⟨r1.go i G2 H2 l2 j2.sub j2.frm hlt, fun H => ∃ G ρb vs acc, Le G1 G ∧ J X.K T c G H (wipe σ os) (wipeM ρb os) ∧ H D = some (.dK vs) ∧ G D = none ∧ DqKV X.K G vs acc ∧ (D ∉ owns (wipe σ os) (wipeM ρb os) ∧ D ∉ G.m) ∧
        (match compK os g t ek ev (xs.drop (i + 1)) acc ρb with | .ok ys ρe => pO X.K T c W σ G1 Q (.ok (.od ys) (restore os ρ1 ρe)) | _ => False),
      fun H' q => ⟨xs.length - (i + 1), by omega, rfl, hlt, q⟩, fun x H3 y => ?_⟩
    obtain ⟨d, hd, q⟩ := r1.yld i G2 H2 x H3 l2 j2.sub j2.frm hlt y
    obtain ⟨G3, l3, j3, dq, hD3, hGD3, nm3⟩ : ∃ G3, Le G2 G3 ∧ J X.K T c G3 H3 (wipe σ os) (wipeM ρb os) ∧ rel G3 x d ∧ H3 D = some (.dK vs) ∧ G3 D = none ∧ D ∉ G3.m := by
      rcases q with ⟨rfl, dq⟩ | ⟨p, o, hn, nt, rfl, dq⟩
      · exact ⟨G2, Le.refl _, j2, dq, hD, hGD, no.2⟩
      · exact ⟨_, Le.upd (j2.fresh hn), j2.grow hn nt, dq, upd_here hD hn, by show upd G2.hp p o D = none; rw [upd_ne (ne_of_none hD hn)]; exact hGD, no.2⟩
    rw [drop_cons hd] at pc
    unfold compK at pc
    cases eg : g d (wipeM ρb os) with
    | none => simp only [eg] at pc
    | some ρ2 =>
      simp only [eg] at pc
      refine ⟨here c G3 H3 (wipe σ os) (wipeM ρb os), G3, wipeM ρb os, d, j3.here, dq, ?_⟩
      rw [eg]
      intro σ' G4 H4 hw l4 j4
      have hw' : wipe σ' os = wipe σ os := by rw [hw, wipe_wipe]
      refine ⟨hw', here c G3 H3 (wipe σ os) (wipeM ρb os), G4, ρ2, j4, ?_⟩
      have fin : ∀ {G5 : Wd} {H5 : Hp} {ρ5 : MSt}, J X.K T (here c G3 H3 (wipe σ os) (wipeM ρb os)) G5 H5 σ' ρ5 → J X.K T c G5 H5 (wipe σ os) (wipeM ρ5 os) ∧ H5 D = some (.dK vs) ∧ G5 D = none ∧ D ∉ owns (wipe σ os) (wipeM ρ5 os) ∧ D ∉ G5.m := fun {G5 H5 ρ5} j5 => by
        have jw := j5.wipe os
        rw [hw'] at jw
        have nh := not_here (c := c) (H := H3) (G := G3) (σ := wipe σ os) (ρ := wipeM ρb os) ⟨no.1, nm3⟩
        have h3 : (here c G3 H3 (wipe σ os) (wipeM ρb os)).H0 D ≠ none := by show H3 D ≠ none; rw [hD3]; exact fun z => by cases z
        exact ⟨j3.back jw, j5.fr D _ hD3 nh (fun _ z => by cases z), j5.gn D hGD3 h3 nh, jw.apart h3 nh nm3⟩
      cases et : t ρ2 with
      | ok b ρ3 =>
        simp only [et] at pc
        intro b' G5 H5 l5 j5 rb
        cases rb
        cases b with
        | true =>
          rw [if_pos rfl]
          refine ⟨here c G3 H3 (wipe σ os) (wipeM ρb os), G5, ρ3, j5, ?_⟩
          cases ee : ek ρ3 with
          | ok y ρ4 =>
            simp only [ee] at pc
            intro v G6 H6 l6 j6 dv
            refine ⟨here c G3 H3 (wipe σ os) (wipeM ρb os), G6, ρ4, j6, ?_⟩
            cases ev' : ev ρ4 with
            | ok yv ρ5 =>
              simp only [ev'] at pc
              intro u G7 H7 l7 j7 du
              obtain ⟨f1, f2, f3, f4⟩ := fin j7
              by_cases hz : acc.length < sizeLine ∧ (keyOf y).isSome = true
              · rw [if_pos hz] at pc
                obtain ⟨k, hk⟩ := Option.isSome_iff_exists.mp hz.2
                have ek := keyOf_keyD hk
                subst ek
                have evv := dq_key dv
                subst evv
                have l : Le G2 G7 := (((l3.trans l4).trans l5).trans l6).trans l7
                refine ⟨vs, k, rfl, f2, by rw [dqa.length]; exact hz.1, G7, ρ5, putK vs k u, putD acc (keyD k) yv, l2.trans l, f1.write f3 f2 (fun _ z => by cases z) (fun _ _ z => by unfold LamX.CodeO at z; cases z) h0 f4.1 f4.2, upd_same, f3, (dqa.le l).put du, f4, pc⟩
              · rw [if_neg hz] at pc
                exact pc.elim
            | exn y ρ4 => simp only [ev'] at pc
            | stuck => simp only [ev'] at pc
          | exn y ρ4 => simp only [ee] at pc
          | stuck => simp only [ee] at pc
        | false =>
          rw [if_neg Bool.false_ne_true]
          obtain ⟨f1, f2, f3, f4⟩ := fin j5
          have l : Le G2 G5 := (l3.trans l4).trans l5
          exact ⟨G5, ρ3, vs, acc, l2.trans l, f1, f2, f3, dqa.le l, f4, pc⟩
      | exn y ρ3 => simp only [et] at pc
      | stuck => simp only [et] at pc
  · have ei : i = xs.length := by omega
    subst ei
    rw [List.drop_length] at pc
    refine .inl ⟨r1.stop G2 H2 l2 j2.sub j2.frm, ?_⟩
    exact pc D G2 H2 l2 (j1.restore l2 j2) rfl ⟨D, vs, rfl, hGD, hD, dqa⟩ h0 ⟨fun m => no.1 (restore_owns m), no.2⟩
theorem ps_setDc {i : Nat} {y : Str} {py : Pos} {wi : TI} {g : TG} {tt : TT} {tk tv : TE} (hc : X.calm = true) (hN : X.N.Nodup) (hy : X.N[i]? = some y) (hyl : X.env.scope.names.lookup y = some .local)
    (hsw : swapsWith (.DictComp kx vx [⟨tg, iter, ifs, 0⟩] scope pos) (some (.Name y py)) spos.line X.env = pure true) (hi : PI X tg iter wi) (ok : BlkOk X.N X.env.scope scope own)
    (hg : ∀ (s : Shared) (H : Hp) (C : Addr) (cl : List (Str × Addr)) (fp : List Addr), PG (X.blk s H scope (compEnvC scope cl C X.env) fp) tg g) (ht : ∀ (s : Shared) (H : Hp) (C : Addr) (cl : List (Str × Addr)) (fp : List Addr), PTs (X.blk s H scope (compEnvC scope cl C X.env) fp) ifs tt)
    (hk : ∀ (s : Shared) (H : Hp) (C : Addr) (cl : List (Str × Addr)) (fp : List Addr), PE (X.blk s H scope (compEnvC scope cl C X.env) fp) kx tk)
    (he : ∀ (s : Shared) (H : Hp) (C : Addr) (cl : List (Str × Addr)) (fp : List Addr), PE (X.blk s H scope (compEnvC scope cl C X.env) fp) vx tv) (hs : ∀ x, foldedSetIterable iter X.env x = pure x := by intro _; rfl) :
    PS X (.Assign [.Name y py] (.DictComp kx vx [⟨tg, iter, ifs, 0⟩] scope pos) spos) (tAsg (tDc wi g tt tk tv (own.map (·.2))) (gName i)) := by
  refine ⟨fun pins s σ H D I h => ?_⟩
  rw [exec_Assign_Name_used _ _ _ _ hsw]
  refine wpAny_bind (wpAny_standAt (wpAny_bind ?_))
  show wpAny _ X.A (do let _ ← comprehension (.DictComp kx vx [⟨tg, iter, ifs, 0⟩] scope pos) scope X.env (firstIterPos [⟨tg, iter, ifs, 0⟩] pos) newDict false (eval iter X.env) (some (assign (.Name y py) X.env))) _ _ s
  have h : tDc wi g tt tk tv (own.map (·.2)) σ H (fun x H1 => gName i x σ H1 D.nx) := h
  refine wpAny_bind (thn (dc_core (Qf := fun _ s' => SP X pins D .next s') hc hN I hi ok hg ht hk he hs h fun L C s' m H' I' q hn f => ?_) fun _ s' hq => wpAny_pure (wpAny_pure hq))
  show wpAny _ _ (assign (.Name y py) X.env (.ref L)) _ _ _
  refine wpAny_assign_Name (store_ok2 (v := V.ref L) I' hN hy (.inl hyl) rfl (fun s2 I2 ⟨a, sb, ha⟩ => ?_) (.inr hyl))
  obtain ⟨f0, f1, f2, f3, f4, f5⟩ := f
  have haC : C ≠ a := by
    rcases ha with z | z
    · rw [z]; exact f1
    · exact fun e => f4 y a z e.symm
  refine ⟨m, hn.sameBut sb haC, fun h3 sb3 => ?_⟩
  exact ⟨_, H', I2.turned (t' := s2.toks) (fun b o hb e => (sb3.2 b hb).trans e) f0 f1 f3 f4 f5, q⟩
theorem swD_true {gs : List Comprehension} {py : Pos} {y : Str} {l : Nat} {env : Env} (hk : env.scope.kind = .function) (hy : env.scope.names.lookup y = some .local) (hl : (py.line == pos.line) = true)
    (ha : (scope.names.any fun (n, k) => n == y && (k == .local || k == .cell)) = false) : swapsWith (.DictComp kx vx gs scope pos) (some (.Name y py)) l env = pure true := by
  have ky : env.kindOf y = some .local := hy
  have hb : env.blockKind = .function := by unfold Env.blockKind; rw [hk]; rfl
  unfold swapsWith
  simp only [hb, ky, ha, Expr.pos, hl]
  rfl
/-- name = {..} on one line, owned -/
theorem ms_setDc {i : Nat} {y : Str} {py : Pos} (hc : X.calm = true) (hN : X.N.Nodup) (hy : X.N[i]? = some y) (hyl : X.env.scope.names.lookup y = some .local) (hsw : swapsWith (.DictComp kx vx [⟨tg, iter, ifs, 0⟩] scope pos) (some (.Name y py)) spos.line X.env = pure true)
    (hi : PI X tg iter (mI X.K T c W rel fi)) (ok : BlkOk X.N X.env.scope scope own) (ho : own.map (·.2) = os)
    (hg : ∀ (c : Gh) (s : Shared) (H : Hp) (C : Addr) (cl : List (Str × Addr)) (fp : List Addr), PG (X.blk s H scope (compEnvC scope cl C X.env) fp) tg (mG X.K T c rel os g)) (ht : ∀ (c : Gh) (s : Shared) (H : Hp) (C : Addr) (cl : List (Str × Addr)) (fp : List Addr), PTs (X.blk s H scope (compEnvC scope cl C X.env) fp) ifs (mT X.K T c W0 t))
    (hk : ∀ (c : Gh) (s : Shared) (H : Hp) (C : Addr) (cl : List (Str × Addr)) (fp : List Addr), PE (X.blk s H scope (compEnvC scope cl C X.env) fp) kx (mE X.K T c W0 ek))
    (he : ∀ (c : Gh) (s : Shared) (H : Hp) (C : Addr) (cl : List (Str × Addr)) (fp : List Addr), PE (X.blk s H scope (compEnvC scope cl C X.env) fp) vx (mE X.K T c W0 ev)) (hs : ∀ x, foldedSetIterable iter X.env x = pure x := by intro _; rfl) :
    PS X (.Assign [.Name y py] (.DictComp kx vx [⟨tg, iter, ifs, 0⟩] scope pos) spos) (mS X.K T c W (newO (MM.bind fi (compO os g t ek ev)) i)) := by
  subst ho
  refine ps_mono (ps_setDc hc hN hy hyl hsw hi ok (fun s H C cl fp => pg_ex fun c => hg c s H C cl fp) (fun s H C cl fp => pts_ex fun c => ht c s H C cl fp) (fun s H C cl fp => pe_ex fun c => hk c s H C cl fp) (fun s H C cl fp => pe_ex fun c => he c s H C cl fp) hs) fun Dn σ H h => ?_
  exact dc_to σ H _ (newO_to Dn σ H h)
end
end Mi
set_option Elab.async false
set_option linter.all false
set_option maxRecDepth 100000
set_option maxHeartbeats 4000000
namespace Mi
open PySem L2
def keysD : List (D × D) → List D := List.map (·.1)
theorem dqkv_at {K : Fg} {G : Wd} : ∀ {kvs : List (Key × V)} {ds : List (D × D)}, DqKV K G kvs ds → ∀ {i : Nat} {k : Key} {v : V}, kvs[i]? = some (k, v) → ∃ d, ds[i]? = some (keyD k, d) ∧ Dq K G v d
  | _, _, .nil, i, k, v, e => by simp at e
  | _, _, .cons h t, 0, k, v, e => by simp at e; obtain ⟨rfl, rfl⟩ := e; exact ⟨_, rfl, h⟩
  | _, _, .cons h t, i + 1, k, v, e => by
    obtain ⟨d, h1, h2⟩ := dqkv_at t (i := i) (k := k) (v := v) (by simpa using e)
    exact ⟨d, by simpa using h1, h2⟩
theorem dq_kV {K : Fg} {G : Wd} (k : Key) : Dq K G (kV k) (keyD k) := by
  cases k with
  | inl i => exact .int i
  | inr s => exact .str s
theorem gives_keys {K : Fg} {c : Gh} {G : Wd} {a : Addr} {o : Obj} {kvs : List (Key × V)} {ds : List (D × D)} (hq : G a = some (.frz o (.dK kvs))) (hr : DqKV K G kvs ds) : Gives (relD K) (Itk a o kvs) c G (keysD ds) where
  go := fun i G1 H l1 l2 _ hi => ⟨l2 _ _ (l1.h _ _ hq), by rw [hr.length]; simpa [keysD] using hi⟩
  stop := fun G1 H l1 l2 _ => ⟨l2 _ _ (l1.h _ _ hq), by rw [hr.length]; simp [keysD]⟩
  yld := fun i G1 H x H' l1 l2 _ hi y => by
    obtain ⟨e, k, v, hk, rfl⟩ := y
    obtain ⟨d, e1, e2⟩ := dqkv_at hr hk
    refine ⟨keyD k, ?_, .inl ⟨e, dq_kV k⟩⟩
    unfold keysD
    rw [List.getElem?_map, e1]
    rfl
section
variable {X : Cx} {T : Tb} {c : Gh} {W : WX} {a b e tg iter value : Expr} {f f1 f2 f3 : MM D} {pos p : Pos}
def ownD (i : Nat) (g : List (D × D) → MM D) : MM D := fun ρ => match ρ[i]? with
  | some (some (.od kvs)) => g kvs ρ
  | _ => .stuck
/-- x[k] -/
def oixE (i : Nat) (f : MM D) : MM D := fun ρ => match ρ[i]? with
  | some (some (.od _)) => MM.bind f (fun k => ownD i fun kvs => match keyOf k, valAt kvs k with
    | some _, some d => MM.pure d
    | _, _ => stuck) ρ
  | _ => .stuck
def ogetE (i : Nat) (f f3 : MM D) : MM D := fun ρ => match ρ[i]? with
  | some (some (.od _)) => MM.bind f (fun k => MM.bind f3 fun z => ownD i fun kvs => match keyOf k with
    | some _ => MM.pure ((valAt kvs k).getD z)
    | _ => stuck) ρ
  | _ => .stuck
def oinE (i : Nat) (pos : Bool) (f : MM D) : MM D := MM.bind f fun k => ownD i fun kvs => match keyOf k with
  | some _ => MM.pure (.bool (if pos then hasKey k kvs else !hasKey k kvs))
  | _ => stuck
end
structure KeptO (T : Tb) (a : Addr) (G : Wd) (H : Hp) (G' : Wd) (H' : Hp) : Prop where
  g : Le G G'
  s : Lh G' H'
  n : ∀ b, G b = none → H b ≠ none → b ≠ a → G' b = none
  k : ∀ b o, H b = some o → b ≠ a → (∀ ps, o ≠ .tbl ps) → H' b = some o
  t : ∀ b ps, H b = some (.tbl ps) → ∃ ps', H' b = some (.tbl ps')
  tb : LamX.Tabs T H'
  nt : ∀ b ps, G' b ≠ some (.tbl ps)
  m : G'.m = G.m
def spO (K : Fg) (T : Tb) (f : List D → List D → Res (D × List D)) : Sp := fun vs H Q E => ∃ G a ws xs us ds, vs = .ref a :: us ∧ Lh G H ∧ (∀ b ps, G b ≠ some (.tbl ps)) ∧ LamX.Tabs T H ∧ ((∀ a ∈ G.m, ∃ o, H a = some o) ∧ a ∉ G.m) ∧ G a = none ∧ H a = some (.lst ws) ∧ DqAll K G ws xs ∧ DqAll K G us ds ∧ match f xs ds with
  | .ok (d, xs') => ∀ v ws' G' H', KeptO T a G H G' H' → G' a = none → H' a = some (.lst ws') → DqAll K G' ws' xs' → Dq K G' v d → Q v H'
  | _ => False
def startO (n : Nat) (xs : List D) (ds : List D) : MSt := some (.dc xs) :: (ds.map (fun d => some (S.d d)) ++ List.replicate (n - ds.length) none)
def diceOf (ρ : MSt) : Option (List D) := match ρ with
  | some (.dc xs) :: _ => some xs
  | _ => none
def endO : Out Fl → Res (D × List D)
  | .ok (.rt d) ρ => match diceOf ρ with
    | some xs => .ok (d, xs)
    | none => .stuck
  | .ok .nx ρ => match diceOf ρ with
    | some xs => .ok (.none, xs)
    | none => .stuck
  | _ => .stuck
def runO (n m : Nat) (b : MM Fl) : List D → List D → Res (D × List D) := fun xs ds => if ds.length + 1 = m then endO (b (startO n xs ds)) else .stuck
theorem J.entryO {K : Fg} {T : Tb} {G : Wd} {H : Hp} {a : Addr} {ws us : List V} {xs ds : List D} {N : List Str} (l : Lh G H) (nt : ∀ b ps, G b ≠ some (.tbl ps)) (tb : LamX.Tabs T H) (hm : (∀ a ∈ G.m, ∃ o, H a = some o) ∧ a ∉ G.m) (g : G a = none) (hh : H a = some (.lst ws)) (dx : DqAll K G ws xs) (dq : DqAll K G us ds) (hn : us.length + 1 ≤ N.length) : J K T ⟨H, G, [a], a, false, []⟩ G H (L2.start N (.ref a :: us)) (startO N.length xs ds) := by
  have hl := dq.length
  have get : ∀ (i : Nat) s, (startO N.length xs ds)[i]? = some (some s) → (i = 0 ∧ s = .dc xs) ∨ ∃ d v, s = .d d ∧ (L2.start N (.ref a :: us))[i]? = some (some v) ∧ Dq K G v d := fun i s e => by
    unfold startO at e
    cases i with
    | zero => simp at e; exact .inl ⟨rfl, e.symm⟩
    | succ i =>
      rw [List.getElem?_cons_succ] at e
      by_cases hi : i < ds.length
      · rw [List.getElem?_append_left (by simpa using hi), List.getElem?_map] at e
        cases q : ds[i]? with
        | none => rw [q] at e; cases e
        | some d =>
          rw [q] at e
          cases e
          obtain ⟨v, h1, h2⟩ := dq.getD q
          refine .inr ⟨d, v, rfl, ?_, h2⟩
          unfold L2.start
          rw [List.map_cons, List.cons_append, List.getElem?_cons_succ, List.getElem?_append_left (by simpa [hl] using hi), List.getElem?_map, h1]
          rfl
      · rw [List.getElem?_append_right (by simpa using hi), List.getElem?_replicate] at e
        split at e <;> cases e
  have at0 : (L2.start N (.ref a :: us))[0]? = some (some (.ref a)) := by unfold L2.start; simp
  refine ⟨l, Le.refl G, fun _ h _ _ => h, fun _ _ e _ _ => e, fun _ ps e => ⟨ps, e⟩, ?_, fun i s e ns => ?_, fun i s b e o e2 => ?_, fun i k s t b b' e1 e2 o1 o2 f1 f2 n => ?_, tb, nt, fun b μ e => ?_, ⟨hm.1, fun b m n => ?_, fun b m => .inl m, fun _ => rfl, (fun _ z => by cases z)⟩⟩
  · unfold startO L2.start
    simp only [List.length_append, List.length_map, List.length_replicate, List.length_cons]
    omega
  · rcases get i s e with ⟨rfl, rfl⟩ | ⟨d, v, rfl, h1, h2⟩
    · exact ⟨.ref a, at0, rfl, a, ws, rfl, g, hh, dx⟩
    · exact ⟨v, h1, h2⟩
  · rcases get i s e with ⟨rfl, rfl⟩ | ⟨d, v, rfl, h1, h2⟩
    · rw [at0] at e2; cases e2; exact .inr (by simp)
    · cases o
  · rcases get i s e1 with ⟨rfl, rfl⟩ | ⟨d, v, rfl, h1, h2⟩
    · rcases get k t e2 with ⟨rfl, rfl⟩ | ⟨d, v, rfl, h1, h2⟩
      · exact absurd rfl n
      · cases o2
    · cases o1
  · rcases get _ _ e with ⟨_, z⟩ | ⟨d, v, z, _⟩ <;> cases z
  · obtain ⟨i, s, e1, e2, e3⟩ := mem_owns.mp n
    rcases get i s e1 with ⟨rfl, rfl⟩ | ⟨d, v, rfl, h1, h2⟩
    · rw [at0] at e3; cases e3; exact hm.2 m
    · cases e2
theorem J.keptO {K : Fg} {T : Tb} {a : Addr} {G G' : Wd} {H H' : Hp} {σ : St} {ρ : MSt} (j : J K T ⟨H, G, [a], a, false, []⟩ G' H' σ ρ) : KeptO T a G H G' H' :=
  ⟨j.g0, j.sub, fun b g h n => j.gn b g h (by simpa using n), fun b o e n t => j.fr b o e (by simpa using n) t, j.ft, j.tb, j.nt, j.mj.nm rfl⟩
theorem diceOf_at {ρ : MSt} {xs : List D} (h : diceOf ρ = some xs) : ρ[0]? = some (some (.dc xs)) := by
  unfold diceOf at h
  split at h
  · cases h; rfl
  · cases h
theorem J.dice {K : Fg} {T : Tb} {c : Gh} {G : Wd} {H : Hp} {σ : St} {ρ : MSt} {i : Nat} {xs : List D} (j : J K T c G H σ ρ) (h : ρ[i]? = some (some (.dc xs))) : σ[i]? = some (some (.ref c.da)) ∧ ∃ ws, G c.da = none ∧ H c.da = some (.lst ws) ∧ DqAll K G ws xs := by
  obtain ⟨v, e1, rfl, a, ws, e2, g, hh, r⟩ := j.sl i _ h
  cases e2
  exact ⟨e1, ws, g, hh, r⟩
section
variable {P : Program} {w : World} {K : Fg} {mg : Str → Option Value} {base : Heap} {T : Tb}
theorem fn_defO {x qual : Str} {st : Stmt} {f : Addr} {fd : FuncData} {N ps : List Str} {k : Nat} {b : MM Fl} (F : Fun K x qual st f fd) (S : FnScope N ps (defScope st))
    (hb : ∀ (cdv : Value), cdv = fd.code → ∀ (A : Around) (outer : List Env) (s : Shared) (H : Hp) (E : XK) (c : Gh), Room k (A.deeper (PyProof.Rows.envOfC qual (defScope st) s.heap.objs.size f cdv)) →
      PSs (cxX P w K mg base N qual (defScope st) f cdv A outer s H E) (defBody st) (mS K T c (fun cls d _ H => E cls d H) b)) :
    FnOk P w K mg base (L2N.CX P w) (k + 1) f fd ps (spO K T (runO N.length ps.length b)) := by
  have hpl : ps.length ≤ N.length := by have := congrArg List.length S.pre; rw [List.length_take] at this; omega
  refine okN F S (fun vs H Q E h => ?_) fun cdv hcd A outer s H vs Q E hr h => ?_
  · obtain ⟨G, a, ws, xs, us, ds, rfl, _, _, _, _, _, _, _, dq, p⟩ := h
    unfold runO at p
    by_cases z : ds.length + 1 = ps.length
    · rw [List.length_cons, dq.length, z]
    · rw [if_neg z] at p; exact p.elim
  · obtain ⟨G, a, ws, xs, us, ds, e, l, nt, tb, hm, g, hh, dx, dq, p⟩ := h
    refine ⟨_, hb cdv hcd A outer s H E ⟨H, G, [a], a, false, []⟩ hr, ?_⟩
    unfold runO at p
    by_cases z : ds.length + 1 = ps.length
    · rw [if_pos z] at p
      rw [e]
      refine ⟨G, startO N.length xs ds, J.entryO l nt tb hm g hh dx dq (by rw [dq.length, z]; exact hpl), ?_⟩
      cases e : b (startO N.length xs ds) with
      | ok fl ρ' =>
        rw [e] at p
        cases fl with
        | nx =>
          intro σ' G' H' l' j'
          unfold endO at p
          cases q : diceOf ρ' with
          | none => simp only [q] at p
          | some ys =>
            simp only [q] at p
            obtain ⟨_, ws', g', hh', r'⟩ := j'.dice (diceOf_at q)
            exact p .non ws' G' H' j'.keptO g' hh' r' .non
        | rt d =>
          intro v σ' G' H' l' j' dv
          unfold endO at p
          cases q : diceOf ρ' with
          | none => simp only [q] at p
          | some ys =>
            simp only [q] at p
            obtain ⟨_, ws', g', hh', r'⟩ := j'.dice (diceOf_at q)
            exact p v ws' G' H' j'.keptO g' hh' r' dv
        | bk => exact p.elim
        | ct => exact p.elim
      | exn y ρ' => rw [e] at p; exact p.elim
      | stuck => rw [e] at p; exact p.elim
    · rw [if_neg z] at p; exact p.elim
end
theorem J.afterO {K : Fg} {T : Tb} {c : Gh} {G G' : Wd} {H H' : Hp} {σ : St} {ρ : MSt} {i : Nat} {xs xs' : List D} {ws' : List V} (j : J K T c G H σ ρ) (hi : ρ[i]? = some (some (.dc xs))) (q : KeptO T c.da G H G' H') (g' : G' c.da = none) (hh' : H' c.da = some (.lst ws')) (r' : DqAll K G' ws' xs') : J K T c G' H' σ (ρ.set i (some (.dc xs'))) := by
  obtain ⟨e0, ws, g, hh, r⟩ := j.dice hi
  have hl : i < ρ.length := (List.getElem?_eq_some_iff.mp hi).1
  have at_ : ∀ {k : Nat} {s : S}, (ρ.set i (some (.dc xs')))[k]? = some (some s) → (k = i ∧ s = .dc xs') ∨ (k ≠ i ∧ ρ[k]? = some (some s)) := fun {k s} e => by
    by_cases z : k = i
    · subst z; rw [List.getElem?_set_self hl] at e; cases e; exact .inl ⟨rfl, rfl⟩
    · rw [List.getElem?_set_ne (Ne.symm z)] at e; exact .inr ⟨z, e⟩
  have old : ∀ {k : Nat} {s : S}, (ρ.set i (some (.dc xs')))[k]? = some (some s) → s.own = true → ∃ t, ρ[k]? = some (some t) ∧ t.own = true := fun {k s} e o => by
    rcases at_ e with ⟨rfl, rfl⟩ | ⟨z, e⟩
    · exact ⟨_, hi, rfl⟩
    · exact ⟨s, e, o⟩
  have da0 : c.H0 c.da = none ∨ c.da ∈ c.M := j.ow i _ _ hi rfl e0
  refine ⟨q.s, j.g0.trans q.g, fun b g0 h0 m => ?_, fun b o e m t => q.k b o (j.fr b o e m t) (fun z => ?_) t, fun b ps e => ?_, by simp [j.len], fun k s e ns => ?_, fun k s b e o e2 => ?_, fun k l s t b d e1 e2 o1 o2 f1 f2 n => ?_, q.tb, q.nt, fun b μ e => ?_, ⟨fun b m => ?_, fun b m n => ?_, fun b m => j.mj.gr b (by rw [← q.m]; exact m), fun h => q.m.trans (j.mj.nm h), j.mj.wf⟩⟩
  · by_cases z : b = c.da
    · rw [z]; exact g'
    · exact q.n b (j.gn b g0 h0 m) (fun y => (j.H0none y).elim h0 m) z
  · rw [z] at e m
    rcases da0 with y | y
    · rw [e] at y; cases y
    · exact m y
  · obtain ⟨ps', h⟩ := j.ft b ps e
    exact q.t b ps' h
  · rcases at_ e with ⟨rfl, rfl⟩ | ⟨z, e⟩
    · exact ⟨_, e0, rfl, c.da, ws', rfl, g', hh', r'⟩
    · obtain ⟨v, e1, rs⟩ := j.sl k s e ns
      refine ⟨v, e1, ?_⟩
      have ne : ∀ {b : Addr}, s.own = true → v = .ref b → b ≠ c.da := fun {b} o ev => by
        subst ev
        exact j.ap k i s _ b c.da e hi o rfl e1 e0 z
      cases s with
      | d x => exact Dq.le rs q.g
      | ol ys =>
        obtain ⟨b, vs, e2, g2, hh2, r2⟩ := rs
        exact ⟨b, vs, e2, q.n b g2 (by rw [hh2]; exact fun z => by cases z) (ne rfl e2), q.k b _ hh2 (ne rfl e2) (fun _ z => by cases z), r2.le q.g⟩
      | od ys =>
        obtain ⟨b, vs, e2, g2, hh2, r2⟩ := rs
        exact ⟨b, vs, e2, q.n b g2 (by rw [hh2]; exact fun z => by cases z) (ne rfl e2), q.k b _ hh2 (ne rfl e2) (fun _ z => by cases z), r2.le q.g⟩
      | dc ys =>
        obtain ⟨ev, _⟩ := rs
        exact absurd rfl (ne rfl ev)
      | sto b μ => cases ns
  · obtain ⟨t, h1, h2⟩ := old e o
    exact j.ow k t b h1 h2 e2
  · obtain ⟨t1, h1, h2⟩ := old e1 o1
    obtain ⟨t2, h3, h4⟩ := old e2 o2
    exact j.ap k l t1 t2 b d h1 h3 h2 h4 f1 f2 n
  · rcases at_ e with ⟨_, z⟩ | ⟨z, e⟩
    · cases z
    · obtain ⟨s1, s3⟩ := j.st b μ e
      have nda : ∀ d, d ∈ G.m → d ≠ c.da := fun d m z => j.mj.ow d m (mem_owns.mpr ⟨i, _, hi, rfl, by rw [z]; exact e0⟩)
      refine ⟨s1.keep q.g q.m (fun d g m h => q.n d g h fun z => ?_) fun d o e z => q.k d o e (fun y => ?_) fun ps y => ?_, s3.eqm q.m⟩
      · rcases m with m | ⟨x, m⟩
        · exact nda d m z
        · rw [z, hh] at m; cases m
      · rcases z with z | ⟨x, z⟩
        · exact nda d z y
        · rw [y, hh, z] at e; cases e
      · rcases z with z | ⟨x, z⟩
        · obtain ⟨_, o', h1, h2, _⟩ := s1.there z
          rw [e] at h1; cases h1; exact h2 ps y
        · rw [z] at y; cases y
  · have m : b ∈ G.m := by rw [← q.m]; exact m
    obtain ⟨o, h⟩ := j.mj.hr b m
    have nb : b ≠ c.da := fun z => j.mj.ow b m (mem_owns.mpr ⟨i, _, hi, rfl, by rw [z]; exact e0⟩)
    cases o with
    | tbl ps => obtain ⟨ps', e⟩ := q.t b ps h; exact ⟨_, e⟩
    | _ => exact ⟨_, q.k b _ h nb (fun _ z => by cases z)⟩
  · obtain ⟨k, s, e1, e2, e3⟩ := mem_owns.mp n
    obtain ⟨t, h1, h2⟩ := old e1 e2
    exact j.mj.ow b (by rw [← q.m]; exact m) (mem_owns.mpr ⟨k, t, h1, h2, e3⟩)
section
variable {X : Cx} {T : Tb} {c : Gh} {W : WX} {a b e value : Expr} {f f1 f2 : MM D} {pos p : Pos}
/-- f(dice, e, ..) -/
def callO (fm : List D → List D → Res (D × List D)) (i : Nat) (g : MM (List D)) : MM D := fun ρ => match ρ[i]? with
  | some (some (.dc _)) => MM.bind g (fun ds ρ1 => match ρ1[i]? with
    | some (some (.dc xs)) => match fm xs ds with
      | .ok (d, xs') => .ok d (ρ1.set i (some (.dc xs')))
      | _ => .stuck
    | _ => .stuck) ρ
  | _ => .stuck
theorem me_callO {x y : Str} {yp : Pos} {es : List Expr} {g : MM (List D)} {k i : Nat} {fa : Addr} {fd : FuncData} {ps : List Str} {fm : List D → List D → Res (D × List D)} (F : FnOk X.prog X.w X.K X.mg X.base (L2N.CX X.prog X.w) k fa fd ps (spO X.K T fm)) (hr : Room k X.A) (hg : Gl X x) (hm : X.mg x = some (.ref fa)) (hk : PySem.W.keepIn X.K (.ref fa) = true)
    (hb : Binds X.K fd ps []) (tk : L2N.Takes X W) (hN : X.N[i]? = some y) (hv : Vis X.env.scope y) (ha : PA X es (mA X.K T c W g)) (hdb : (x == ("__debug__" : Str)) = false := by decide) (hd : (y == ("__debug__" : Str)) = false := by decide) (hcd : (y == ("__classdict__" : Str)) = false := by decide) (he : starEach (.Name y yp :: es) X.env = (false, eval (.Name y yp) X.env) :: starEach es X.env := by rfl) (hpl : (backTo pos (starEach es X.env)).any (·.1) = false := by rfl) :
    PE X (.Call (.Name x p) (.Name y yp :: es) [] pos) (mE X.K T c W (callO fm i g)) := by
  refine pe_mono (pe_callS F hr hg hm hk hb (fun σ => L2N.passAt tk σ) (pa_cons (pe_var (i := i) (pos := yp) hN hv hd hcd) ha he) hdb he hpl) fun σ H Q ⟨G, ρ, j, p⟩ => ?_
  unfold callO at p
  split at p
  · rename_i xs0 hx
    obtain ⟨e1, ws0, _⟩ := j.dice hx
    refine ⟨_, e1, ?_⟩
    refine pX_bind j p fun ds us ρ1 G1 H1 l1 j1 r1 p1 => ?_
    split at p1
    · rename_i xs hy
      obtain ⟨e1', ws, g2, hh, r⟩ := j1.dice hy
      refine ⟨G1, c.da, ws, xs, us, ds, rfl, j1.sub, j1.nt, j1.tb, ⟨j1.mj.hr, fun m => j1.mj.ow _ m (mem_owns.mpr ⟨i, _, hy, rfl, e1'⟩)⟩, g2, hh, r, r1, ?_⟩
      split at p1
      · rename_i d xs' hf
        exact fun v ws' G' H' q g' hh' r' dv => p1 v G' H' q.g (j1.afterO hy q g' hh' r') dv
      · exact p1.elim
    · exact p1.elim
  · exact p.elim
/-- dice[k] = e -/
def dsetS (i k : Nat) (f : MM D) : MM Fl := MM.bind f fun d ρ => match ρ[i]? with
  | some (some (.dc xs)) => if k < xs.length then .ok .nx (ρ.set i (some (.dc (xs.set k d)))) else .stuck
  | _ => .stuck
theorem ms_dset {i k : Nat} {x : Str} {xp ip pos' : Pos} {j1} (hN : X.N[i]? = some x) (hv : Vis X.env.scope x) (he : PE X value (mE X.K T c W f)) (hd : (x == ("__debug__" : Str)) = false := by decide) (hcd : (x == ("__classdict__" : Str)) = false := by decide)
    (hs : swapsWithSole [.Subscript (.Name x xp) (.Constant (.int k) j1 ip) pos'] value pos.line X.env = pure false := by rfl) (hw : swappedStores [.Subscript (.Name x xp) (.Constant (.int k) j1 ip) pos'] value X.env = pure none := by rfl)
    (h1 : (assignEach [.Subscript (.Name x xp) (.Constant (.int k) j1 ip) pos'] X.env).map (·.2) = [assign (.Subscript (.Name x xp) (.Constant (.int k) j1 ip) pos') X.env] := by rfl)
    (ha : ∀ v, assign (.Subscript (.Name x xp) (.Constant (.int k) j1 ip) pos') X.env v = (do
      let ov ← holding [v] (eval (.Name x xp) X.env)
      let iv ← holding [v, ov] (eval (.Constant (.int k) j1 ip) X.env)
      standAt pos'
      holding [v, ov, iv] (setItem ov iv v)
      release [v, ov, iv] []) := by intro _; rfl) :
    PS X (.Assign [.Subscript (.Name x xp) (.Constant (.int k) j1 ip) pos'] value pos) (mS X.K T c W (dsetS i k f)) := by
  refine ps_mono (ps_asg he (pg_sub (pe_var (i := i) (pos := xp) hN hv hd hcd) (pe_int (i := (k : Int))) set_list ha) hs hw h1) fun Dn σ H ⟨G, ρ, j, p⟩ => ?_
  refine pS_bind j p fun d v ρ1 G1 H1 l1 j1 r1 p1 => ?_
  split at p1
  · rename_i xs hx
    obtain ⟨e1, ws, g, hh, r⟩ := j1.dice hx
    by_cases hk : k < xs.length
    · rw [if_pos hk] at p1
      refine ⟨_, e1, ?_⟩
      refine ⟨c.da, ws, k, k, rfl, rfl, hh, ?_, ?_⟩
      · unfold ixN
        rw [r.length, if_pos (by omega), if_pos (by omega)]
        simp
      · exact p1 σ G1 _ (Le.refl G1) (j1.upOwn hx rfl e1 rfl ⟨rfl, c.da, _, rfl, g, upd_same, r.set r1 k⟩)
    · rw [if_neg hk] at p1; exact p1.elim
  · exact p1.elim
end
end Mi
set_option Elab.async false
set_option linter.all false
set_option maxRecDepth 100000
set_option maxHeartbeats 4000000
namespace Mi
open PySem L2
theorem pss_ex {X : Cx} {e : List Stmt} {t : Gh → TS} (h : ∀ c, PSs X e (t c)) : PSs X e (fun Dn σ H => ∃ c, t c Dn σ H) := ⟨fun pins s σ H Dn I ⟨c, q⟩ => (h c).run pins s σ H Dn I q⟩
abbrev rLenQ (K : Fg) : List V → Hp → VK → Prop := fun xs H Q => ∃ p ys, xs = [V.ref p] ∧ (SqL K H p ys ∨ SqT K H p ys) ∧ Q (.int ys.length) H
abbrev tLen0 (K : Fg) : TE := tCB (rLenQ K) (tCons (tVar 0) tNil)
def spCell (K : Fg) : Sp := fun vs H Q _ => ∃ (a : Addr) (k : Nat) (ns : List Int), vs = [.ref a, .int k] ∧ SqL K H a (ns.map V.int) ∧ k < 100 ∧ ns.length < 100 ∧ ∀ z H', (∀ b o, H b = some o → H' b = some o) → Q (.int z) H'
def tCell (K : Fg) : TS := tSeq (tIfS (tTest (tOp (rEqD K) (tVar 0) (tLst tNil))) (tRet (tOp (rI CMul fun i j => .int (i * j)) (tVar 1) (tC (.int 7919)))) tNext)
  (tRet (tOp (rI0 fun i j => .int (i + j)) (tOp (rIxL K) (tVar 0) (tOp (rI (fun _ j => 0 < j) fun i j => .int (i % j)) (tVar 1) (tLen0 K)))
    (tOp (rI CMul fun i j => .int (i * j)) (tOp (rI CDiv fun i j => .int (i / j)) (tVar 1) (tLen0 K)) (tC (.int 104729)))))
theorem dp_ints {K : Fg} {H : Hp} : ∀ ns : List Int, DpAll K H (ns.map V.int) (ns.map PyData.int)
  | [] => .nil
  | n :: ns => .cons (.int n) (dp_ints ns)
theorem lay_ints : ∀ ns : List Int, PyData.canLayAll0 (ns.map PyData.int) = true
  | [] => by simp [PyData.canLayAll0]
  | n :: ns => by
    rw [List.map_cons, PyData.canLayAll0, lay_ints ns]
    simp [PyData.canLay0]
theorem depth_ints : ∀ ns : List Int, PyData.depthAll (ns.map PyData.int) = 0
  | [] => by simp [PyData.depthAll]
  | n :: ns => by
    rw [List.map_cons, PyData.depthAll, depth_ints ns]
    simp [PyData.depth]
theorem shaped_ints (ns : List Int) : SeqAt.shaped (.list (ns.map PyData.int)) = true := by
  unfold SeqAt.shaped
  rw [PyData.canLay0, lay_ints, PyData.depth, depth_ints]
  rfl
theorem cell_reads {K : Fg} {vs : List V} {H : Hp} {Q : VK} {E : XK} (h : spCell K vs H Q E) : tCell K { nx := fun _ H' => Q .non H', rt := Q } (L2.start ["_law_script", "_law_k"] vs) H := by
  obtain ⟨a, k, ns, rfl, hS, hk, hn, q⟩ := h
  refine ⟨_, rfl, Nat.zero_le _, fun p hp => ?_⟩
  have up : ∀ b o, H b = some o → upd H p (.lst []) b = some o := fun b o e => by rw [upd_ne (ne_of_none e hp)]; exact e
  have hS2 : SqL K (upd H p (.lst [])) a (ns.map V.int) := sqL_sub hS (sub_of up)
  refine ⟨.list (ns.map PyData.int), .list [], .lst hS2 (dp_ints ns), .lst (.inl (.inl upd_same)) .nil, shaped_ints ns, rfl, _, rfl, ?_⟩
  by_cases z : ns = []
  · subst z
    dsimp only
    rw [if_pos (show PyData.eqv (.list (List.map PyData.int [])) (.list []) = true by simp [PyData.eqv, PyData.eqvAll])]
    exact ⟨_, rfl, _, _, rfl, rfl, .inr (by decide), q _ _ up⟩
  · have hz : PyData.eqv (.list (ns.map PyData.int)) (.list []) = false := by
      cases ns with
      | nil => exact absurd rfl z
      | cons n ns => simp [PyData.eqv, PyData.eqvAll]
    dsimp only
    rw [hz, if_neg Bool.false_ne_true]
    have hpos : 0 < ns.length := List.length_pos_iff.mpr z
    refine ⟨_, rfl, _, rfl, _, rfl, _, _, rfl, .inl hS2, ?_⟩
    refine ⟨_, _, rfl, rfl, by simpa using hpos, ?_⟩
    have hi : k % ns.length < ns.length := Nat.mod_lt _ hpos
    have e1 : ((k : Int) % ((ns.map V.int).length : Int)) = ((k % ns.length : Nat) : Int) := by
      rw [List.length_map]; omega
    dsimp only
    rw [e1]
    refine ⟨a, _, _, _, rfl, rfl, hS2, atI_nat (v := V.int ns[k % ns.length]) (by simp [hi]), ?_⟩
    refine ⟨_, rfl, _, rfl, _, _, rfl, .inl hS2, ?_⟩
    refine ⟨_, _, rfl, rfl, ?_, ?_⟩
    · refine ⟨by simpa using hpos, ?_⟩
      rw [List.length_map]
      omega
    · refine ⟨_, _, rfl, rfl, .inr (by decide), ?_⟩
      exact ⟨_, _, rfl, rfl, q _ _ up⟩
def DiceAt (H : Hp) (v : V) : Prop := ∃ b x y, v = .ref b ∧ H b = some (.lst [.int x, .int y])
def spRounds (K : Fg) : Sp := fun vs H Q _ => ∃ (a : Addr) (n : Nat) (ns : List Int), vs = [.ref a, .int n] ∧ SqL K H a (ns.map V.int) ∧ n < 100 ∧ ns.length < 100 ∧ ∀ al rs H', (∀ b o, H b = some o → H' b = some o) → H' al = some (.lst rs) → (∀ r ∈ rs, DiceAt H' r) → Q (.ref al) H'
abbrev rMax2 : List V → Hp → VK → Prop := fun xs H Q => ∃ i j, xs = [.int i, .int j] ∧ Q (.int (if j > i then j else i)) H
abbrev rMin2 : List V → Hp → VK → Prop := fun xs H Q => ∃ i j, xs = [.int i, .int j] ∧ Q (.int (if j < i then j else i)) H
def tRounds (K : Fg) (E : St → XK) : TS := tRet (tLc (iRng1 (tCons (tCB rMax2 (tCons (tC (.int 1)) (tCons (tCB rMin2 (tCons (tVar 1) (tCons (tLen0 K) tNil))) tNil))) tNil)) (gName 2) tYes
  (tLst (tCons (tCallS (spCell K) E (tCons (tVar 0) (tCons (tVar 2) tNil))) (tCons (tC (.int 0)) tNil))) [2])
theorem DiceAt.ext {H H' : Hp} {v : V} (h : DiceAt H v) (e : ∀ b o, H b = some o → H' b = some o) : DiceAt H' v := by
  obtain ⟨b, x, y, h1, h2⟩ := h
  exact ⟨b, x, y, h1, e _ _ h2⟩
theorem rounds_reads {K : Fg} {vs : List V} {H : Hp} {Q : VK} {E : XK} {E' : St → XK} (h : spRounds K vs H Q E) : tRounds K E' { nx := fun _ H' => Q .non H', rt := Q } (L2.start ["_law_script", "_law_high", "_law_k"] vs) H := by
  obtain ⟨a, n, ns, rfl, hS, hn, hl, q⟩ := h
  refine ⟨_, rfl, _, rfl, _, _, rfl, .inl hS, ?_⟩
  refine ⟨_, _, rfl, _, _, rfl, ?_⟩
  dsimp only
  generalize hm : (if (if ((ns.map V.int).length : Int) < (n : Int) then ((ns.map V.int).length : Int) else (n : Int)) > 1 then (if ((ns.map V.int).length : Int) < (n : Int) then ((ns.map V.int).length : Int) else (n : Int)) else 1) = m
  have hm1 : 0 ≤ m ∧ m < 100 := by
    rw [List.length_map] at hm
    split at hm <;> split at hm <;> omega
  refine ⟨m, rfl, by omega, by omega, fun D hD => ?_⟩
  have up0 : ∀ b o, H b = some o → upd H D (.lst []) b = some o := fun b o e => by rw [upd_ne (ne_of_none e hD)]; exact e
  refine lc_range (fun i H' => (∀ b o, H b = some o → H' b = some o) ∧ ∃ rs, H' D = some (.lst rs) ∧ rs.length = i ∧ (∀ r ∈ rs, DiceAt H' r) ∧ ∀ r ∈ rs, r ≠ .ref D) ⟨up0, [], upd_same, rfl, by simp, by simp⟩ (fun i H' hi ⟨e, rs, h1, h2, h3, h4⟩ => ?_) fun H' ⟨e, rs, h1, h2, h3, h4⟩ => q D rs H' e h1 h3
  have hw : wipe ((wipe (L2.start ["_law_script", "_law_high", "_law_k"] [V.ref a, V.int (n : Int)]) [2]).set 2 (some (.int ((0 : Int) + (i : Int))))) [2] = wipe (L2.start ["_law_script", "_law_high", "_law_k"] [V.ref a, V.int (n : Int)]) [2] := rfl
  refine ⟨hw, ?_⟩
  refine ⟨_, rfl, _, rfl, ?_⟩
  refine ⟨a, i, ns, by simp, sqL_sub hS (sub_of e), by omega, hl, fun z H2 e2 => ?_⟩
  refine ⟨(by decide : (2 : Nat) ≤ sizeLine), fun p hp => ?_⟩
  have up : ∀ b o, H2 b = some o → upd H2 p (.lst [.int z, .int 0]) b = some o := fun b o e => by rw [upd_ne (ne_of_none e hp)]; exact e
  refine ⟨rs, up _ _ (e2 _ _ h1), Nat.lt_trans (show rs.length < 100 by omega) (by decide), ?_⟩
  have nD : p ≠ D := fun z => by rw [z, e2 _ _ h1] at hp; cases hp
  have up2 : ∀ b o, b ≠ D → H2 b = some o → upd (upd H2 p (.lst [.int z, .int 0])) D (.lst (rs ++ [V.ref p])) b = some o := fun b o nb e => by rw [upd_ne nb]; exact up _ _ e
  refine ⟨fun b o eb => up2 b o (fun z => by rw [z, hD] at eb; cases eb) (e2 _ _ (e _ _ eb)), _, upd_same, by simp [h2], fun r hr => ?_, fun r hr => ?_⟩
  · rcases List.mem_append.mp hr with hr | hr
    · obtain ⟨b, x, y, rfl, hb⟩ := h3 r hr
      exact ⟨b, x, y, rfl, up2 _ _ (fun z => h4 _ hr (by rw [z])) (e2 _ _ hb)⟩
    · obtain rfl : r = .ref p := by simpa using hr
      exact ⟨p, z, 0, rfl, by rw [upd_ne nD, upd_same]⟩
  · rcases List.mem_append.mp hr with hr | hr
    · exact h4 r hr
    · obtain rfl : r = .ref p := by simpa using hr
      exact fun z => nD (V.ref.inj z)
def spLaw (K : Fg) (T : Tb) : Sp := fun vs H Q _ => ∃ (a : Addr) (ns : List Int), vs = [.ref a] ∧ SqL K H a (ns.map V.int) ∧ ns.length < 100 ∧ LamX.Tabs T H ∧ ∀ H', Q (.bl true) H'
/-- one round: from any dice, to the end, the dice dice -/
def roundSt (n : Nat) (x y : Int) : MSt := none :: some (.dc [.int x, .int y]) :: (List.replicate (n - 2) none ++ [some (.sto true [])])
def isDc : Option (Option S) → Bool
  | some (some (.dc [.int _, .int _])) => true
  | _ => false
def RoundOk (n : Nat) (b : MM Fl) : Prop := ∀ x y : Int, ∃ ρ', (b (roundSt n x y) = .ok .nx ρ' ∨ b (roundSt n x y) = .ok .ct ρ') ∧ isDc ρ'[1]? = true ∧ ρ'.length = n + 1
def tLaw (K : Fg) (T : Tb) (W : WX) (E : St → XK) (r : Int) (b : MM Fl) : TS := tSeq (tFor (fun σ H R => tCallS (spRounds K) E (tCons (tVar 0) (tCons (tC (.int r)) tNil)) σ H fun x H1 => (∃ a, x = .ref a ∧ (∃ xs, SqL K H1 a xs) ∧ R (Itl K a) H1) ∨ (∃ a, x = .ref a ∧ (∃ xs, SqT K H1 a xs) ∧ R (Itt K a) H1) ∨ ∃ s, x = .str s ∧ R (Its s) H1) (gName 1) (fun Dn σ H => ∃ c, mS K T c W b Dn σ H)) (tRet (tC (.bl true)))
theorem law_reads {K : Fg} {T : Tb} {W : WX} {vs : List V} {H : Hp} {Q : VK} {E : XK} {E' : St → XK} {r : Nat} {b : MM Fl} {N : List Str} (hN : 2 ≤ N.length) (hr : r < 100) (hb : RoundOk N.length b) (h : spLaw K T vs H Q E) : tLaw K T W E' r b { nx := fun _ H' => Q .non H', rt := Q } (L2.start N vs) H := by
  obtain ⟨a, ns, rfl, hS, hl, tb, q⟩ := h
  have s0 : (L2.start N [V.ref a])[0]? = some (some (.ref a)) := by unfold L2.start; simp
  have sl : (L2.start N [V.ref a]).length = N.length := by unfold L2.start; simp; omega
  refine ⟨_, s0, a, r, ns, rfl, hS, hr, hl, fun al rs H' e hal hds => .inl ⟨al, rfl, ⟨rs, .inl (.inl hal)⟩, ?_⟩⟩
  refine ⟨fun i m σ H => m = rs.length - i ∧ i ≤ rs.length ∧ σ.length = N.length ∧ LamX.Tabs T H ∧ H al = some (.lst rs) ∧ ∀ v ∈ rs, DiceAt H v, ⟨rs.length, by simp, Nat.zero_le _, sl, tb.ext e, hal, hds⟩, ?_⟩
  rintro i m σ H2 ⟨rfl, hi, hσ, tb2, hal2, hd2⟩
  have sq : SqL K H2 al rs := .inl (.inl hal2)
  by_cases hlt : i < rs.length
  · refine .inr ⟨⟨rs, rs[i], sq, by simp [hlt]⟩, fun σ H => σ.length = N.length ∧ LamX.Tabs T H ∧ H al = some (.lst rs) ∧ ∀ v ∈ rs, DiceAt H v, fun σ' H' h => ⟨rs.length - (i + 1), by omega, rfl, hlt, h⟩, fun v H3 yy => ?_⟩
    obtain ⟨e3, yy⟩ := yy
    subst e3
    have hv := yy rs sq
    obtain ⟨bd, x, y, rfl, hbd⟩ := hd2 v (List.mem_of_getElem? hv)
    have nal : al ≠ bd := fun z => by
      rw [z, hbd] at hal2
      cases hal2
      match i, hv with
      | 0, hv => simp at hv
      | 1, hv => simp at hv
      | i + 2, hv => simp at hv
    show ∃ c, mS K T c W b _ (σ.set 1 (some (.ref bd))) H3
    have h1 : 1 < σ.length := by omega
    refine ⟨⟨H3, ⟨fun _ => none, []⟩, [bd], bd, true, []⟩, ⟨fun _ => none, []⟩, roundSt N.length x y, ?_, ?_⟩
    · have at_ : ∀ {k : Nat} {s : S}, (roundSt N.length x y)[k]? = some (some s) → (k = 1 ∧ s = .dc [.int x, .int y]) ∨ s = .sto true [] := fun {k s} e => by
        unfold roundSt at e
        match k, e with
        | 0, e => simp at e
        | 1, e => simp at e; exact .inl ⟨rfl, e.symm⟩
        | k + 2, e =>
          rw [List.getElem?_cons_succ, List.getElem?_cons_succ] at e
          by_cases hk : k < (List.replicate (N.length - 2) (none : Option S)).length
          · rw [List.getElem?_append_left hk, List.getElem?_replicate] at e
            split at e <;> cases e
          · rw [List.getElem?_append_right (by omega)] at e
            generalize k - (List.replicate (N.length - 2) (none : Option S)).length = r at e
            match r, e with
            | 0, e => simp at e; exact .inr e.symm
            | r + 1, e => simp at e
      refine ⟨(fun _ _ z => by cases z), Le.refl _, fun _ _ _ _ => rfl, fun _ _ e _ _ => e, fun _ ps e => ⟨ps, e⟩, ?_, fun k s e ns => ?_, fun k s b' e o e2 => ?_, fun k l s t b' d' e1 e2 o1 o2 f1 f2 n => ?_, tb2, (fun _ _ z => by cases z), fun b' μ e => ?_, ⟨(fun _ z => by cases z), (fun _ z => by cases z), (fun _ z => by cases z), (fun _ => rfl), (fun _ z => by cases z)⟩⟩
      · unfold roundSt
        simp only [List.length_cons, List.length_append, List.length_nil, List.length_replicate, List.length_set]
        omega
      · rcases at_ e with ⟨rfl, rfl⟩ | rfl
        rotate_left
        · cases ns
        exact ⟨.ref bd, List.getElem?_set_self h1, rfl, bd, _, rfl, rfl, hbd, .cons (.int x) (.cons (.int y) .nil)⟩
      · rcases at_ e with ⟨rfl, rfl⟩ | rfl
        rotate_left
        · cases o
        rw [List.getElem?_set_self h1] at e2
        cases e2
        exact .inr (by simp)
      · rcases at_ e1 with ⟨rfl, rfl⟩ | rfl
        rotate_left
        · cases o1
        rcases at_ e2 with ⟨rfl, rfl⟩ | rfl
        rotate_left
        · cases o2
        exact absurd rfl n
      · rcases at_ e with ⟨_, z⟩ | z
        · cases z
        · cases z
          exact ⟨⟨rfl, List.nodup_nil, fun n a u e => by cases e⟩, (fun _ => rfl), (fun _ n a u e => by cases e), fun n a u e => by cases e⟩
    · obtain ⟨ρ', hq, hdc, hlen⟩ := hb x y
      have fin : ∀ (σ' : St) (G' : Wd) (H' : Hp), Le ⟨fun _ => none, []⟩ G' → J K T ⟨H3, ⟨fun _ => none, []⟩, [bd], bd, true, []⟩ G' H' σ' ρ' → σ'.length = N.length ∧ LamX.Tabs T H' ∧ H' al = some (.lst rs) ∧ ∀ v ∈ rs, DiceAt H' v := fun σ' G' H' _ j' => by
        have hdc2 : ∃ x' y', ρ'[1]? = some (some (.dc [.int x', .int y'])) := by
          unfold isDc at hdc
          split at hdc
          · rename_i x' y' hx; exact ⟨x', y', hx⟩
          · cases hdc
        obtain ⟨x', y', hx⟩ := hdc2
        obtain ⟨f1, ws, f2, f3, f4⟩ := j'.dice hx
        have ew : ws = [.int x', .int y'] := by
          cases f4 with
          | cons g1 g2 =>
            cases g1
            cases g2 with
            | cons g1 g2 => cases g1; cases g2; rfl
        subst ew
        have keep : ∀ b o, H3 b = some o → b ≠ bd → (∀ ps, o ≠ .tbl ps) → H' b = some o := fun b o e n t => j'.fr b o e (by simpa using n) t
        refine ⟨?_, j'.tb, keep al _ hal2 nal (fun _ z => by cases z), fun v hv => ?_⟩
        · have := j'.len; omega
        · obtain ⟨b1, x1, y1, rfl, hb1⟩ := hd2 v hv
          by_cases z : b1 = bd
          · subst z; exact ⟨b1, x', y', rfl, f3⟩
          · exact ⟨b1, x1, y1, rfl, keep _ _ hb1 z (fun _ z => by cases z)⟩
      rcases hq with hq | hq
      · rw [hq]; exact fun σ' G' H' l' j' => fin σ' G' H' l' j'
      · rw [hq]; exact fun σ' G' H' l' j' => fin σ' G' H' l' j'
  · have ei : i = rs.length := by omega
    subst ei
    exact .inl ⟨⟨rs, sq, Nat.le_refl _⟩, q _⟩
end Mi
set_option Elab.async false
set_option linter.all false
set_option maxRecDepth 100000
set_option maxHeartbeats 4000000
namespace Mi
open PySem L2
theorem bt_int : bootBuiltins "int" = some (.type "int") := by decide +kernel
theorem bt_bool : bootBuiltins "bool" = some (.type "bool") := by decide +kernel
theorem bt_str : bootBuiltins "str" = some (.type "str") := by decide +kernel
theorem bt_tuple : bootBuiltins "tuple" = some (.type "tuple") := by decide +kernel
theorem bt_list : bootBuiltins "list" = some (.type "list") := by decide +kernel
theorem bt_dict : bootBuiltins "dict" = some (.type "dict") := by decide +kernel
theorem bt_isinstance : bootBuiltins "isinstance" = some (.builtin "isinstance") := by decide +kernel
theorem bt_len : bootBuiltins "len" = some (.builtin "len") := by decide +kernel
theorem bt_all : bootBuiltins "all" = some (.builtin "all") := by decide +kernel
theorem bt_sum : bootBuiltins "sum" = some (.builtin "sum") := by decide +kernel
theorem bt_max : bootBuiltins "max" = some (.builtin "max") := by decide +kernel
theorem bt_min : bootBuiltins "min" = some (.builtin "min") := by decide +kernel
theorem takes0 {X : Cx} : L2N.Takes X W0 := fun u s' ⟨a, B, sI, pins, σ, H, cls, d, e, I, nb, up, sky, na, os, ag, w⟩ => w.elim
section
variable {X : Cx} {T : Tb} {c : Gh} {W : WX}
theorem mv (i : Nat) {x : Str} {pos : Pos} (hN : X.N[i]? = some x := by rfl) (hv : Vis X.env.scope x := by first | exact Or.inl rfl | exact Or.inr (Or.inl rfl) | exact Or.inr (Or.inr rfl)) (hd : (x == ("__debug__" : Str)) = false := by decide)
    (hcd : (x == ("__classdict__" : Str)) = false := by decide) : PE X (.Name x pos) (mE X.K T c W (var i)) := me_var hN hv hd hcd
end
/-- a def of the module, as the head left it -/
structure DefF (K : Fg) (mg : Str → Option Value) (x : Str) (st : Stmt) (ps : List Str) where
  f : Addr
  fd : FuncData
  F : Fun K x x st f fd
  g : mg x = some (.ref f)
  b : Binds K fd ps []
end Mi
set_option Elab.async false
set_option linter.all false
set_option maxRecDepth 100000
set_option maxHeartbeats 4000000
namespace Mi
open PySem L2
def newAt : List V → List S → List Addr
  | .ref D :: vs, s :: ss => if s.own = true then D :: newAt vs ss else newAt vs ss
  | _ :: vs, _ :: ss => newAt vs ss
  | _, _ => []
inductive AllS (K : Fg) (c : Gh) (G : Wd) (H : Hp) (σ : St) (ρ : MSt) : List V → List S → Prop
  | nil : AllS K c G H σ ρ [] []
  | dat {v : V} {x : D} {vs : List V} {ss : List S} : Dq K G v x → AllS K c G H σ ρ vs ss → AllS K c G H σ ρ (v :: vs) (.d x :: ss)
  | own {q : Addr} {s : S} {vs : List V} {ss : List S} : s.own = true → RS K c.da G H s (.ref q) → (c.H0 q = none ∨ q ∈ c.M) → q ∉ owns σ ρ ∧ q ∉ G.m → q ∉ newAt vs ss → AllS K c G H σ ρ vs ss → AllS K c G H σ ρ (.ref q :: vs) (s :: ss)
theorem newAt_dat {v : V} {x : D} {vs : List V} {ss : List S} : newAt (v :: vs) (.d x :: ss) = newAt vs ss := by
  cases v <;> simp [newAt, S.own]
theorem newAt_own {D : Addr} {s : S} {vs : List V} {ss : List S} (h : s.own = true) : newAt (.ref D :: vs) (s :: ss) = D :: newAt vs ss := by
  simp [newAt, h]
def putsV : St → List Nat → List V → St
  | σ, i :: is, v :: vs => putsV (σ.set i (some v)) is vs
  | σ, _, _ => σ
def putsS : MSt → List Nat → List S → MSt
  | ρ, i :: is, s :: ss => putsS (ρ.set i (some s)) is ss
  | ρ, _, _ => ρ
theorem owns_put {σ : St} {ρ : MSt} {i : Nat} {v : V} {s : S} {b : Addr} (h : b ∈ owns (σ.set i (some v)) (ρ.set i (some s))) : b ∈ owns σ ρ ∨ (v = .ref b ∧ s.own = true) := by
  obtain ⟨k, t, e1, e2, e3⟩ := mem_owns.mp h
  by_cases z : k = i
  · subst z
    have hk : k < ρ.length := by
      have := (List.getElem?_eq_some_iff.mp e1).1
      simpa using this
    have hk2 : k < σ.length := by
      have := (List.getElem?_eq_some_iff.mp e3).1
      simpa using this
    rw [List.getElem?_set_self hk] at e1
    rw [List.getElem?_set_self hk2] at e3
    cases e1
    cases e3
    exact .inr ⟨rfl, e2⟩
  · rw [List.getElem?_set_ne (Ne.symm z)] at e1 e3
    exact .inl (mem_owns.mpr ⟨k, t, e1, e2, e3⟩)
theorem AllS.put {K : Fg} {c : Gh} {G : Wd} {H : Hp} {σ : St} {ρ : MSt} {i : Nat} {v : V} {s : S} {vs : List V} {ss : List S} (n : ∀ q, v = .ref q → s.own = true → q ∉ newAt vs ss) (a : AllS K c G H σ ρ vs ss) : AllS K c G H (σ.set i (some v)) (ρ.set i (some s)) vs ss := by
  induction a with
  | nil => exact .nil
  | dat h t ih => exact .dat h (ih fun q e o => by have := n q e o; rw [newAt_dat] at this; exact this)
  | @own aa _ _ _ o r h0 no nn t ih =>
    refine .own o r h0 ⟨fun m => ?_, no.2⟩ nn (ih fun q e o' m => ?_)
    · rcases owns_put m with q | ⟨q1, q2⟩
      · exact no.1 q
      · have := n aa q1 q2
        rw [newAt_own o] at this
        exact this List.mem_cons_self
    · have := n q e o'
      rw [newAt_own o] at this
      exact this (List.mem_cons_of_mem _ m)
theorem J.puts {K : Fg} {T : Tb} {c : Gh} {G : Wd} {H : Hp} : ∀ {is : List Nat} {vs : List V} {ss : List S} {σ : St} {ρ : MSt}, (∀ i ∈ is, i + 1 < ρ.length) → J K T c G H σ ρ → AllS K c G H σ ρ vs ss → J K T c G H (putsV σ is vs) (putsS ρ is ss)
  | [], vs, ss, σ, ρ, _, j, _ => by cases vs <;> cases ss <;> exact j
  | i :: is, [], ss, σ, ρ, _, j, a => by cases a; exact j
  | i :: is, v :: vs, [], σ, ρ, _, j, a => by cases a
  | i :: is, v :: vs, s :: ss, σ, ρ, hi, j, a => by
    have h1 : i + 1 < ρ.length := hi i List.mem_cons_self
    have h2 : ∀ k ∈ is, k + 1 < (ρ.set i (some s)).length := fun k m => by simpa using hi k (List.mem_cons_of_mem _ m)
    cases a with
    | dat h t => exact J.puts (is := is) (σ := σ.set i (some v)) (ρ := ρ.set i (some (.d _))) h2 (j.set h1 h) (AllS.put (fun _ _ o => by cases o) t)
    | @own q _ _ _ o r h0 no nn t => exact J.puts (is := is) (σ := σ.set i (some (.ref q))) (ρ := ρ.set i (some s)) h2 (j.keep h1 o r h0 no) (AllS.put (fun _ e _ => by cases e; exact nn) t)
section
variable (K : Fg) (T : Tb) (c : Gh) (W : WX)
def pL (σ : St) (G : Wd) (Q : List V → Hp → Prop) : Out (List S) → Prop
  | .ok ss ρ' => ∀ vs G' H', Le G G' → J K T c G' H' σ ρ' → AllS K c G' H' σ ρ' vs ss → Q vs H'
  | .exn e ρ' => ∀ cls dx G' H', Le G G' → J K T c G' H' σ ρ' → IsX K G'.hp e cls dx → W cls dx σ H'
  | .stuck => False
def mL (f : MM (List S)) : TA := fun σ H Q => ∃ G ρ, J K T c G H σ ρ ∧ pL K T c W σ G Q (f ρ)
end
theorem AllS.le {K : Fg} {c : Gh} {G G' : Wd} {H H' : Hp} {σ : St} {ρ ρ' : MSt} {vs : List V} {ss : List S} (l : Le G G') (n : ∀ q ∈ newAt vs ss, (q ∉ owns σ ρ' ∧ q ∉ G'.m) ∧ G' q = none ∧ ∀ o, H q = some o → (∀ ps, o ≠ .tbl ps) → H' q = some o) (a : AllS K c G H σ ρ vs ss) : AllS K c G' H' σ ρ' vs ss := by
  induction a with
  | nil => exact .nil
  | dat h t ih => exact .dat (h.le l) (ih fun q m => n q (by rw [newAt_dat]; exact m))
  | @own aa s _ _ o r h0 no nn t ih =>
    obtain ⟨n1, n2, n3⟩ := n aa (by rw [newAt_own o]; exact List.mem_cons_self)
    refine .own o ?_ h0 n1 nn (ih fun q m => n q (by rw [newAt_own o]; exact List.mem_cons_of_mem _ m))
    cases s with
    | d x => cases o
    | sto b μ => cases o
    | ol xs => obtain ⟨a, vs, e, g, hh, r⟩ := r; cases e; exact ⟨_, vs, rfl, n2, n3 _ hh (fun _ z => by cases z), r.le l⟩
    | od xs => obtain ⟨a, vs, e, g, hh, r⟩ := r; cases e; exact ⟨_, vs, rfl, n2, n3 _ hh (fun _ z => by cases z), r.le l⟩
    | dc xs => obtain ⟨e0, a, vs, e, g, hh, r⟩ := r; cases e; exact ⟨e0, _, vs, rfl, n2, n3 _ hh (fun _ z => by cases z), r.le l⟩
theorem AllS.newH {K : Fg} {c : Gh} {G : Wd} {H : Hp} {σ : St} {ρ : MSt} : ∀ {vs : List V} {ss : List S}, AllS K c G H σ ρ vs ss → ∀ D ∈ newAt vs ss, ∃ o, H D = some o ∧ G D = none ∧ (∀ ps, o ≠ .tbl ps) ∧ (c.H0 D = none ∨ D ∈ c.M) ∧ D ∉ owns σ ρ ∧ D ∉ G.m
  | _, _, .nil, D, m => by simp [newAt] at m
  | _, _, .dat h t, D, m => by rw [newAt_dat] at m; exact AllS.newH t D m
  | _, _, .own o r h0 no nn t, D, m => by
    rw [newAt_own o] at m
    rcases List.mem_cons.mp m with e | m
    · subst e
      obtain ⟨a, u, e, g, hh, t1, _⟩ := r.addr o
      cases e
      exact ⟨u, hh, g, t1, h0, no⟩
    · exact AllS.newH t D m
section
variable {X : Cx} {T : Tb} {c : Gh} {W : WX} {e : Expr} {es : List Expr} {f : MM D} {fo : MM S} {g : MM (List S)} {pos : Pos}
theorem ml_nil : PA X [] (mL X.K T c W (MM.pure [])) := pa_mono pa_nil fun σ H Q ⟨G, ρ, j, p⟩ => p [] G H (Le.refl G) j .nil
def consD (f : MM D) (g : MM (List S)) : MM (List S) := MM.bind f fun x => MM.bind g fun ss => MM.pure (.d x :: ss)
def consS (f : MM S) (g : MM (List S)) : MM (List S) := MM.bind f fun x => MM.bind g fun ss => MM.pure (x :: ss)
theorem ml_dat (he : PE X e (mE X.K T c W f)) (hr : PA X es (mL X.K T c W g)) (hs : starEach (e :: es) X.env = (false, eval e X.env) :: starEach es X.env := by rfl) : PA X (e :: es) (mL X.K T c W (consD f g)) := by
  refine pa_mono (pa_cons he hr hs) fun σ H Q ⟨G, ρ, j, p⟩ => ?_
  refine ⟨G, ρ, j, ?_⟩
  unfold consD MM.bind at p
  cases z : f ρ with
  | exn y ρ1 => rw [z] at p; exact p
  | stuck => rw [z] at p; exact p.elim
  | ok x ρ1 =>
    rw [z] at p
    intro v G1 H1 l1 j1 r1
    refine ⟨G1, ρ1, j1, ?_⟩
    cases z2 : g ρ1 with
    | exn y ρ2 => simp only [z2] at p; exact fun cls dx G' H' l => p cls dx G' H' (l1.trans l)
    | stuck => simp only [z2] at p; exact p.elim
    | ok ss ρ2 =>
      simp only [z2] at p
      exact fun vs G2 H2 l2 j2 a => p _ G2 H2 (l1.trans l2) j2 (.dat (r1.le l2) a)
theorem mo_newL {lp : Pos} : PE X (.List [] lp) (mO X.K T c W (MM.pure (.ol []))) :=
  pe_mono (pe_lst pa_nil) fun σ H Q ⟨G, ρ, j, p⟩ => ⟨Nat.zero_le _, fun q hq => p q G _ (Le.refl G) (j.aside hq) rfl ⟨q, [], rfl, j.fresh hq, upd_same, .nil⟩ (j.H0none hq) ⟨j.notOwn hq, j.freshM hq⟩⟩
def putsR (is : List Nat) (ss : List S) : MM Fl := fun ρ => if is.length = ss.length ∧ (∀ i ∈ is, i + 1 < ρ.length) then .ok .nx (putsS ρ is ss) else .stuck
def parL (is : List Nat) (g : MM (List S)) : MM Fl := MM.bind g (putsR is)
theorem AllS.length {K : Fg} {c : Gh} {G : Wd} {H : Hp} {σ : St} {ρ : MSt} : ∀ {vs : List V} {ss : List S}, AllS K c G H σ ρ vs ss → vs.length = ss.length
  | _, _, .nil => rfl
  | _, _, .dat _ t => by simp [AllS.length t]
  | _, _, .own _ _ _ _ _ t => by simp [AllS.length t]
theorem parL_to {is : List Nat} {Dn : Ends} {σ : St} {H : Hp} {R : List V → Hp → Prop} (h : mS X.K T c W (parL is g) Dn σ H)
    (k : ∀ vs H1, vs.length = is.length → (∀ G1 (ρ1 : MSt), J X.K T c G1 H1 σ ρ1 → True) → (∀ H2, (∀ b o, H1 b = some o → H2 b = some o) → (H2 = H1 ∨ ∃ p o, H1 p = none ∧ H2 = upd H1 p o) → Dn.nx (putsV σ is vs) H2) → R vs H1) : mL X.K T c W g σ H R := by
  obtain ⟨G, ρ, j, p⟩ := h
  refine ⟨G, ρ, j, ?_⟩
  unfold parL MM.bind at p
  cases z : g ρ with
  | exn y ρ1 => rw [z] at p; exact fun cls dx G' H' l j' i => p cls dx σ G' H' l j' i
  | stuck => rw [z] at p; exact p.elim
  | ok ss ρ1 =>
    rw [z] at p
    intro vs G1 H1 l1 j1 a
    have p2 : pS X.K T c W Dn G (putsR is ss ρ1) := p
    unfold putsR at p2
    by_cases hl : is.length = ss.length ∧ ∀ i ∈ is, i + 1 < ρ1.length
    · rw [if_pos hl] at p2
      refine k vs H1 (a.length.trans hl.1.symm) (fun _ _ _ => trivial) fun H2 _ hh => ?_
      rcases hh with rfl | ⟨q, o, hq, rfl⟩
      · exact p2 _ G1 H2 l1 (J.puts hl.2 j1 a)
      · refine p2 _ G1 _ l1 (J.puts hl.2 (j1.aside hq) (a.le (Le.refl G1) fun D m => ?_))
        obtain ⟨o', h1, h2, h3, h4, h5⟩ := a.newH D m
        exact ⟨h5, h2, fun o e _ => by rw [upd_ne (ne_of_none e hq)]; exact e⟩
    · rw [if_neg hl] at p2; exact p2.elim
/-- the names of a tuple target -/
inductive PNs (X : Cx) : List Expr → List Nat → Prop
  | nil : PNs X [] []
  | cons {i : Nat} {x : Str} {pos : Pos} {es : List Expr} {is : List Nat} (hi : X.N[i]? = some x) (hx : Loc X.env.scope x) (hf : X.fn x = true ∨ X.env.scope.names.lookup x = some .local) : PNs X es is → PNs X (.Name x pos :: es) (i :: is)
def gNames : List Nat → TGs
  | [] => gNil
  | i :: is => gCons (gName i) (gNames is)
theorem pns_gs (hN : X.N.Nodup) : ∀ {es : List Expr} {is : List Nat}, PNs X es is → PGs X es (gNames is)
  | _, _, .nil => pgs_nil
  | _, _, .cons hi hx hf t => pgs_cons (pg_name hN hi hx hf) (pns_gs hN t)
theorem gNames_of {Q : St → Hp → Prop} {H : Hp} : ∀ {is : List Nat} {vs : List V} {σ : St}, vs.length = is.length → Q (putsV σ is vs) H → gNames is vs σ H Q
  | [], [], σ, _, q => ⟨rfl, q⟩
  | [], v :: vs, _, h, _ => by cases h
  | i :: is, [], _, h, _ => by cases h
  | i :: is, v :: vs, σ, h, q => ⟨v, vs, rfl, gNames_of (by simpa using h) q⟩
/-- x, y, .. = e, f, .. by a tuple -/
theorem ms_unpk {ts : List Expr} {es : List Expr} {is : List Nat} {kt pt k2 pt2} (hc : X.calm = true) (hN : X.N.Nodup) (hn : PNs X ts is) (ha : PA X es (mL X.K T c W g)) (hl : is.length ≤ sizeLine := by decide)
    (hs : swapsWithSole [.Tuple ts kt pt] (.Tuple es k2 pt2) pos.line X.env = pure false := by rfl) (hw : swappedStores [.Tuple ts kt pt] (.Tuple es k2 pt2) X.env = pure none := by rfl)
    (h1 : (assignEach [.Tuple ts kt pt] X.env).map (·.2) = [assign (.Tuple ts kt pt) X.env] := by rfl) (hn2 : (assignEach ts X.env).length = is.length := by rfl) (hst : (assignEach ts X.env).findIdx? (·.1) = none := by rfl) :
    PS X (.Assign [.Tuple ts kt pt] (.Tuple es k2 pt2) pos) (mS X.K T c W (parL is g)) := by
  refine ps_mono (ps_asg (pe_tupF ha) (pg_tup hc (pns_gs hN hn) hn2 hst) hs hw h1) fun Dn σ H h => ?_
  refine parL_to h fun vs H1 hlen _ q => ⟨by rw [hlen]; exact hl, fun p o hp ho => ?_⟩
  refine ⟨p, vs, rfl, .inl (.inr ⟨o, upd_same⟩), hlen, gNames_of hlen (q _ (fun b u e => by rw [upd_ne (ne_of_none e hp)]; exact e) (.inr ⟨p, _, hp, rfl⟩))⟩
def negE (f : MM D) : MM D := MM.bind f fun x => match x with
  | .int i => MM.pure (.int (-i))
  | _ => stuck
def dPow : D → D → Res D := intOp fun i j => if 0 ≤ j ∧ j ≤ 1000000 ∧ i.natAbs < 2 ^ 64 then .ok (.int (i ^ j.toNat)) else .stuck
theorem o_pow : Op2 X T c W (binaryOp .Pow) dPow := Op2.mk op_pow (fun G H x y d e q Q l dx dy hq k => by
  cases dx with
  | int i =>
    cases dy with
    | int j => obtain ⟨p, rfl⟩ := ite_res hq; exact ⟨_, _, rfl, rfl, p, k.1 _ (.int _)⟩
    | _ => exact nomatch hq
  | _ => cases dy <;> exact nomatch hq) fun d e y z => by cases d <;> cases e <;> first | (exact ite_nx z) | (exact nomatch z)
end
end Mi
set_option Elab.async false
set_option linter.all false
set_option maxRecDepth 100000
set_option maxHeartbeats 4000000
namespace Mi
open PySem L2
def blkB (N : List Str) (sc scope : Scope) (own : List (Str × Nat)) : Bool := decide (scope.kind = .function) && (scope.names.all fun y => decide (scope.names.lookup y.1 = some y.2)) && (own.all fun p => decide (N[p.2]? = some p.1)) &&
  (scope.names.all fun y => !decide (y.2 = .free) || (decide (sc.names.lookup y.1 = some .cell) || decide (sc.names.lookup y.1 = some .free))) &&
  (scope.names.all fun y => !(decide (y.2 = .local) || decide (y.2 = .cell)) || (decide (y.1 ∈ own.map (·.1)) || decide (y.1 ∉ N)))
theorem blk_of {N : List Str} {sc scope : Scope} (own : List (Str × Nat)) (h : blkB N sc scope own = true) : BlkOk N sc scope own := by
  unfold blkB at h
  simp only [Bool.and_eq_true, decide_eq_true_eq, List.all_eq_true, Bool.or_eq_true, Bool.not_eq_true', decide_eq_false_iff_not] at h
  obtain ⟨⟨⟨⟨h1, h2⟩, h3⟩, h4⟩, h5⟩ := h
  refine ⟨h1, h2, h3, fun y m e => ?_, fun y m e => ?_⟩
  · rcases h4 y m with z | z
    · exact absurd e z
    · exact z
  · rcases h5 y m with z | z
    · simp only [Bool.or_eq_false_iff, decide_eq_false_iff_not] at z
      exact (e.elim z.1 z.2).elim
    · exact z
/-- for x in e: a list, a tuple, a text, a dict -/
def iterAll : D → Res (List D)
  | .list xs => .ok xs
  | .tuple xs => .ok xs
  | .str s => .ok (charsD s)
  | .dict kvs => .ok (keysD kvs)
  | _ => .stuck
section
variable {X : Cx} {T : Tb} {c : Gh} {W : WX} {e tg iter : Expr} {f : MM D} {pos : Pos}
theorem pi_all {te : TE} (he : PE X e te) : PI X tg e (fun σ H R => te σ H fun x H1 => (∃ a, x = .ref a ∧ (∃ xs, SqL X.K H1 a xs) ∧ R (Itl X.K a) H1) ∨ (∃ a, x = .ref a ∧ (∃ xs, SqT X.K H1 a xs) ∧ R (Itt X.K a) H1) ∨ (∃ s, x = .str s ∧ R (Its s) H1) ∨ ∃ d o kvs, x = .ref d ∧ H1 d = some (.frz o (.dK kvs)) ∧ R (Itk d o kvs) H1) := by
  refine ⟨fun pins s σ H R I h => ?_⟩
  refine thn (he.run pins s σ H _ I h) fun v s1 ⟨x, H1, I1, r1, q1⟩ => ?_
  rcases q1 with ⟨a, e, hq, q⟩ | ⟨a, e, hq, q⟩ | ⟨z, e, q⟩ | ⟨d, o, kvs, e, hd, q⟩
  · subst e
    cases r1
    obtain ⟨xs, hq⟩ := hq
    obtain ⟨its, rv, p, hz⟩ := I1.list hq
    refine wpAny_pyIter_list p.isList ?_
    refine ⟨s1.heap.objs.size, [s1.heap.objs.size], _, _, H1, rfl, I1.kept (t' := s1.toks) fun b o e => Heap.get?_push_of_some _ e, turn_list a _, ⟨_, Heap.get?_push_size _ rfl, rfl, rfl⟩, fun b hb => ?_, q⟩
    have e : b = s1.heap.objs.size := by simpa using hb
    subst e
    exact I1.fpOk (Nat.le_refl _) (I1.hok.fresh (Nat.le_refl _))
  · subst e
    cases r1
    obtain ⟨xs, hq⟩ := hq
    obtain ⟨its, rv, p, hz⟩ := I1.tuple hq
    refine wpAny_pyIter_tuple (show s1.heap.IsTuple a its.toArray from p) ?_
    refine ⟨s1.heap.objs.size, [s1.heap.objs.size], _, _, H1, rfl, I1.kept (t' := s1.toks) fun b o e => Heap.get?_push_of_some _ e, turn_tuple a _, ⟨_, Heap.get?_push_size _ rfl, rfl, rfl⟩, fun b hb => ?_, q⟩
    have e : b = s1.heap.objs.size := by simpa using hb
    subst e
    exact I1.fpOk (Nat.le_refl _) (I1.hok.fresh (Nat.le_refl _))
  · subst e
    obtain ⟨t, rfl⟩ := r1
    cases ha : z.cps.all (· < 128)
    · exact wpAny_pyIter_wide ha (pi_one (tk := s1.toks) I1 _ (turn_str _ z t "str_iterator" (.inr rfl)) ⟨_, Heap.get?_push_size _ rfl, rfl, rfl⟩ q)
    · exact wpAny_pyIter_ascii ha (pi_one (tk := s1.toks) I1 _ (turn_str _ z t "str_ascii_iterator" (.inl rfl)) ⟨_, Heap.get?_push_size _ rfl, rfl, rfl⟩ q)
  · subst e
    cases r1
    obtain ⟨hs, hgd, hx, es, ep, vs, hdt, hsz, kv, hm⟩ := I1.frzK hd
    refine iter_keys hs hgd hx hdt (pi_one (tk := s1.toks) I1 _ (turn_keys _ hdt) ⟨_, Heap.get?_push_size _ rfl, rfl, ?_⟩ q)
    rw [hsz] <;> rfl
def iterA (f : MM D) : MM (List D) := MM.bind f fun x => lift (iterAll x)
theorem mi_all (he : PE X e (mE X.K T c W f)) : PI X tg e (mI X.K T c W (relD X.K) (iterA f)) := by
  refine ⟨fun pins s σ H R I h => (pi_all (tg := tg) he).run pins s σ H R I ?_⟩
  obtain ⟨G, ρ, j, p⟩ := h
  refine pX_bind j p fun x v ρ1 G1 H1 l1 j1 r1 p1 => ?_
  cases r1 with
  | lst hq hr => exact .inl ⟨_, rfl, ⟨_, sqL_sub (.inl hq) j1.subH⟩, p1 _ G1 H1 (Le.refl G1) j1 (gives_list (.inl hq) hr)⟩
  | tup hq hr => exact .inr (.inl ⟨_, rfl, ⟨_, sqT_sub hq.sq j1.subH⟩, p1 _ G1 H1 (Le.refl G1) j1 (gives_tup hq.sq hr)⟩)
  | str z => exact .inr (.inr (.inl ⟨z, rfl, p1 _ G1 H1 (Le.refl G1) j1 gives_str⟩))
  | dic hq hr => obtain ⟨o, hq⟩ := hq; exact .inr (.inr (.inr ⟨_, o, _, rfl, j1.sub _ _ hq, p1 _ G1 H1 (Le.refl G1) j1 (gives_keys hq hr)⟩))
  | _ => exact p1.elim
theorem mgn (i : Nat) {x : Str} (hN : X.N.Nodup) (hi : X.N[i]? = some x := by rfl) (hx : Loc X.env.scope x := by first | exact Or.inl rfl | exact Or.inr rfl) (hf : X.fn x = true ∨ X.env.scope.names.lookup x = some .local := by first | exact .inl rfl | exact .inr rfl | assumption) : PG X (.Name x pos) (mG X.K T c (relD X.K) [i] (setD i)) := mg_name hN hi hx hf
theorem mgc (i : Nat) {is : List Nat} {x : Str} {es : List Expr} (hN : X.N.Nodup) (h2 : PGs X es (mGs X.K T c is (setMany is))) (hi : X.N[i]? = some x := by rfl) (hx : Loc X.env.scope x := by first | exact Or.inl rfl | exact Or.inr rfl)
    (hs : (assignEach (.Name x pos :: es) X.env).map (·.2) = assign (.Name x pos) X.env :: (assignEach es X.env).map (·.2) := by rfl) (hf : X.fn x = true ∨ X.env.scope.names.lookup x = some .local := by first | exact .inl rfl | exact .inr rfl | assumption) : PGs X (.Name x pos :: es) (mGs X.K T c (i :: is) (setMany (i :: is))) := mgs_cons hN hi hx h2 hf hs
theorem pnc (i : Nat) {x : Str} {es : List Expr} {is : List Nat} (h : PNs X es is) (hi : X.N[i]? = some x := by rfl) (hx : Loc X.env.scope x := by first | exact Or.inl rfl | exact Or.inr rfl) (hf : X.fn x = true ∨ X.env.scope.names.lookup x = some .local := by first | exact .inl rfl | exact .inr rfl | assumption) : PNs X (.Name x pos :: es) (i :: is) := .cons hi hx hf h
end
end Mi
set_option Elab.async false
set_option linter.all false
set_option maxRecDepth 100000
set_option maxHeartbeats 4000000
namespace Mi
open PySem L2
@[simp] theorem size_eq : sizeLine = 16777216 := rfl
def Out.bind {α β : Type} (o : Out α) (g : α → MM β) : Out β := match o with
  | .ok a ρ => g a ρ
  | .exn e ρ => .exn e ρ
  | .stuck => .stuck
section
variable {α β : Type} {ρ : MSt} {a : α} {g : α → MM β} {f : MM α}
@[simp] theorem Out.bind_ok : Out.bind (.ok a ρ) g = g a ρ := rfl
@[simp] theorem Out.bind_exn {e : Exn} : Out.bind (.exn e ρ : Out α) g = .exn e ρ := rfl
@[simp] theorem Out.bind_stuck : Out.bind (.stuck : Out α) g = .stuck := rfl
@[simp] theorem Out.bind_ite {p : Prop} [Decidable p] {o o' : Out α} : Out.bind (if p then o else o') g = if p then Out.bind o g else Out.bind o' g := by split <;> rfl
@[simp] theorem bind_ap : MM.bind f g ρ = Out.bind (f ρ) g := rfl
@[simp] theorem pure_ap : (MM.pure a : MM α) ρ = .ok a ρ := rfl
@[simp] theorem stuck_ap : (stuck : MM α) ρ = .stuck := rfl
@[simp] theorem lift_ok : lift (.ok a) ρ = .ok a ρ := rfl
@[simp] theorem lift_stuck : lift (.stuck : Res α) ρ = .stuck := rfl
@[simp] theorem lift_exn {e : Exn} : lift (.exn e : Res α) ρ = .exn e ρ := rfl
@[simp] theorem lift_ite {p : Prop} [Decidable p] {o o' : Res α} : lift (if p then o else o') ρ = if p then lift o ρ else lift o' ρ := by split <;> rfl
@[simp] theorem ite_ap {p : Prop} [Decidable p] {m m' : MM α} : (if p then m else m') ρ = if p then m ρ else m' ρ := by split <;> rfl
end
def slotD (o : Option (Option S)) (ρ : MSt) : Out D := match o with
  | some (some (.d x)) => .ok x ρ
  | _ => .stuck
@[simp] theorem slotD_d {x : D} {ρ : MSt} : slotD (some (some (.d x))) ρ = .ok x ρ := rfl
section
variable {ρ : MSt} {f f1 f2 f3 : MM D} {g g' : D → D → Res D} {t t1 t2 : MM Bool} {s s1 s2 : MM Fl} {i : Nat} {x y z d : D} {b b' : Bool} {p : Prop} [Decidable p] {e : Exn}
@[simp] theorem var_ap : var i ρ = slotD ρ[i]? ρ := by unfold var slotD; rfl
def op2K (g : D → D → Res D) (f2 : MM D) (o : Out D) : Out D := Out.bind o fun x ρ => Out.bind (f2 ρ) fun y => lift (g x y)
def op2L (g : D → D → Res D) (x : D) (o : Out D) : Out D := Out.bind o fun y => lift (g x y)
@[simp] theorem op2_ap : op2 g f1 f2 ρ = op2K g f2 (f1 ρ) := rfl
@[simp] theorem op2K_ok : op2K g f2 (.ok x ρ) = op2L g x (f2 ρ) := rfl
@[simp] theorem op2K_stuck : op2K g f2 .stuck = .stuck := rfl
@[simp] theorem op2K_ite {o o' : Out D} : op2K g f2 (if p then o else o') = if p then op2K g f2 o else op2K g f2 o' := by split <;> rfl
@[simp] theorem op2L_ok : op2L g x (.ok y ρ) = lift (g x y) ρ := rfl
@[simp] theorem op2L_stuck : op2L g x .stuck = .stuck := rfl
@[simp] theorem op2L_ite {o o' : Out D} : op2L g x (if p then o else o') = if p then op2L g x o else op2L g x o' := by split <;> rfl
def tstK (o : Out D) : Out Bool := Out.bind o fun x => lift (toB x)
@[simp] theorem tst_ap : tst f ρ = tstK (f ρ) := rfl
@[simp] theorem opT_ap : opT g f1 f2 ρ = tstK (op2 g f1 f2 ρ) := rfl
@[simp] theorem tstK_ok : tstK (.ok (.bool b) ρ) = .ok b ρ := rfl
@[simp] theorem tstK_ite {o o' : Out D} : tstK (if p then o else o') = if p then tstK o else tstK o' := by split <;> rfl
def andTK (t2 : MM Bool) (o : Out Bool) : Out Bool := Out.bind o fun b => if b = true then t2 else MM.pure false
def orTK (t2 : MM Bool) (o : Out Bool) : Out Bool := Out.bind o fun b => if b = true then MM.pure true else t2
def notTK (o : Out Bool) : Out Bool := Out.bind o fun b => MM.pure (!b)
@[simp] theorem andT_ap : andT t1 t2 ρ = andTK t2 (t1 ρ) := rfl
@[simp] theorem orT_ap : orT t1 t2 ρ = orTK t2 (t1 ρ) := rfl
@[simp] theorem notT_ap : notT t ρ = notTK (t ρ) := rfl
@[simp] theorem andTK_ok : andTK t2 (.ok b ρ) = if b = true then t2 ρ else .ok false ρ := by cases b <;> rfl
@[simp] theorem orTK_ok : orTK t2 (.ok b ρ) = if b = true then .ok true ρ else t2 ρ := by cases b <;> rfl
@[simp] theorem notTK_ok : notTK (.ok b ρ) = .ok (!b) ρ := rfl
@[simp] theorem andTK_ite {o o' : Out Bool} : andTK t2 (if p then o else o') = if p then andTK t2 o else andTK t2 o' := by split <;> rfl
@[simp] theorem orTK_ite {o o' : Out Bool} : orTK t2 (if p then o else o') = if p then orTK t2 o else orTK t2 o' := by split <;> rfl
@[simp] theorem notTK_ite {o o' : Out Bool} : notTK (if p then o else o') = if p then notTK o else notTK o' := by split <;> rfl
@[simp] theorem ite_okB : (if b = true then (Out.ok b' ρ : Out Bool) else .ok false ρ) = .ok (b && b') ρ := by cases b <;> rfl
@[simp] theorem ite_okB2 : (if b = true then (Out.ok true ρ : Out Bool) else .ok b' ρ) = .ok (b || b') ρ := by cases b <;> rfl
@[simp] theorem ite_okD : (if b = true then (Out.ok (.bool b') ρ : Out D) else .ok (.bool false) ρ) = .ok (.bool (b && b')) ρ := by cases b <;> rfl
@[simp] theorem ite_okD2 : (if b = true then (Out.ok (.bool true) ρ : Out D) else .ok (.bool b') ρ) = .ok (.bool (b || b')) ρ := by cases b <;> rfl
def andK (f2 : MM D) (o : Out D) : Out D := Out.bind o fun x => match x with
  | .bool true => f2
  | .bool false => MM.pure (.bool false)
  | _ => stuck
def orK (f2 : MM D) (o : Out D) : Out D := Out.bind o fun x => match x with
  | .bool true => MM.pure (.bool true)
  | .bool false => f2
  | _ => stuck
def notK (o : Out D) : Out D := Out.bind o fun x => match x with
  | .bool b => MM.pure (.bool !b)
  | _ => stuck
@[simp] theorem andV_ap : andV f1 f2 ρ = andK f2 (f1 ρ) := rfl
@[simp] theorem orV_ap : orV f1 f2 ρ = orK f2 (f1 ρ) := rfl
@[simp] theorem notV_ap : notV f1 ρ = notK (f1 ρ) := rfl
@[simp] theorem andK_ok : andK f2 (.ok (.bool b) ρ) = if b = true then f2 ρ else .ok (.bool false) ρ := by cases b <;> rfl
@[simp] theorem orK_ok : orK f2 (.ok (.bool b) ρ) = if b = true then .ok (.bool true) ρ else f2 ρ := by cases b <;> rfl
@[simp] theorem notK_ok : notK (.ok (.bool b) ρ) = .ok (.bool !b) ρ := rfl
@[simp] theorem andK_ite {o o' : Out D} : andK f2 (if p then o else o') = if p then andK f2 o else andK f2 o' := by split <;> rfl
@[simp] theorem orK_ite {o o' : Out D} : orK f2 (if p then o else o') = if p then orK f2 o else orK f2 o' := by split <;> rfl
@[simp] theorem notK_ite {o o' : Out D} : notK (if p then o else o') = if p then notK o else notK o' := by split <;> rfl
def chainA (g g' : D → D → Res D) (f2 f3 : MM D) (o : Out D) : Out D := Out.bind o fun x => MM.bind f2 fun y => MM.bind (lift (g x y)) fun z => match z with
  | .bool true => MM.bind f3 fun u => lift (g' y u)
  | .bool false => MM.pure (.bool false)
  | _ => stuck
def chainB (g g' : D → D → Res D) (f3 : MM D) (x : D) (o : Out D) : Out D := Out.bind o fun y => MM.bind (lift (g x y)) fun z => match z with
  | .bool true => MM.bind f3 fun u => lift (g' y u)
  | .bool false => MM.pure (.bool false)
  | _ => stuck
def chainC (g' : D → D → Res D) (f3 : MM D) (y : D) (o : Out D) : Out D := Out.bind o fun z => match z with
  | .bool true => MM.bind f3 fun u => lift (g' y u)
  | .bool false => MM.pure (.bool false)
  | _ => stuck
@[simp] theorem chainV_ap : chainV g g' f1 f2 f3 ρ = chainA g g' f2 f3 (f1 ρ) := rfl
@[simp] theorem chainA_ok : chainA g g' f2 f3 (.ok x ρ) = chainB g g' f3 x (f2 ρ) := rfl
@[simp] theorem chainB_ok : chainB g g' f3 x (.ok y ρ) = chainC g' f3 y (lift (g x y) ρ) := rfl
@[simp] theorem chainC_ok : chainC g' f3 y (.ok (.bool b) ρ) = if b = true then op2L g' y (f3 ρ) else .ok (.bool false) ρ := by cases b <;> rfl
def ifEK (f1 f2 : MM D) (o : Out Bool) : Out D := Out.bind o fun b => if b = true then f1 else f2
@[simp] theorem ifE_ap : ifE t f1 f2 ρ = ifEK f1 f2 (t ρ) := rfl
@[simp] theorem ifEK_ok : ifEK f1 f2 (.ok b ρ) = if b = true then f1 ρ else f2 ρ := by cases b <;> rfl
@[simp] theorem ifEK_ite {o o' : Out Bool} : ifEK f1 f2 (if p then o else o') = if p then ifEK f1 f2 o else ifEK f1 f2 o' := by split <;> rfl
def consK (g : MM (List D)) (o : Out D) : Out (List D) := Out.bind o fun x => MM.bind g fun xs => MM.pure (x :: xs)
def consJ (x : D) (o : Out (List D)) : Out (List D) := Out.bind o fun xs => MM.pure (x :: xs)
variable {ga : MM (List D)} {xs ys : List D}
@[simp] theorem consA_ap : consA f ga ρ = consK ga (f ρ) := rfl
@[simp] theorem consK_ok : consK ga (.ok x ρ) = consJ x (ga ρ) := rfl
@[simp] theorem consK_stuck : consK ga .stuck = .stuck := rfl
@[simp] theorem consK_ite {o o' : Out D} : consK ga (if p then o else o') = if p then consK ga o else consK ga o' := by split <;> rfl
@[simp] theorem consJ_ok : consJ x (.ok xs ρ) = .ok (x :: xs) ρ := rfl
@[simp] theorem consJ_stuck : consJ x .stuck = .stuck := rfl
@[simp] theorem consJ_ite {o o' : Out (List D)} : consJ x (if p then o else o') = if p then consJ x o else consJ x o' := by split <;> rfl
def callK (fm : List D → Res D) (o : Out (List D)) : Out D := Out.bind o fun ds => lift (fm ds)
variable {fm : List D → Res D}
@[simp] theorem callE_ap : callE fm ga ρ = callK fm (ga ρ) := rfl
@[simp] theorem callK_ok : callK fm (.ok xs ρ) = lift (fm xs) ρ := rfl
@[simp] theorem callK_stuck : callK fm .stuck = .stuck := rfl
@[simp] theorem callK_ite {o o' : Out (List D)} : callK fm (if p then o else o') = if p then callK fm o else callK fm o' := by split <;> rfl
@[simp] theorem isiE_ap {ty : D → Bool} : isiE ty f ρ = Out.bind (f ρ) (isiK ty) := rfl
@[simp] theorem isiK_none {ty : D → Bool} : isiK ty .none ρ = .ok (.bool (ty .none)) ρ := rfl
@[simp] theorem isiK_bool {ty : D → Bool} {q : Bool} : isiK ty (.bool q) ρ = .ok (.bool (ty (.bool q))) ρ := rfl
@[simp] theorem isiK_int {ty : D → Bool} {q : Int} : isiK ty (.int q) ρ = .ok (.bool (ty (.int q))) ρ := rfl
@[simp] theorem isiK_str {ty : D → Bool} {q : Str} : isiK ty (.str q) ρ = .ok (.bool (ty (.str q))) ρ := rfl
@[simp] theorem isiK_list {ty : D → Bool} {q : List D} : isiK ty (.list q) ρ = .ok (.bool (ty (.list q))) ρ := rfl
@[simp] theorem isiK_tuple {ty : D → Bool} {q : List D} : isiK ty (.tuple q) ρ = .ok (.bool (ty (.tuple q))) ρ := rfl
@[simp] theorem isiK_dict {ty : D → Bool} {q : List (D × D)} : isiK ty (.dict q) ρ = .ok (.bool (ty (.dict q))) ρ := rfl
def seqK (s2 : MM Fl) (o : Out Fl) : Out Fl := Out.bind o fun fl => match fl with
  | .nx => s2
  | o => MM.pure o
@[simp] theorem seqS_ap : seqS s1 s2 ρ = seqK s2 (s1 ρ) := rfl
@[simp] theorem seqK_nx : seqK s2 (.ok .nx ρ) = s2 ρ := rfl
@[simp] theorem seqK_rt : seqK s2 (.ok (.rt d) ρ) = .ok (.rt d) ρ := rfl
@[simp] theorem seqK_bk : seqK s2 (.ok .bk ρ) = .ok .bk ρ := rfl
@[simp] theorem seqK_ct : seqK s2 (.ok .ct ρ) = .ok .ct ρ := rfl
@[simp] theorem seqK_exn : seqK s2 (.exn e ρ) = .exn e ρ := rfl
@[simp] theorem seqK_stuck : seqK s2 .stuck = .stuck := rfl
@[simp] theorem seqK_ite {o o' : Out Fl} : seqK s2 (if p then o else o') = if p then seqK s2 o else seqK s2 o' := by split <;> rfl
def ifSK (s1 s2 : MM Fl) (o : Out Bool) : Out Fl := Out.bind o fun b => if b = true then s1 else s2
@[simp] theorem ifS_ap : ifS t s1 s2 ρ = ifSK s1 s2 (t ρ) := rfl
@[simp] theorem ifSK_ok : ifSK s1 s2 (.ok b ρ) = if b = true then s1 ρ else s2 ρ := by cases b <;> rfl
@[simp] theorem ifSK_ite {o o' : Out Bool} : ifSK s1 s2 (if p then o else o') = if p then ifSK s1 s2 o else ifSK s1 s2 o' := by split <;> rfl
def retK (o : Out D) : Out Fl := Out.bind o fun d => MM.pure (.rt d)
@[simp] theorem retS_ap : retS f ρ = retK (f ρ) := rfl
@[simp] theorem retK_ok : retK (.ok x ρ) = .ok (.rt x) ρ := rfl
@[simp] theorem retK_exn : retK (.exn e ρ) = .exn e ρ := rfl
@[simp] theorem retK_stuck : retK .stuck = .stuck := rfl
@[simp] theorem retK_ite {o o' : Out D} : retK (if p then o else o') = if p then retK o else retK o' := by split <;> rfl
def exprK (o : Out D) : Out Fl := Out.bind o fun _ => MM.pure .nx
@[simp] theorem exprS_ap : exprS f ρ = exprK (f ρ) := rfl
@[simp] theorem exprK_ok : exprK (.ok x ρ) = .ok .nx ρ := rfl
@[simp] theorem exprK_exn : exprK (.exn e ρ) = .exn e ρ := rfl
@[simp] theorem exprK_stuck : exprK .stuck = .stuck := rfl
@[simp] theorem exprK_ite {o o' : Out D} : exprK (if p then o else o') = if p then exprK o else exprK o' := by split <;> rfl
def stoK : Option MSt → Out Fl
  | some ρ' => .ok .nx ρ'
  | none => .stuck
@[simp] theorem stoK_some : stoK (some ρ) = .ok .nx ρ := rfl
@[simp] theorem stoK_ite {o o' : Option MSt} : stoK (if p then o else o') = if p then stoK o else stoK o' := by split <;> rfl
def asgK (gt : D → MSt → Option MSt) (o : Out D) : Out Fl := Out.bind o fun d ρ => stoK (gt d ρ)
variable {gt : D → MSt → Option MSt}
@[simp] theorem asgS_ap : asgS f gt ρ = asgK gt (f ρ) := by unfold asgS asgK stoK; rfl
@[simp] theorem asgK_ok : asgK gt (.ok x ρ) = stoK (gt x ρ) := rfl
@[simp] theorem asgK_exn : asgK gt (.exn e ρ) = .exn e ρ := rfl
@[simp] theorem asgK_stuck : asgK gt .stuck = .stuck := rfl
@[simp] theorem asgK_ite {o o' : Out D} : asgK gt (if p then o else o') = if p then asgK gt o else asgK gt o' := by split <;> rfl
@[simp] theorem setD_ap : setD i x ρ = if i + 1 < ρ.length then some (ρ.set i (some (.d x))) else none := rfl
@[simp] theorem setT_ap {is : List Nat} : setT is (.tuple xs) ρ = setMany is xs ρ := rfl
@[simp] theorem setMany_nil : setMany [] [] ρ = some ρ := rfl
@[simp] theorem setMany_cons {is : List Nat} : setMany (i :: is) (x :: xs) ρ = if i + 1 < ρ.length then setMany is xs (ρ.set i (some (.d x))) else none := rfl
def forG (gt : D → MSt → Option MSt) (s : MM Fl) (xs : List D) : Option MSt → Out Fl
  | none => .stuck
  | some ρ1 => match s ρ1 with
    | .ok .nx ρ2 => forD gt s xs ρ2
    | .ok .ct ρ2 => forD gt s xs ρ2
    | .ok .bk ρ2 => .ok .nx ρ2
    | .ok (.rt d) ρ2 => .ok (.rt d) ρ2
    | .exn y ρ2 => .exn y ρ2
    | .stuck => .stuck
def forK (gt : D → MSt → Option MSt) (s : MM Fl) (xs : List D) : Out Fl → Out Fl
  | .ok .nx ρ2 => forD gt s xs ρ2
  | .ok .ct ρ2 => forD gt s xs ρ2
  | .ok .bk ρ2 => .ok .nx ρ2
  | .ok (.rt d) ρ2 => .ok (.rt d) ρ2
  | .exn y ρ2 => .exn y ρ2
  | .stuck => .stuck
@[simp] theorem forD_nil : forD gt s [] ρ = .ok .nx ρ := rfl
@[simp] theorem forD_cons : forD gt s (x :: xs) ρ = forG gt s xs (gt x ρ) := rfl
@[simp] theorem forG_some : forG gt s xs (some ρ) = forK gt s xs (s ρ) := rfl
@[simp] theorem forG_ite {o o' : Option MSt} : forG gt s xs (if p then o else o') = if p then forG gt s xs o else forG gt s xs o' := by split <;> rfl
@[simp] theorem forK_nx : forK gt s xs (.ok .nx ρ) = forD gt s xs ρ := rfl
@[simp] theorem forK_ct : forK gt s xs (.ok .ct ρ) = forD gt s xs ρ := rfl
@[simp] theorem forK_bk : forK gt s xs (.ok .bk ρ) = .ok .nx ρ := rfl
@[simp] theorem forK_rt : forK gt s xs (.ok (.rt d) ρ) = .ok (.rt d) ρ := rfl
@[simp] theorem forK_exn : forK gt s xs (.exn e ρ) = .exn e ρ := rfl
@[simp] theorem forK_stuck : forK gt s xs .stuck = .stuck := rfl
@[simp] theorem forK_ite {o o' : Out Fl} : forK gt s xs (if p then o else o') = if p then forK gt s xs o else forK gt s xs o' := by split <;> rfl
def iterK (o : Out D) : Out (List D) := Out.bind o fun x => lift (iterAll x)
@[simp] theorem iterA_ap : iterA f ρ = iterK (f ρ) := rfl
@[simp] theorem iterK_ok : iterK (.ok x ρ) = lift (iterAll x) ρ := rfl
@[simp] theorem iterAll_list : iterAll (.list xs) = .ok xs := rfl
@[simp] theorem iterAll_tuple : iterAll (.tuple xs) = .ok xs := rfl
@[simp] theorem iterAll_str {z : Str} : iterAll (.str z) = .ok (charsD z) := rfl
@[simp] theorem iterAll_dict {kvs : List (D × D)} : iterAll (.dict kvs) = .ok (keysD kvs) := rfl
@[simp] theorem keysD_nil : keysD [] = [] := rfl
@[simp] theorem keysD_cons {kv : D × D} {kvs : List (D × D)} : keysD (kv :: kvs) = kv.1 :: keysD kvs := rfl
variable {os : List Nat} {el : MM D} {acc : List D}
def compG (os : List Nat) (gt : D → MSt → Option MSt) (t : MM Bool) (el : MM D) (xs acc : List D) : Option MSt → Out (List D)
  | none => .stuck
  | some ρ1 => match t ρ1 with
      | .ok true ρ2 => match el ρ2 with
        | .ok y ρ3 => if acc.length < sizeLine then compD os gt t el xs (acc ++ [y]) ρ3 else .stuck
        | _ => .stuck
      | .ok false ρ2 => compD os gt t el xs acc ρ2
      | _ => .stuck
def compT (os : List Nat) (gt : D → MSt → Option MSt) (t : MM Bool) (el : MM D) (xs acc : List D) : Out Bool → Out (List D)
  | .ok true ρ2 => match el ρ2 with
        | .ok y ρ3 => if acc.length < sizeLine then compD os gt t el xs (acc ++ [y]) ρ3 else .stuck
        | _ => .stuck
  | .ok false ρ2 => compD os gt t el xs acc ρ2
  | _ => .stuck
def compE (os : List Nat) (gt : D → MSt → Option MSt) (t : MM Bool) (el : MM D) (xs acc : List D) : Out D → Out (List D)
  | .ok y ρ3 => if acc.length < sizeLine then compD os gt t el xs (acc ++ [y]) ρ3 else .stuck
  | _ => .stuck
@[simp] theorem compD_nil : compD os gt t el [] acc ρ = .ok acc ρ := rfl
@[simp] theorem compD_cons : compD os gt t el (x :: xs) acc ρ = compG os gt t el xs acc (gt x (wipeM ρ os)) := by
  show (match gt x (wipeM ρ os) with | none => Out.stuck | some ρ1 => _) = _
  cases gt x (wipeM ρ os) <;> rfl
@[simp] theorem compG_some : compG os gt t el xs acc (some ρ) = compT os gt t el xs acc (t ρ) := rfl
@[simp] theorem compG_ite {o o' : Option MSt} : compG os gt t el xs acc (if p then o else o') = if p then compG os gt t el xs acc o else compG os gt t el xs acc o' := by split <;> rfl
@[simp] theorem compT_ok : compT os gt t el xs acc (.ok b ρ) = if b = true then compE os gt t el xs acc (el ρ) else compD os gt t el xs acc ρ := by cases b <;> rfl
@[simp] theorem compE_ok : compE os gt t el xs acc (.ok y ρ) = if acc.length < sizeLine then compD os gt t el xs (acc ++ [y]) ρ else .stuck := rfl
@[simp] theorem compE_ite {o o' : Out D} : compE os gt t el xs acc (if p then o else o') = if p then compE os gt t el xs acc o else compE os gt t el xs acc o' := by split <;> rfl
def compLK (os : List Nat) (ρ : MSt) : Out (List D) → Out D
  | .ok ys ρe => .ok (.list ys) (restore os ρ ρe)
  | _ => .stuck
@[simp] theorem compL_ap : compL os gt t el xs ρ = compLK os ρ (compD os gt t el xs [] ρ) := rfl
@[simp] theorem compLK_ok {ρe : MSt} : compLK os ρ (.ok xs ρe) = .ok (.list xs) (restore os ρ ρe) := rfl
@[simp] theorem compLK_ite {o o' : Out (List D)} : compLK os ρ (if p then o else o') = if p then compLK os ρ o else compLK os ρ o' := by split <;> rfl
@[simp] theorem wipeM_nil : wipeM ρ [] = ρ := rfl
@[simp] theorem wipeM_cons {v : Nat} {vs : List Nat} : wipeM ρ (v :: vs) = (wipeM ρ vs).set v none := rfl
variable {ek ev : MM D} {kvs : List (D × D)}
def compKG (os : List Nat) (gt : D → MSt → Option MSt) (t : MM Bool) (ek ev : MM D) (xs : List D) (kvs : List (D × D)) : Option MSt → Out (List (D × D))
  | none => .stuck
  | some ρ1 => match t ρ1 with
      | .ok true ρ2 => match ek ρ2 with
        | .ok k ρ3 => match ev ρ3 with
          | .ok y ρ4 => if kvs.length < sizeLine ∧ (keyOf k).isSome = true then compK os gt t ek ev xs (putD kvs k y) ρ4 else .stuck
          | _ => .stuck
        | _ => .stuck
      | .ok false ρ2 => compK os gt t ek ev xs kvs ρ2
      | _ => .stuck
def compKT (os : List Nat) (gt : D → MSt → Option MSt) (t : MM Bool) (ek ev : MM D) (xs : List D) (kvs : List (D × D)) : Out Bool → Out (List (D × D))
  | .ok true ρ2 => match ek ρ2 with
        | .ok k ρ3 => match ev ρ3 with
          | .ok y ρ4 => if kvs.length < sizeLine ∧ (keyOf k).isSome = true then compK os gt t ek ev xs (putD kvs k y) ρ4 else .stuck
          | _ => .stuck
        | _ => .stuck
  | .ok false ρ2 => compK os gt t ek ev xs kvs ρ2
  | _ => .stuck
def compKE (os : List Nat) (gt : D → MSt → Option MSt) (t : MM Bool) (ek ev : MM D) (xs : List D) (kvs : List (D × D)) : Out D → Out (List (D × D))
  | .ok k ρ3 => match ev ρ3 with
          | .ok y ρ4 => if kvs.length < sizeLine ∧ (keyOf k).isSome = true then compK os gt t ek ev xs (putD kvs k y) ρ4 else .stuck
          | _ => .stuck
  | _ => .stuck
def compKV (os : List Nat) (gt : D → MSt → Option MSt) (t : MM Bool) (ek ev : MM D) (xs : List D) (kvs : List (D × D)) (k : D) : Out D → Out (List (D × D))
  | .ok y ρ4 => if kvs.length < sizeLine ∧ (keyOf k).isSome = true then compK os gt t ek ev xs (putD kvs k y) ρ4 else .stuck
  | _ => .stuck
@[simp] theorem compK_nil : compK os gt t ek ev [] kvs ρ = .ok kvs ρ := rfl
@[simp] theorem compK_cons : compK os gt t ek ev (x :: xs) kvs ρ = compKG os gt t ek ev xs kvs (gt x (wipeM ρ os)) := by
  show (match gt x (wipeM ρ os) with | none => Out.stuck | some ρ1 => _) = _
  cases gt x (wipeM ρ os) <;> rfl
@[simp] theorem compKG_some : compKG os gt t ek ev xs kvs (some ρ) = compKT os gt t ek ev xs kvs (t ρ) := rfl
@[simp] theorem compKG_ite {o o' : Option MSt} : compKG os gt t ek ev xs kvs (if p then o else o') = if p then compKG os gt t ek ev xs kvs o else compKG os gt t ek ev xs kvs o' := by split <;> rfl
@[simp] theorem compKT_ok : compKT os gt t ek ev xs kvs (.ok b ρ) = if b = true then compKE os gt t ek ev xs kvs (ek ρ) else compK os gt t ek ev xs kvs ρ := by cases b <;> rfl
@[simp] theorem compKE_ok : compKE os gt t ek ev xs kvs (.ok x ρ) = compKV os gt t ek ev xs kvs x (ev ρ) := rfl
@[simp] theorem compKV_ok : compKV os gt t ek ev xs kvs x (.ok y ρ) = if kvs.length < sizeLine ∧ (keyOf x).isSome = true then compK os gt t ek ev xs (putD kvs x y) ρ else .stuck := rfl
def compOK (os : List Nat) (ρ : MSt) : Out (List (D × D)) → Out S
  | .ok ys ρe => .ok (.od ys) (restore os ρ ρe)
  | _ => .stuck
@[simp] theorem compO_ap : compO os gt t ek ev xs ρ = compOK os ρ (compK os gt t ek ev xs [] ρ) := rfl
@[simp] theorem compOK_ok {ρe : MSt} : compOK os ρ (.ok kvs ρe) = .ok (.od kvs) (restore os ρ ρe) := rfl
def restA (os : List Nat) : Nat → MSt → MSt → MSt
  | _, [], _ => []
  | i, o :: ρ, ρ' => (if i ∈ os then keepd (some o) else (ρ'.head?).getD none) :: restA os (i + 1) ρ ρ'.tail
theorem restA_eq : ∀ (ρ ρ' : MSt) (k : Nat), restA os k ρ ρ' = (List.range ρ.length).map fun (i : Nat) => if i + k ∈ os then keepd ρ[i]? else (ρ'[i]?).getD none
  | [], _, _ => rfl
  | o :: ρ, ρ', k => by
    rw [List.length_cons, List.range_succ_eq_map, List.map_cons, List.map_map]
    show _ :: _ = _
    congr 1
    · simp only [Nat.zero_add, List.getElem?_cons_zero, List.head?_eq_getElem?]
    · rw [restA_eq ρ ρ'.tail (k + 1)]
      apply List.map_congr_left
      intro i _
      simp only [Function.comp, List.getElem?_cons_succ, List.getElem?_tail]
      have e : i + (k + 1) = Nat.succ i + k := by omega
      rw [e]
@[simp] theorem restore_ap {ρ' : MSt} : restore os ρ ρ' = restA os 0 ρ ρ' := by
  rw [restA_eq]
  unfold restore
  rfl
@[simp] theorem restA_nil {k : Nat} {ρ' : MSt} : restA os k [] ρ' = [] := rfl
@[simp] theorem restA_cons {k : Nat} {o o' : Option S} {ρ' : MSt} : restA os k (o :: ρ) (o' :: ρ') = (if k ∈ os then keepd (some o) else o') :: restA os (k + 1) ρ ρ' := rfl
@[simp] theorem keepd_d : keepd (some (some (.d x))) = some (.d x) := rfl
@[simp] theorem keepd_none : keepd (some none) = none := rfl
end
end Mi
set_option Elab.async false
set_option linter.all false
set_option maxRecDepth 100000
set_option maxHeartbeats 4000000
namespace Mi
open PySem L2
section
variable {ρ : MSt} {f f1 f2 f3 : MM D} {i j : Int} {k n m : Nat} {x y z d : D} {b b' : Bool} {p : Prop} [Decidable p] {e : Exn} {xs ys : List D} {kvs : List (D × D)} {u v : Str} {ga : MM (List D)}
@[simp] theorem ite_pB : (if p then (Out.ok b' ρ : Out Bool) else .ok false ρ) = .ok (decide p && b') ρ := by split <;> simp_all
@[simp] theorem ite_pB2 : (if p then (Out.ok true ρ : Out Bool) else .ok b' ρ) = .ok (decide p || b') ρ := by split <;> simp_all
@[simp] theorem ite_pD : (if p then (Out.ok (.bool b') ρ : Out D) else .ok (.bool false) ρ) = .ok (.bool (decide p && b')) ρ := by split <;> simp_all
@[simp] theorem ite_pD2 : (if p then (Out.ok (.bool true) ρ : Out D) else .ok (.bool b') ρ) = .ok (.bool (decide p || b')) ρ := by split <;> simp_all
@[simp] theorem ite_pR : (if p then (Res.ok (.bool b') : Res D) else .ok (.bool false)) = .ok (.bool (decide p && b')) := by split <;> simp_all
@[simp] theorem ite_pR2 : (if p then (Res.ok (.bool true) : Res D) else .ok (.bool b')) = .ok (.bool (decide p || b')) := by split <;> simp_all
@[simp] theorem dAdd_int : dAdd (.int i) (.int j) = .ok (.int (i + j)) := rfl
@[simp] theorem dAdd_str : dAdd (.str u) (.str v) = if u.length + v.length ≤ sizeLine then .ok (.str (u ++ v)) else .stuck := rfl
@[simp] theorem dAdd_list : dAdd (.list xs) (.list ys) = if xs.length + ys.length ≤ sizeLine then .ok (.list (xs ++ ys)) else .stuck := rfl
@[simp] theorem dAdd_tuple : dAdd (.tuple xs) (.tuple ys) = if xs.length + ys.length ≤ sizeLine then .ok (.tuple (xs ++ ys)) else .stuck := rfl
@[simp] theorem dSub_int : dSub (.int i) (.int j) = .ok (.int (i - j)) := rfl
@[simp] theorem dMul_int : dMul (.int i) (.int j) = if mulOk i j = true then .ok (.int (i * j)) else .stuck := rfl
@[simp] theorem dFdiv_int : dFdiv (.int i) (.int j) = if 0 < j ∧ j.natAbs.log2 < 9000 then .ok (.int (i / j)) else .stuck := rfl
@[simp] theorem dMod_int : dMod (.int i) (.int j) = if 0 < j then .ok (.int (i % j)) else .stuck := rfl
@[simp] theorem dPow_int : dPow (.int i) (.int j) = if 0 ≤ j ∧ j ≤ 1000000 ∧ i.natAbs < 2 ^ 64 then .ok (.int (i ^ j.toNat)) else .stuck := rfl
@[simp] theorem dLe_int : dLe (.int i) (.int j) = .ok (.bool (decide (i ≤ j))) := rfl
@[simp] theorem dGt_int : dGt (.int i) (.int j) = .ok (.bool (decide (j < i))) := rfl
@[simp] theorem dGe_int : dGe (.int i) (.int j) = .ok (.bool (decide (j ≤ i))) := rfl
@[simp] theorem dLt_int : dLt (.int i) (.int j) = .ok (.bool (decide (i < j))) := rfl
def strLt (u v : Str) : Bool := decide (u.cps.toList < v.cps.toList)
@[simp] theorem dLt_str : dLt (.str u) (.str v) = .ok (.bool (strLt u v)) := rfl
@[simp] theorem dEq_ap : dEq x y = if eqOk x = true ∧ eqOk y = true then .ok (.bool (D.eqv x y)) else .stuck := rfl
@[simp] theorem dNe_ap : dNe x y = if eqOk x = true ∧ eqOk y = true then .ok (.bool (!D.eqv x y)) else .stuck := rfl
@[simp] theorem dIs_none : dIs x .none = .ok (.bool (isNone x)) := by cases x <;> rfl
@[simp] theorem dIs_bool : dIs (.bool b) (.bool b') = .ok (.bool (decide (b = b'))) := rfl
@[simp] theorem dIsNot_none : dIsNot x .none = .ok (.bool (!isNone x)) := by cases x <;> rfl
@[simp] theorem dIsNot_bool : dIsNot (.bool b) (.bool b') = .ok (.bool (!decide (b = b'))) := rfl
@[simp] theorem isNone_none : isNone .none = true := rfl
@[simp] theorem isNone_bool : isNone (.bool b) = false := rfl
@[simp] theorem isNone_int : isNone (.int i) = false := rfl
@[simp] theorem isNone_str : isNone (.str u) = false := rfl
@[simp] theorem isNone_list : isNone (.list xs) = false := rfl
@[simp] theorem isNone_tuple : isNone (.tuple xs) = false := rfl
@[simp] theorem isNone_dict : isNone (.dict kvs) = false := rfl
theorem eqOk_eq : eqOk d = (noDict d && (d.canLay0 && decide (d.depth ≤ 64))) := rfl
@[simp] theorem dIx_list : dIx (.list xs) (.int i) = (match atI xs i with | some d => .ok d | none => .stuck) := rfl
@[simp] theorem dIx_tuple : dIx (.tuple xs) (.int i) = (match atI xs i with | some d => .ok d | none => .stuck) := rfl
@[simp] theorem dIx_dict : dIx (.dict kvs) x = (match keyOf x with | some _ => (match valAt kvs x with | some d => .ok d | none => .stuck) | none => .stuck) := by cases x <;> rfl
@[simp] theorem atI_0 : atI (x :: xs) 0 = some x := atI_nat (j := 0) rfl
@[simp] theorem atI_1 : atI (x :: y :: xs) 1 = some y := atI_nat (j := 1) rfl
@[simp] theorem atI_2 : atI (x :: y :: z :: xs) 2 = some z := atI_nat (j := 2) rfl
@[simp] theorem keyOf_int : keyOf (.int i) = some (.inl i) := rfl
@[simp] theorem keyOf_str : keyOf (.str u) = some (.inr u) := rfl
@[simp] theorem eqv_str : D.eqv (.str u) (.str v) = decide (u = v) := by
  show PyData.eqv (.str u) (.str v) = _
  rw [PyData.eqv, Bool.beq_eq_decide_eq]
@[simp] theorem eqv_int : D.eqv (.int i) (.int j) = decide (i = j) := by
  show PyData.eqv (.int i) (.int j) = _
  rw [PyData.eqv, Bool.beq_eq_decide_eq]
@[simp] theorem eqv_bool : D.eqv (.bool b) (.bool b') = decide (b = b') := by
  show PyData.eqv (.bool b) (.bool b') = _
  rw [PyData.eqv, Bool.beq_eq_decide_eq]
@[simp] theorem eqv_tuple : D.eqv (.tuple xs) (.tuple ys) = D.eqvAll xs ys := by
  show PyData.eqv (.tuple (pys xs)) (.tuple (pys ys)) = _
  rw [PyData.eqv]; rfl
@[simp] theorem eqv_list : D.eqv (.list xs) (.list ys) = D.eqvAll xs ys := by
  show PyData.eqv (.list (pys xs)) (.list (pys ys)) = _
  rw [PyData.eqv]; rfl
@[simp] theorem eqv_none : D.eqv .none .none = true := by
  show PyData.eqv .none .none = _
  rw [PyData.eqv]
@[simp] theorem eqv_none_bool : D.eqv .none (.bool b) = false := by
  show PyData.eqv .none (.bool b) = _
  rw [PyData.eqv] <;> simp
@[simp] theorem eqv_none_int : D.eqv .none (.int i) = false := by
  show PyData.eqv .none (.int i) = _
  rw [PyData.eqv] <;> simp
@[simp] theorem eqv_none_str : D.eqv .none (.str u) = false := by
  show PyData.eqv .none (.str u) = _
  rw [PyData.eqv] <;> simp
@[simp] theorem eqv_none_list : D.eqv .none (.list xs) = false := by
  show PyData.eqv .none (.list (pys xs)) = _
  rw [PyData.eqv] <;> simp
@[simp] theorem eqv_none_tuple : D.eqv .none (.tuple ys) = false := by
  show PyData.eqv .none (.tuple (pys ys)) = _
  rw [PyData.eqv] <;> simp
@[simp] theorem eqv_none_dict : D.eqv .none (.dict kvs) = false := by
  show PyData.eqv .none (.dict (pykv kvs)) = _
  rw [PyData.eqv] <;> simp
@[simp] theorem eqv_bool_none : D.eqv (.bool b) .none = false := by
  show PyData.eqv (.bool b) .none = _
  rw [PyData.eqv] <;> simp
@[simp] theorem eqv_bool_str : D.eqv (.bool b) (.str u) = false := by
  show PyData.eqv (.bool b) (.str u) = _
  rw [PyData.eqv] <;> simp
@[simp] theorem eqv_bool_list : D.eqv (.bool b) (.list xs) = false := by
  show PyData.eqv (.bool b) (.list (pys xs)) = _
  rw [PyData.eqv] <;> simp
@[simp] theorem eqv_bool_tuple : D.eqv (.bool b) (.tuple ys) = false := by
  show PyData.eqv (.bool b) (.tuple (pys ys)) = _
  rw [PyData.eqv] <;> simp
@[simp] theorem eqv_bool_dict : D.eqv (.bool b) (.dict kvs) = false := by
  show PyData.eqv (.bool b) (.dict (pykv kvs)) = _
  rw [PyData.eqv] <;> simp
@[simp] theorem eqv_int_none : D.eqv (.int i) .none = false := by
  show PyData.eqv (.int i) .none = _
  rw [PyData.eqv] <;> simp
@[simp] theorem eqv_int_str : D.eqv (.int i) (.str u) = false := by
  show PyData.eqv (.int i) (.str u) = _
  rw [PyData.eqv] <;> simp
@[simp] theorem eqv_int_list : D.eqv (.int i) (.list xs) = false := by
  show PyData.eqv (.int i) (.list (pys xs)) = _
  rw [PyData.eqv] <;> simp
@[simp] theorem eqv_int_tuple : D.eqv (.int i) (.tuple ys) = false := by
  show PyData.eqv (.int i) (.tuple (pys ys)) = _
  rw [PyData.eqv] <;> simp
@[simp] theorem eqv_int_dict : D.eqv (.int i) (.dict kvs) = false := by
  show PyData.eqv (.int i) (.dict (pykv kvs)) = _
  rw [PyData.eqv] <;> simp
@[simp] theorem eqv_str_none : D.eqv (.str u) .none = false := by
  show PyData.eqv (.str u) .none = _
  rw [PyData.eqv] <;> simp
@[simp] theorem eqv_str_bool : D.eqv (.str u) (.bool b) = false := by
  show PyData.eqv (.str u) (.bool b) = _
  rw [PyData.eqv] <;> simp
@[simp] theorem eqv_str_int : D.eqv (.str u) (.int i) = false := by
  show PyData.eqv (.str u) (.int i) = _
  rw [PyData.eqv] <;> simp
@[simp] theorem eqv_str_list : D.eqv (.str u) (.list xs) = false := by
  show PyData.eqv (.str u) (.list (pys xs)) = _
  rw [PyData.eqv] <;> simp
@[simp] theorem eqv_str_tuple : D.eqv (.str u) (.tuple ys) = false := by
  show PyData.eqv (.str u) (.tuple (pys ys)) = _
  rw [PyData.eqv] <;> simp
@[simp] theorem eqv_str_dict : D.eqv (.str u) (.dict kvs) = false := by
  show PyData.eqv (.str u) (.dict (pykv kvs)) = _
  rw [PyData.eqv] <;> simp
@[simp] theorem eqv_list_none : D.eqv (.list xs) .none = false := by
  show PyData.eqv (.list (pys xs)) .none = _
  rw [PyData.eqv] <;> simp
@[simp] theorem eqv_list_bool : D.eqv (.list xs) (.bool b) = false := by
  show PyData.eqv (.list (pys xs)) (.bool b) = _
  rw [PyData.eqv] <;> simp
@[simp] theorem eqv_list_int : D.eqv (.list xs) (.int i) = false := by
  show PyData.eqv (.list (pys xs)) (.int i) = _
  rw [PyData.eqv] <;> simp
@[simp] theorem eqv_list_str : D.eqv (.list xs) (.str u) = false := by
  show PyData.eqv (.list (pys xs)) (.str u) = _
  rw [PyData.eqv] <;> simp
@[simp] theorem eqv_list_tuple : D.eqv (.list xs) (.tuple ys) = false := by
  show PyData.eqv (.list (pys xs)) (.tuple (pys ys)) = _
  rw [PyData.eqv] <;> simp
@[simp] theorem eqv_list_dict : D.eqv (.list xs) (.dict kvs) = false := by
  show PyData.eqv (.list (pys xs)) (.dict (pykv kvs)) = _
  rw [PyData.eqv] <;> simp
@[simp] theorem eqv_tuple_none : D.eqv (.tuple ys) .none = false := by
  show PyData.eqv (.tuple (pys ys)) .none = _
  rw [PyData.eqv] <;> simp
@[simp] theorem eqv_tuple_bool : D.eqv (.tuple ys) (.bool b) = false := by
  show PyData.eqv (.tuple (pys ys)) (.bool b) = _
  rw [PyData.eqv] <;> simp
@[simp] theorem eqv_tuple_int : D.eqv (.tuple ys) (.int i) = false := by
  show PyData.eqv (.tuple (pys ys)) (.int i) = _
  rw [PyData.eqv] <;> simp
@[simp] theorem eqv_tuple_str : D.eqv (.tuple ys) (.str u) = false := by
  show PyData.eqv (.tuple (pys ys)) (.str u) = _
  rw [PyData.eqv] <;> simp
@[simp] theorem eqv_tuple_list : D.eqv (.tuple ys) (.list xs) = false := by
  show PyData.eqv (.tuple (pys ys)) (.list (pys xs)) = _
  rw [PyData.eqv] <;> simp
@[simp] theorem eqv_tuple_dict : D.eqv (.tuple ys) (.dict kvs) = false := by
  show PyData.eqv (.tuple (pys ys)) (.dict (pykv kvs)) = _
  rw [PyData.eqv] <;> simp
@[simp] theorem eqv_dict_none : D.eqv (.dict kvs) .none = false := by
  show PyData.eqv (.dict (pykv kvs)) .none = _
  rw [PyData.eqv] <;> simp
@[simp] theorem eqv_dict_bool : D.eqv (.dict kvs) (.bool b) = false := by
  show PyData.eqv (.dict (pykv kvs)) (.bool b) = _
  rw [PyData.eqv] <;> simp
@[simp] theorem eqv_dict_int : D.eqv (.dict kvs) (.int i) = false := by
  show PyData.eqv (.dict (pykv kvs)) (.int i) = _
  rw [PyData.eqv] <;> simp
@[simp] theorem eqv_dict_str : D.eqv (.dict kvs) (.str u) = false := by
  show PyData.eqv (.dict (pykv kvs)) (.str u) = _
  rw [PyData.eqv] <;> simp
@[simp] theorem eqv_dict_list : D.eqv (.dict kvs) (.list xs) = false := by
  show PyData.eqv (.dict (pykv kvs)) (.list (pys xs)) = _
  rw [PyData.eqv] <;> simp
@[simp] theorem eqv_dict_tuple : D.eqv (.dict kvs) (.tuple ys) = false := by
  show PyData.eqv (.dict (pykv kvs)) (.tuple (pys ys)) = _
  rw [PyData.eqv] <;> simp
@[simp] theorem eqvAll_nil : D.eqvAll [] [] = true := by
  show PyData.eqvAll [] [] = _
  rw [PyData.eqvAll]
@[simp] theorem eqvAll_cons : D.eqvAll (x :: xs) (y :: ys) = (D.eqv x y && D.eqvAll xs ys) := by
  show PyData.eqvAll (x.py :: pys xs) (y.py :: pys ys) = _
  rw [PyData.eqvAll]; rfl
@[simp] theorem eqvAll_nc : D.eqvAll [] (y :: ys) = false := by
  show PyData.eqvAll [] (y.py :: pys ys) = _
  rw [PyData.eqvAll]
@[simp] theorem eqvAll_cn : D.eqvAll (x :: xs) [] = false := by
  show PyData.eqvAll (x.py :: pys xs) [] = _
  rw [PyData.eqvAll]
@[simp] theorem dLen_list : dLen [.list xs] = .ok (.int xs.length) := rfl
@[simp] theorem dLen_tuple : dLen [.tuple xs] = .ok (.int xs.length) := rfl
@[simp] theorem dLen_dict : dLen [.dict kvs] = .ok (.int kvs.length) := rfl
@[simp] theorem dLen_str : dLen [.str u] = if u.length ≤ sizeLine then .ok (.int u.length) else .stuck := rfl
@[simp] theorem toBools_nil : toBools [] = some [] := rfl
@[simp] theorem toBools_cons : toBools (.bool b :: xs) = (toBools xs).map (b :: ·) := rfl
@[simp] theorem toInts_nil : toInts [] = some [] := rfl
@[simp] theorem toInts_cons : toInts (.int i :: xs) = (toInts xs).map (i :: ·) := rfl
@[simp] theorem dAll_list : dAll [.list xs] = (match toBools xs with | some bs => .ok (.bool (bs.all id)) | none => .stuck) := rfl
@[simp] theorem dAny_list : dAny [.list xs] = (match toBools xs with | some bs => .ok (.bool (bs.any id)) | none => .stuck) := rfl
@[simp] theorem dSum_list : dSum [.list xs] = (match toInts xs with | some ns => .ok (.int ns.sum) | none => .stuck) := rfl
@[simp] theorem dMax_2 : dMax [.int i, .int j] = .ok (.int (max i j)) := by
  show Res.ok (D.int (if j > i then j else i)) = _
  congr 2
  rw [Int.max_def]
  split <;> split <;> omega
@[simp] theorem dMin_2 : dMin [.int i, .int j] = .ok (.int (min i j)) := by
  show Res.ok (D.int (if j < i then j else i)) = _
  congr 2
  rw [Int.min_def]
  split <;> split <;> omega
@[simp] theorem dTuple_list : dTuple [.list xs] = .ok (.tuple xs) := rfl
@[simp] theorem dTuple_tuple : dTuple [.tuple xs] = .ok (.tuple xs) := rfl
@[simp] theorem dList_list : dList [.list xs] = .ok (.list xs) := rfl
@[simp] theorem dList_tuple : dList [.tuple xs] = .ok (.list xs) := rfl
@[simp] theorem toPairs_nil : toPairs [] = some [] := rfl
@[simp] theorem toPairs_cons : toPairs (.tuple [.str u, x] :: xs) = (toPairs xs).map ((.str u, x) :: ·) := rfl
@[simp] theorem dDict_list : dDict [.list xs] = (match toPairs xs with | some ms => .ok (.dict (mergeD [] ms)) | none => .stuck) := rfl
@[simp] theorem dDict_tuple : dDict [.tuple xs] = (match toPairs xs with | some ms => .ok (.dict (mergeD [] ms)) | none => .stuck) := rfl
@[simp] theorem dDict_dict : dDict [.dict kvs] = .ok (.dict kvs) := rfl
@[simp] theorem mergeD_nil : mergeD kvs [] = kvs := rfl
@[simp] theorem mergeD_cons {q : D × D} {qs : List (D × D)} : mergeD kvs (q :: qs) = mergeD (putD kvs q.1 q.2) qs := rfl
@[simp] theorem putD_ap : putD kvs x y = if hasKey x kvs = true then kvs.map fun kv => if D.eqv kv.1 x = true then (kv.1, y) else kv else kvs ++ [(x, y)] := rfl
@[simp] theorem hasKey_nil : hasKey x [] = false := rfl
@[simp] theorem hasKey_cons {q : D × D} : hasKey x (q :: kvs) = (D.eqv q.1 x || hasKey x kvs) := rfl
@[simp] theorem valAt_nil : valAt [] x = none := rfl
@[simp] theorem valAt_cons {q : D × D} : valAt (q :: kvs) x = if D.eqv q.1 x = true then some q.2 else valAt kvs x := by
  unfold valAt
  rw [List.find?_cons]
  cases D.eqv q.1 x <;> rfl
@[simp] theorem allStr_nil : allStr [] = some [] := rfl
@[simp] theorem allStr_cons : allStr ((.str u, x) :: kvs) = (allStr kvs).map (u :: ·) := rfl
@[simp] theorem dSorted_dict : dSorted [.dict kvs] = (match allStr kvs with | some ks => if ks.length < 64 then .ok (.list (sortL (ks.map .str))) else .stuck | none => .stuck) := rfl
@[simp] theorem dSorted_list : dSorted [.list xs] = if sortOk xs = true then .ok (.list (sortL xs)) else .stuck := rfl
@[simp] theorem small_ap : small n = decide (n ≤ 16777216) := rfl
@[simp] theorem mkT_ap : mkT xs = if small xs.length = true then .ok (.tuple xs) else .stuck := rfl
@[simp] theorem mkL_ap : mkL xs = if small xs.length = true then .ok (.list xs) else .stuck := rfl
@[simp] theorem zipD_cons : zipD (x :: xs) (y :: ys) = .tuple [x, y] :: zipD xs ys := rfl
@[simp] theorem zipD_nil : zipD [] ys = [] := by cases ys <;> rfl
@[simp] theorem zipD_nil2 : zipD xs [] = [] := by cases xs <;> rfl
@[simp] theorem zip2_tt : zip2 [.tuple xs, .tuple ys] = .ok (zipD xs ys) := rfl
@[simp] theorem zip2_ll : zip2 [.list xs, .list ys] = .ok (zipD xs ys) := rfl
@[simp] theorem range1_ap : range1 [.int i] = if inB i = true then .ok (upTo 0 i.toNat) else .stuck := rfl
@[simp] theorem range2_ap : range2 [.int i, .int j] = if inB i = true ∧ inB j = true then .ok (upTo i (j - i).toNat) else .stuck := rfl
@[simp] theorem isInt_int : isInt (.int i) = true := rfl
@[simp] theorem isInt_bool : isInt (.bool b) = true := rfl
@[simp] theorem isInt_str : isInt (.str u) = false := rfl
@[simp] theorem isInt_tuple : isInt (.tuple xs) = false := rfl
@[simp] theorem isBool_int : isBool (.int i) = false := rfl
@[simp] theorem isStr_str : isStr (.str u) = true := rfl
@[simp] theorem isTup_tuple : isTup (.tuple xs) = true := rfl
@[simp] theorem isLst_list : isLst (.list xs) = true := rfl
@[simp] theorem isDic_dict : isDic (.dict kvs) = true := rfl
@[simp] theorem dIn_ap : dIn x y = (match inB0 x y with | some b => .ok (.bool b) | none => .stuck) := rfl
@[simp] theorem sliceE_ap {lo hi : MM (Option Int)} : sliceE f lo hi ρ = Out.bind (f ρ) fun x => MM.bind lo fun l => MM.bind hi fun h => lift (sliceD x l h) := rfl
@[simp] theorem partN_ap : partN ρ = .ok none ρ := rfl
@[simp] theorem partS_ap : partS f ρ = Out.bind (f ρ) fun d => match d with | .int i => MM.pure (some i) | _ => stuck := rfl
@[simp] theorem sliceD_list {lo hi : Option Int} : sliceD (.list xs) lo hi = .ok (.list (cutD xs lo hi)) := rfl
@[simp] theorem sliceD_tuple {lo hi : Option Int} : sliceD (.tuple xs) lo hi = .ok (.tuple (cutD xs lo hi)) := rfl
def get2K (f2 f3 : MM D) (o : Out D) : Out D := Out.bind o fun x => match x with
  | .dict kvs => MM.bind f2 fun k => MM.bind f3 fun z => match keyOf k with
    | some _ => MM.pure ((valAt kvs k).getD z)
    | none => stuck
  | _ => stuck
@[simp] theorem get2E_ap : get2E f1 f2 f3 ρ = get2K f2 f3 (f1 ρ) := rfl
@[simp] theorem get2K_ok : get2K f2 f3 (.ok (.dict kvs) ρ) = Out.bind (f2 ρ) fun k => MM.bind f3 fun z => match keyOf k with | some _ => MM.pure ((valAt kvs k).getD z) | none => stuck := rfl
theorem ol_if {α : Type} {o : Option (Option S)} {A B : α} : (match o with | some (some (.ol _)) => A | _ => B) = if (match o with | some (some (.ol _)) => true | _ => false) = true then A else B := by
  rcases o with _ | _ | s
  · rfl
  · rfl
  · cases s <;> rfl
theorem od_if {α : Type} {o : Option (Option S)} {A B : α} : (match o with | some (some (.od _)) => A | _ => B) = if (match o with | some (some (.od _)) => true | _ => false) = true then A else B := by
  rcases o with _ | _ | s
  · rfl
  · rfl
  · cases s <;> rfl
theorem dc_if {α : Type} {o : Option (Option S)} {A B : α} : (match o with | some (some (.dc _)) => A | _ => B) = if (match o with | some (some (.dc _)) => true | _ => false) = true then A else B := by
  rcases o with _ | _ | s
  · rfl
  · rfl
  · cases s <;> rfl
def ownK (g : List (D × D) → MM D) (ρ : MSt) : Option (Option S) → Out D
  | some (some (.od kvs)) => g kvs ρ
  | _ => .stuck
variable {g : List (D × D) → MM D}
@[simp] theorem ownD_ap : ownD k g ρ = ownK g ρ ρ[k]? := rfl
@[simp] theorem ownK_ok : ownK g ρ (some (some (.od kvs))) = g kvs ρ := rfl
def isOd : Option (Option S) → Bool
  | some (some (.od _)) => true
  | _ => false
@[simp] theorem isOd_od : isOd (some (some (.od kvs))) = true := rfl
@[simp] theorem oixE_ap : oixE k f ρ = if isOd ρ[k]? = true then Out.bind (f ρ) (fun x => ownD k fun kvs => match keyOf x, valAt kvs x with | some _, some d => MM.pure d | _, _ => stuck) else .stuck := by
  exact od_if
@[simp] theorem ogetE_ap : ogetE k f f3 ρ = if isOd ρ[k]? = true then Out.bind (f ρ) (fun x => MM.bind f3 fun z => ownD k fun kvs => match keyOf x with | some _ => MM.pure ((valAt kvs x).getD z) | _ => stuck) else .stuck := by
  exact od_if
@[simp] theorem oinE_ap : oinE k b f ρ = Out.bind (f ρ) (fun x => ownD k fun kvs => match keyOf x with | some _ => MM.pure (.bool (if b then hasKey x kvs else !hasKey x kvs)) | _ => stuck) := rfl
def newK (k : Nat) (o : Out S) : Out Fl := Out.bind o fun s => newS k s
@[simp] theorem newO_ap {fo : MM S} : newO fo k ρ = newK k (fo ρ) := rfl
@[simp] theorem newK_ok {s : S} : newK k (.ok s ρ) = newS k s ρ := rfl
@[simp] theorem newS_ap {s : S} : newS k s ρ = if k + 1 < ρ.length then .ok .nx (ρ.set k (some s)) else .stuck := rfl
def frzO (k : Nat) (ρ : MSt) (o : Option (Option S)) : MSt := match o with
  | some (some (.ol xs)) => ρ.set k (some (.d (.list xs)))
  | some (some (.od kvs)) => ρ.set k (some (.d (.dict kvs)))
  | _ => ρ
@[simp] theorem frzS_ap : frzS k ρ = frzO k ρ ρ[k]? := rfl
@[simp] theorem frzO_ol : frzO k ρ (some (some (.ol xs))) = ρ.set k (some (.d (.list xs))) := rfl
@[simp] theorem frzO_od : frzO k ρ (some (some (.od kvs))) = ρ.set k (some (.d (.dict kvs))) := rfl
@[simp] theorem frzO_d : frzO k ρ (some (some (.d x))) = ρ := rfl
@[simp] theorem frzO_dc : frzO k ρ (some (some (.dc xs))) = ρ := rfl
@[simp] theorem frzO_none : frzO k ρ (some none) = ρ := rfl
def isOl : Option (Option S) → Bool
  | some (some (.ol _)) => true
  | _ => false
@[simp] theorem isOl_ol : isOl (some (some (.ol xs))) = true := rfl
def appK (k : Nat) (d : D) (ρ : MSt) (o : Option (Option S)) : Out Fl := match o with
  | some (some (.ol xs)) => if xs.length < sizeLine then .ok .nx (ρ.set k (some (.ol (xs ++ [d])))) else .stuck
  | _ => .stuck
def appJ (k : Nat) (o : Out D) : Out Fl := Out.bind o fun d ρ => appK k d ρ ρ[k]?
@[simp] theorem appS_ap : appS k f ρ = if isOl ρ[k]? = true then appJ k (f ρ) else .stuck := by
  show (match ρ[k]? with | some (some (.ol _)) => appJ k (f ρ) | _ => .stuck) = _
  exact ol_if
@[simp] theorem appJ_ok : appJ k (.ok d ρ) = appK k d ρ ρ[k]? := rfl
@[simp] theorem appJ_ite {o o' : Out D} : appJ k (if p then o else o') = if p then appJ k o else appJ k o' := by split <;> rfl
@[simp] theorem appK_ok : appK k d ρ (some (some (.ol xs))) = if xs.length < sizeLine then .ok .nx (ρ.set k (some (.ol (xs ++ [d])))) else .stuck := rfl
def putK2 (k : Nat) (x v : D) (ρ : MSt) (o : Option (Option S)) (key : Option Key) : Out Fl := match o, key with
  | some (some (.od kvs)), some _ => if kvs.length < sizeLine then .ok .nx (ρ.set k (some (.od (putD kvs x v)))) else .stuck
  | _, _ => .stuck
def putJ (k : Nat) (v : D) (o : Out D) : Out Fl := Out.bind o fun x ρ => putK2 k x v ρ ρ[k]? (keyOf x)
def putI (k : Nat) (fk : MM D) (o : Out D) : Out Fl := Out.bind o fun v ρ => if isOd ρ[k]? = true then putJ k v (fk ρ) else .stuck
@[simp] theorem putS_ap {fv fk : MM D} : putS k fv fk ρ = putI k fk (fv ρ) := by
  unfold putS putI
  show Out.bind (fv ρ) _ = Out.bind (fv ρ) _
  congr 1
  funext v ρ
  show (match ρ[k]? with | some (some (.od _)) => putJ k v (fk ρ) | _ => .stuck) = _
  exact od_if
@[simp] theorem putI_ok {fk : MM D} : putI k fk (.ok d ρ) = if isOd ρ[k]? = true then putJ k d (fk ρ) else .stuck := rfl
@[simp] theorem putJ_ok : putJ k d (.ok x ρ) = putK2 k x d ρ ρ[k]? (keyOf x) := rfl
@[simp] theorem putK2_ok {key : Key} : putK2 k x d ρ (some (some (.od kvs))) (some key) = if kvs.length < sizeLine then .ok .nx (ρ.set k (some (.od (putD kvs x d)))) else .stuck := rfl
variable {gs : MM (List S)} {ss : List S} {s : S} {fo : MM S}
def consDK (gs : MM (List S)) (o : Out D) : Out (List S) := Out.bind o fun x => MM.bind gs fun ss => MM.pure (.d x :: ss)
def consSK (gs : MM (List S)) (o : Out S) : Out (List S) := Out.bind o fun x => MM.bind gs fun ss => MM.pure (x :: ss)
def consSJ (s : S) (o : Out (List S)) : Out (List S) := Out.bind o fun ss => MM.pure (s :: ss)
@[simp] theorem consD_ap : consD f gs ρ = consDK gs (f ρ) := rfl
@[simp] theorem consDK_ok : consDK gs (.ok x ρ) = consSJ (.d x) (gs ρ) := rfl
@[simp] theorem consDK_ite {o o' : Out D} : consDK gs (if p then o else o') = if p then consDK gs o else consDK gs o' := by split <;> rfl
@[simp] theorem consS_ap : consS fo gs ρ = consSK gs (fo ρ) := rfl
@[simp] theorem consSK_ok : consSK gs (.ok s ρ) = consSJ s (gs ρ) := rfl
@[simp] theorem consSJ_ok : consSJ s (.ok ss ρ) = .ok (s :: ss) ρ := rfl
@[simp] theorem consSJ_ite {o o' : Out (List S)} : consSJ s (if p then o else o') = if p then consSJ s o else consSJ s o' := by split <;> rfl
def parK (is : List Nat) (o : Out (List S)) : Out Fl := Out.bind o (putsR is)
variable {is : List Nat}
@[simp] theorem parL_ap : parL is gs ρ = parK is (gs ρ) := rfl
@[simp] theorem parK_ok : parK is (.ok ss ρ) = putsR is ss ρ := rfl
@[simp] theorem parK_ite {o o' : Out (List S)} : parK is (if p then o else o') = if p then parK is o else parK is o' := by split <;> rfl
@[simp] theorem putsR_ap : putsR is ss ρ = if is.length = ss.length ∧ (∀ i ∈ is, i + 1 < ρ.length) then .ok .nx (putsS ρ is ss) else .stuck := rfl
@[simp] theorem putsS_nil : putsS ρ [] ss = ρ := by cases ss <;> rfl
@[simp] theorem putsS_cons : putsS ρ (k :: is) (s :: ss) = putsS (ρ.set k (some s)) is ss := rfl
def isDcS : Option (Option S) → Bool
  | some (some (.dc _)) => true
  | _ => false
@[simp] theorem isDcS_dc : isDcS (some (some (.dc xs))) = true := rfl
variable {fm : List D → List D → Res (D × List D)}
def callOR (k : Nat) (ρ : MSt) (r : Res (D × List D)) : Out D := match r with
  | .ok (d, xs') => .ok d (ρ.set k (some (.dc xs')))
  | _ => .stuck
def callOJ (fm : List D → List D → Res (D × List D)) (k : Nat) (ds : List D) (ρ : MSt) (o : Option (Option S)) : Out D := match o with
  | some (some (.dc xs)) => callOR k ρ (fm xs ds)
  | _ => .stuck
def callOK (fm : List D → List D → Res (D × List D)) (k : Nat) (o : Out (List D)) : Out D := Out.bind o fun ds ρ => callOJ fm k ds ρ ρ[k]?
@[simp] theorem callO_ap : callO fm k ga ρ = if isDcS ρ[k]? = true then callOK fm k (ga ρ) else .stuck := by
  show (match ρ[k]? with | some (some (.dc _)) => callOK fm k (ga ρ) | _ => .stuck) = _
  exact dc_if
@[simp] theorem callOK_ok : callOK fm k (.ok xs ρ) = callOJ fm k xs ρ ρ[k]? := rfl
@[simp] theorem callOK_ite {o o' : Out (List D)} : callOK fm k (if p then o else o') = if p then callOK fm k o else callOK fm k o' := by split <;> rfl
@[simp] theorem callOJ_ok : callOJ fm k ys ρ (some (some (.dc xs))) = callOR k ρ (fm xs ys) := rfl
@[simp] theorem callOR_ok : callOR k ρ (.ok (d, xs)) = .ok d (ρ.set k (some (.dc xs))) := rfl
@[simp] theorem callOR_ite {o o' : Res (D × List D)} : callOR k ρ (if p then o else o') = if p then callOR k ρ o else callOR k ρ o' := by split <;> rfl
def dsetJ (k n : Nat) (d : D) (ρ : MSt) (o : Option (Option S)) : Out Fl := match o with
  | some (some (.dc xs)) => if n < xs.length then .ok .nx (ρ.set k (some (.dc (xs.set n d)))) else .stuck
  | _ => .stuck
def dsetK (k n : Nat) (o : Out D) : Out Fl := Out.bind o fun d ρ => dsetJ k n d ρ ρ[k]?
@[simp] theorem dsetS_ap : dsetS k n f ρ = dsetK k n (f ρ) := by unfold dsetS dsetK dsetJ; rfl
@[simp] theorem dsetK_ok : dsetK k n (.ok d ρ) = dsetJ k n d ρ ρ[k]? := rfl
@[simp] theorem dsetK_ite {o o' : Out D} : dsetK k n (if p then o else o') = if p then dsetK k n o else dsetK k n o' := by split <;> rfl
@[simp] theorem dsetJ_ok : dsetJ k n d ρ (some (some (.dc xs))) = if n < xs.length then .ok .nx (ρ.set k (some (.dc (xs.set n d)))) else .stuck := rfl
def borK (ρ : MSt) (o : Out D) : Out D := match o with
  | .ok d _ => if scal d = true then .ok d ρ else .stuck
  | _ => .stuck
@[simp] theorem borrow_ap : borrow f ρ = borK ρ (f (seen ρ)) := rfl
@[simp] theorem borK_ok {ρ' : MSt} : borK ρ (.ok d ρ') = if scal d = true then .ok d ρ else .stuck := rfl
def borTK (ρ : MSt) (o : Out Bool) : Out Bool := match o with
  | .ok d _ => .ok d ρ
  | _ => .stuck
@[simp] theorem borrowT_ap {t : MM Bool} : borrowT t ρ = borTK ρ (t (seen ρ)) := rfl
@[simp] theorem borTK_ok {ρ' : MSt} : borTK ρ (.ok b ρ') = .ok b ρ := rfl
@[simp] theorem seen_nil : seen [] = [] := rfl
@[simp] theorem seen_cons {o : Option S} : seen (o :: ρ) = o.bind seenS :: seen ρ := rfl
@[simp] theorem seenS_d : seenS (.d x) = some (.d x) := rfl
@[simp] theorem seenS_dc : seenS (.dc xs) = some (.d (.list xs)) := rfl
@[simp] theorem seenS_ol : seenS (.ol xs) = some (.d (.list xs)) := rfl
@[simp] theorem seenS_od : seenS (.od kvs) = none := rfl
@[simp] theorem scal_int : scal (.int i) = true := rfl
@[simp] theorem scal_bool : scal (.bool b) = true := rfl
@[simp] theorem scal_str : scal (.str u) = true := rfl
@[simp] theorem scal_none : scal .none = true := rfl
@[simp] theorem endF_rt : endF (.ok (.rt d) ρ) = .ok d := rfl
@[simp] theorem endF_nx : endF (.ok .nx ρ) = .ok .none := rfl
@[simp] theorem endF_exn : endF (.exn e ρ) = .exn e := rfl
@[simp] theorem endF_stuck : endF .stuck = .stuck := rfl
@[simp] theorem endF_ite {o o' : Out Fl} : endF (if p then o else o') = if p then endF o else endF o' := by split <;> rfl
@[simp] theorem runF_ap {s : MM Fl} : runF n m s xs = if xs.length = m then endF (s (startM n xs)) else .stuck := rfl
@[simp] theorem startM_ap : startM n xs = xs.map (fun d => some (S.d d)) ++ List.replicate (n + 1 - xs.length) none := rfl
@[simp] theorem runO_ap {s : MM Fl} : runO n m s xs ys = if ys.length + 1 = m then endO (s (startO n xs ys)) else .stuck := rfl
@[simp] theorem startO_ap : startO n xs ys = some (.dc xs) :: (ys.map (fun d => some (S.d d)) ++ List.replicate (n - ys.length) none) := rfl
@[simp] theorem endO_rt : endO (.ok (.rt d) (some (.dc xs) :: ρ)) = .ok (d, xs) := rfl
@[simp] theorem endO_nx : endO (.ok .nx (some (.dc xs) :: ρ)) = .ok (.none, xs) := rfl
@[simp] theorem endO_ite {o o' : Out Fl} : endO (if p then o else o') = if p then endO o else endO o' := by split <;> rfl
end
def Wp {α : Type} (o : Out α) (P : α → MSt → Prop) : Prop := ∃ a ρ, o = .ok a ρ ∧ P a ρ
end Mi
set_option Elab.async false
set_option linter.all false
set_option maxRecDepth 100000
set_option maxHeartbeats 4000000
set_option Elab.async false
set_option linter.all false
set_option maxRecDepth 100000
set_option maxHeartbeats 4000000
set_option Elab.async false
set_option linter.all false
set_option maxRecDepth 100000
set_option maxHeartbeats 4000000
namespace Mi
open PySem L2
section
variable {X : Cx} {pins : List (Addr × Obj)} {σ : L2.St} {H HZ : Hp} {s s1 : Shared}
abbrev lamN (X : Cx) (A : Around) (outer : List Env) (s : Shared) (H : Hp) (E : XK) (scope : Scope) (f c' : Addr) : Cx :=
  { LamX.lamCx X A outer s H E scope f c' with xe := fun e s' => wpAny (model X.prog X.w) (A.deeper (LamX.lamEnv X scope s.heap.objs.size f c')) (leaving (LamX.lamEnv X scope s.heap.objs.size f c') e) (fun _ s'' => L2N.CX X.prog X.w outer H s E e s'') (fun e' s'' => L2N.CX X.prog X.w outer H s E e' s'') s' }
theorem pe_actN {CXg : CXT} {Eg : XK} {Ng : List Str} {qg : Str} {sg : Scope} {g f c' : Addr} {cdg pm ctv : Value} {params : Arguments} {body : Expr} {scope : Scope} {k i : Nat} {a : Str} {pn : List (Addr × Obj)} {xe : Value → Shared → Prop} {W : WX} {E : XK} {tb : TE} {p1 p2 : Pos}
    (I : Inv X pins σ H s) (L : LamX.LamS X.env.scope scope) (hf : s.heap.get? f = some (PySem.W.kla_obj "<lambda>" (X.env.qual ++ "<lambda>") params body scope (cloFrom X.env.cells scope.names []) pm c' ctv)) (hfn : H f = none) (hfr : f ∉ frs X.stack)
    (hbind : bindArgs (PySem.W.kla_fn "<lambda>" (X.env.qual ++ "<lambda>") params body scope (cloFrom X.env.cells scope.names []) pm (.ref c') ctv) ⟨[], []⟩ = pure [])
    (tk : L2N.Takes ((cxOf CXg X.prog X.w X.K X.mg X.base Ng qg sg g cdg X.A X.stack s H Eg).tr pn xe) W) (hW : ∀ cls d σ' H', E cls d H' → W cls d σ' H') (hr : Room (k + 1) (X.A.deeper (PyProof.Rows.envOfC qg sg s.heap.objs.size g cdg)))
    (hbody : ∀ (A : Around) (outer : List Env) (s : Shared) (H : Hp), Room k (A.deeper (LamX.lamEnv X scope s.heap.objs.size f c')) → PE (lamN X A outer s H E scope f c') body tb)
    (hN : Ng[i]? = some a) (hv : Vis sg a) (hd : (a == ("__debug__" : Str)) = false := by decide) (hcd : (a == ("__classdict__" : Str)) = false := by decide) :
    PE ((cxOf CXg X.prog X.w X.K X.mg X.base Ng qg sg g cdg X.A X.stack s H Eg).tr pn xe) (.Call (.Name a p1) [] [] p2)
      (fun σZ HZ Q => σZ[i]? = some (some (.ref f)) ∧ HZ c' = some (LamX.CodeO c' (X.env.qual ++ "<lambda>")) ∧ tb σ HZ Q) := by
  refine ⟨fun pinsZ sZ σZ HZ Q IZ h => ?_⟩
  obtain ⟨hs, hc, ht⟩ := h
  refine wpAny_Call_Name_kw (thn ((pe_var (pos := p1) (i := i) hN hv hd hcd).run pinsZ sZ σZ HZ (fun v H1 => v = .ref f ∧ H1 = HZ) IZ ⟨.ref f, hs, rfl, rfl⟩) fun u s1 ⟨v, H1, I1, r1, q1⟩ => ?_)
  obtain ⟨ev, eH⟩ := q1
  subst ev
  rw [eH] at I1
  obtain rfl : u = Value.ref f := r1
  have of1 : s1.heap.get? f = some (PySem.W.kla_obj "<lambda>" (X.env.qual ++ "<lambda>") params body scope (cloFrom X.env.cells scope.names []) pm c' ctv) := I1.base.keep f _ hf hfn hfr (fun z => nomatch (show f ∈ ([] : List Addr) from z))
  refine PySem.W.callWith_F0 ⟨_, _, _, _, of1⟩ ?_
  have un : Un (frs X.stack) [] H HZ s.heap s1.heap := I1.base
  obtain ⟨⟨oc, vs, t, hoc, hdc, hvc⟩, _, _⟩ := I1.hok c' _ hc
  have rc : codeAny (model X.prog X.w) (X.A.deeper (PyProof.Rows.envOfC qg sg s.heap.objs.size g cdg)) (.call (.ref f) ⟨[], []⟩) (CR (L2N.CX X.prog X.w) (PyProof.Rows.envOfC qg sg s.heap.objs.size g cdg :: X.stack) X.prog X.w HZ s1 Q E) s1 := by
    refine PySem.W.kla_callFunE hr.depth of1 rfl L.co L.gen rfl ⟨c', oc, vs, t, rfl, hoc, hdc, hvc⟩ ?_
    rw [hbind]
    refine wpAny_pure (wpAny_newFunctionEnv (fun y hy => (L.own y hy).2) (fun y hy => absurd hy (by simp)) (fun h₁ hns hsb => ⟨I1.nolimit.fresh _ hsb, ?_⟩) L.kind)
    show codeAny _ _ (.expr body (LamX.lamEnv X scope s1.heap.objs.size f c')) _ _
    have kp : ∀ b o, s1.heap.get? b = some o → h₁.get? b = some o := fun b o e => hsb.extBut b o (Nat.ne_of_lt (Heap.lt_size e)) (Heap.get?_push_of_some _ e)
    have J : Inv (LamX.lamCx X (X.A.deeper (PyProof.Rows.envOfC qg sg s.heap.objs.size g cdg)) (PyProof.Rows.envOfC qg sg s.heap.objs.size g cdg :: X.stack) s1 HZ E scope f c') [] σ HZ { s1 with heap := h₁, toks := s1.toks + ([] : List (Str × Value)).length } :=
      LamX.lam_start2 I L I1.env0 hr.hd un hns kp
    have J2 : Inv (lamN X (X.A.deeper (PyProof.Rows.envOfC qg sg s.heap.objs.size g cdg)) (PyProof.Rows.envOfC qg sg s.heap.objs.size g cdg :: X.stack) s1 HZ E scope f c') [] σ HZ { s1 with heap := h₁, toks := s1.toks + ([] : List (Str × Value)).length } := J.toTry _
    refine PySem.W.kla_codeExpr (wpAny_mono ((hbody _ _ s1 HZ (hr.deeper _)).run [] _ _ HZ Q J2 ht) (fun v s' hq => ?_) fun e s' hq => hq)
    obtain ⟨w', H', J', rv, q⟩ := hq
    exact ⟨w', H', J'.os, J'.bare, J'.base, J'.hok, rv, q⟩
  have hx : Passes (L2N.CX X.prog X.w) ((cxOf CXg X.prog X.w X.K X.mg X.base Ng qg sg g cdg X.A X.stack s H Eg).tr pn xe) E := L2N.passes_call tk hW
  refine wpAny_call (codeAny_mono rc fun r s' hq => ?_)
  cases r with
  | error e => exact hx pinsZ σZ HZ s1 e s' I1 hq
  | ok fl =>
    cases fl with
    | ret u => exact I1.after hq
    | next => exact False.elim hq
    | brk => exact False.elim hq
    | cont => exact False.elim hq
end
end Mi
set_option Elab.async false
set_option linter.all false
set_option maxRecDepth 100000
set_option maxHeartbeats 4000000
namespace Mi
open PySem L2
section
variable {X : Cx} {pins : List (Addr × Obj)} {σ : L2.St} {H : Hp} {s : Shared}
theorem lam_make3 {T : List (Addr × Str)} {c P : Addr} {params : Arguments} {body : Expr} {scope : Scope} {pos : Pos} {E : Value → Shared → Prop} {Q : Value → Shared → Prop} (I : Inv X pins σ H s) (TB : LamX.TabB X.base X.mg c P) (hcode : X.env.code = .ref c)
    (hm : (P, X.env.qual ++ "<lambda>") ∈ T) (hu : ∀ p ∈ T, p.1 = P → p.2 = X.env.qual ++ "<lambda>") (hT : LamX.Tabs T H) (hdef : defaultsOf params X.env = ([], [])) (hfree : ∀ y ∈ scope.names, y.2 = .free → ∃ c, X.env.cells.lookup y.1 = some c)
    (h : ∀ (f c' : Addr) (pm ctv : Value) (H1 : Hp) (s' : Shared), Inv X pins σ H1 s' → LamX.ExtN H H1 → (∀ a ps, H a = some (.tbl ps) → ∃ ps', H1 a = some (.tbl ps')) → LamX.Tabs T H1 →
      s'.heap.get? f = some (PySem.W.kla_obj "<lambda>" (X.env.qual ++ "<lambda>") params body scope (cloFrom X.env.cells scope.names []) pm c' ctv) → H1 f = none → f ∉ frs X.stack → H1 c' = some (LamX.CodeO c' (X.env.qual ++ "<lambda>")) → Q (.ref f) s') :
    wpAny (model X.prog X.w) X.A (eval (.Lambda params body scope pos) X.env) Q E s := by
  obtain ⟨ps, hP, ht, ha⟩ := hT _ hm
  refine PySem.W.kla_eval hdef ?_
  have bP : s.heap.BuiltinsAt X.mg P := TB.bm.keeps I.bk
  have hP' : s.heap.get? P = some { cls := .none, data := .fields ps } := I.hok P _ hP
  have nofr : ∀ f, s.heap.objs.size ≤ f → f ∉ frs X.stack := fun f hf z => by
    rcases List.mem_cons.mp (I.stkSub _ z) with e | e
    · have h1 := I.lt
      rw [← e] at h1
      exact Nat.lt_irrefl _ (Nat.lt_of_lt_of_le h1 hf)
    · exact I.nofs hf e
  cases hc : codeAmong pos ps.toList with
  | none =>
    refine PySem.W.kla_makeFunction (mg := X.mg) (c := c) (P := P) (ps := ps) (closure_ok hfree) I.ok.glob (I.mod.glob.keeps I.bk) hcode (TB.code.keeps I.bk) hP' ht hc TB.gP bP fun c' ctv h' tk hx hge hlt hrec htb => ?_
    obtain ⟨c2, oc, vs, t, e2, hoc, hd, hv⟩ := hrec
    cases e2
    have hsz : s.heap.objs.size ≤ h'.objs.size := Nat.le_trans hge (Nat.le_of_lt hlt)
    have nC : H c' = none := I.hok.fresh hge
    have I1 := LamX.inv_table (t' := tk) (more := #[rawInt pos.line, rawInt pos.col, .ref c']) (h' := h'.push (PySem.W.kla_obj "<lambda>" (X.env.qual ++ "<lambda>") params body scope (cloFrom X.env.cells scope.names []) ((X.mg "__name__").getD .none) c' ctv)) I hP
      (fun b o hb e => Heap.get?_push_of_some _ (hx b o hb e)) (Heap.get?_push_of_some _ htb) hge ⟨oc, vs, t, Heap.get?_push_of_some _ hoc, hd, hv⟩
    have hE : LamX.ExtN H (upd (upd H P (.tbl (ps ++ #[rawInt pos.line, rawInt pos.col, .ref c']))) c' (LamX.CodeO c' (X.env.qual ++ "<lambda>"))) := fun b o e n => by
      rw [upd_ne (ne_of_none e nC), upd_ne (fun z => n ps (Option.some.inj (e.symm.trans (by rw [z]; exact hP))))]
      exact e
    have eL : (ps ++ #[rawInt pos.line, rawInt pos.col, .ref c']).toList = ps.toList ++ [rawInt pos.line, rawInt pos.col, .ref c'] := by simp
    refine h h'.objs.size c' ((X.mg "__name__").getD .none) ctv _ _ I1 hE (fun b qs e => by
      by_cases hb : b = P
      · rw [hb]; exact ⟨_, by rw [upd_ne (ne_of_none hP nC), upd_same]⟩
      · exact ⟨qs, by rw [upd_ne (ne_of_none e nC), upd_ne hb]; exact e⟩) (fun p hp => ?_) (Heap.get?_push_size _ rfl) ?_ (nofr _ hsz) upd_same
    · by_cases hb : p.1 = P
      · rw [hu p hp hb, hb]
        refine ⟨_, by rw [upd_ne (ne_of_none hP nC), upd_same], by rw [eL]; exact PySem.TriplesOk_snoc _ _ _ _ ht, fun p' cv hcv => ?_⟩
        rw [eL] at hcv
        rcases LamX.among_app _ ht hcv with z | z
        · obtain ⟨c0, e1, e2⟩ := ha p' cv z
          exact ⟨c0, e1, hE _ _ e2 LamX.codeO_ne⟩
        · exact ⟨c', z, upd_same⟩
      · obtain ⟨ps', a1, a2, a3⟩ := hT p hp
        refine ⟨ps', by rw [upd_ne (ne_of_none a1 nC), upd_ne hb]; exact a1, a2, fun p' cv hcv => ?_⟩
        obtain ⟨c0, e1, e2⟩ := a3 p' cv hcv
        exact ⟨c0, e1, hE _ _ e2 LamX.codeO_ne⟩
    · have n1 : h'.objs.size ≠ c' := Nat.ne_of_gt hlt
      have n2 : h'.objs.size ≠ P := Nat.ne_of_gt (Nat.lt_of_lt_of_le (Heap.lt_size hP') hsz)
      rw [upd_ne n1, upd_ne n2]
      exact I.hok.fresh hsz
  | some cv =>
    obtain ⟨c', e, hco⟩ := ha pos cv hc
    subst e
    refine PySem.W.kla_makeFunctionHit (mg := X.mg) (c := c) (P := P) (ps := ps) (closure_ok hfree) I.ok.glob (I.mod.glob.keeps I.bk) hcode (TB.code.keeps I.bk) hP' ht hc bP fun ctv h' tk hx hsz => ?_
    have I1 : Inv X pins σ H { s with heap := h'.push (PySem.W.kla_obj "<lambda>" (X.env.qual ++ "<lambda>") params body scope (cloFrom X.env.cells scope.names []) ((X.mg "__name__").getD .none) c' ctv), toks := tk } := I.kept fun b o e => Heap.get?_push_of_some _ (hx b o e)
    exact h h'.objs.size c' ((X.mg "__name__").getD .none) ctv H _ I1 (LamX.ExtN.refl H) (fun a ps e => ⟨ps, e⟩) hT (Heap.get?_push_size _ rfl) (I.hok.fresh hsz) (nofr _ hsz) hco
end
/-- as LamX.tLam, the tables kept tables -/
def tLamT (T : List (Addr × Str)) (TT : (XK → Hp → VK → Prop) → Hp → VK → Prop) (t : XK → TE) : TE := fun σ H Q => LamX.Tabs T H ∧ ∀ H1, LamX.ExtN H H1 → (∀ a ps, H a = some (.tbl ps) → ∃ ps', H1 a = some (.tbl ps')) → LamX.Tabs T H1 → TT (fun E H' Q' => t E σ H' Q') H1 Q
section
variable {X : Cx}
/-- the def that calls what it got -/
def GivesN (X : Cx) (Ng : List Str) (x : Str) (sg : Scope) (g : Addr) (cdg : Value) (bg : List Stmt) (a : Str) (q : Str) (k : Nat) (TT : (XK → Hp → VK → Prop) → Hp → VK → Prop) : Prop :=
  ∀ (f c' : Addr) (s : Shared) (H : Hp) (Q : VK) (tl : XK → Hp → VK → Prop), Room k (X.A.deeper (PyProof.Rows.envOfC x sg s.heap.objs.size g cdg)) →
    (∀ (W : WX) (pn : List (Addr × Obj)) (xe : Value → Shared → Prop) (E : XK) (p1 p2 : Pos), L2N.Takes ((cxOf C8.CX0 X.prog X.w X.K X.mg X.base Ng x sg g cdg X.A X.stack s H C8.E0).tr pn xe) W → (∀ cls d σ' H', E cls d H' → W cls d σ' H') →
      PE ((cxOf C8.CX0 X.prog X.w X.K X.mg X.base Ng x sg g cdg X.A X.stack s H C8.E0).tr pn xe) (.Call (.Name a p1) [] [] p2) (fun σZ HZ Q => σZ[0]? = some (some (.ref f)) ∧ HZ c' = some (LamX.CodeO c' q) ∧ tl E HZ Q)) →
    H c' = some (LamX.CodeO c' q) → TT tl H Q →
    ∃ t, PSs (cxOf C8.CX0 X.prog X.w X.K X.mg X.base Ng x sg g cdg X.A X.stack s H C8.E0).nox bg t ∧ t { nx := fun _ H' => Q .non H', rt := Q } (L2.start Ng [.ref f]) H
theorem pe_lamcallN {T : List (Addr × Str)} {TT : (XK → Hp → VK → Prop) → Hp → VK → Prop} {x a : Str} {g c P : Addr} {k : Nat} {pg : Arguments} {bg : List Stmt} {sg : Scope} {dV kV doc pm cdv ct oc : Value} {an od : Option Addr} {osl : Array (Option Value)} {Ng : List Str}
    {params : Arguments} {body : Expr} {scope : Scope} {t : XK → TE} {p lpos pos : Pos} (hg : Gl X x) (hm : X.mg x = some (.ref g)) (hk : PySem.W.keepIn X.K (.ref g) = true)
    (lk : X.K.lookup g = some ⟨oc, od, .func (PySem.W.fnOf x x pg bg sg dV kV doc pm an cdv ct), osl⟩) (hcg : PySem.W.codeIn X.K cdv x = true) (hb : L2.Binds X.K (PySem.W.fnOf x x pg bg sg dV kV doc pm an cdv ct) [a] []) (Sg : FnScope Ng [a] sg) (hNg : Ng[0]? = some a) (hva : Vis sg a)
    (hG : GivesN X Ng x sg g cdv bg a (X.env.qual ++ "<lambda>") (k + 1) TT)
    (TB : LamX.TabB X.base X.mg c P) (hcode : X.env.code = .ref c) (hmT : (P, X.env.qual ++ "<lambda>") ∈ T) (hu : ∀ p ∈ T, p.1 = P → p.2 = X.env.qual ++ "<lambda>") (hr : Room (k + 2) X.A) (L : LamX.LamS X.env.scope scope) (hdef : defaultsOf params X.env = ([], []))
    (hbind : ∀ (q : Str) (cl : List (Str × Addr)) (pm cv ctv : Value), bindArgs (PySem.W.kla_fn "<lambda>" q params body scope cl pm cv ctv) ⟨[], []⟩ = pure [])
    (hbody : ∀ (A : Around) (outer : List Env) (s : Shared) (H : Hp) (E : XK) (f c' : Addr), Room k (A.deeper (LamX.lamEnv X scope s.heap.objs.size f c')) → PE (lamN X A outer s H E scope f c') body (t E))
    (hdb : (x == ("__debug__" : Str)) = false := by decide) (hd : (a == ("__debug__" : Str)) = false := by decide) (hcd : (a == ("__classdict__" : Str)) = false := by decide) :
    PE X (.Call (.Name x p) [.Lambda params body scope lpos] [] pos) (tLamT T TT t) := by
  refine ⟨fun pins s σ H Q I h => ?_⟩
  obtain ⟨hT, h⟩ := h
  refine wpAny_Call_Name_kw (ld_glob I hg hm ?_ hdb)
  refine PySem.W.callWith_K (h₀ := X.base) I.ok.mod.kin hk ?_ (by rfl) (by rfl)
  show wpAny _ _ (spliced ((false, eval (.Lambda params body scope lpos) X.env) :: backTo pos (starEach [] X.env))) _ _ s
  refine Calls.spliced_cons (lam_make3 I TB hcode hmT hu hT hdef (L.has I.ok) fun f c' pm' ctv H1 s' I1 eN eT T1 hf hfn hfr hco => ?_)
  refine Calls.spliced_nil ⟨I1.kIn, ?_⟩
  have rc : codeAny (model X.prog X.w) X.A (.call (.ref g) ⟨[.ref f], []⟩) (CR C8.CX0 X.stack X.prog X.w H1 s' Q C8.E0) s' := by
    refine LamX.run_ofS (N := Ng) (ps := [a]) (us := [.ref f]) (vs := [.ref f]) lk hcg Sg hr I1.env0 (hb s' [.ref f] I1.kIn rfl) (.cons rfl .nil) rfl fun hr' => ?_
    obtain ⟨t', ht', hq'⟩ := hG f c' s' H1 Q (fun E H' Q' => t E σ H' Q') hr' (fun W pn xe E p1 p2 tk hW => pe_actN (i := 0) I1 L hf hfn hfr (hbind _ _ _ _ _) tk hW hr' (fun A outer s H hr2 => hbody A outer s H E f c' hr2) hNg hva hd hcd) hco (h H1 eN eT T1)
    exact ⟨t', ht'.nox, hq'⟩
  refine wpAny_call (codeAny_mono rc fun r s2 hq => ?_)
  cases r with
  | error e => exact (show False from hq).elim
  | ok fl =>
    cases fl with
    | ret u => exact I1.after hq
    | next => exact False.elim hq
    | brk => exact False.elim hq
    | cont => exact False.elim hq
end
end Mi
set_option Elab.async false
set_option linter.all false
set_option maxRecDepth 100000
set_option maxHeartbeats 4000000
namespace Mi
open PySem L2
section
variable {X : Cx} {Kd : Value → Str → Prop}
theorem L2N_takes0 {X : Cx} : L2N.Takes X (fun _ _ _ _ => False) := fun _ _ ⟨_, _, _, _, _, _, _, _, _, _, _, _, _, _, _, _, w⟩ => w.elim
end
def toldX (ns : List Str) (e : Exn) : Res D := match e.lacks with
  | none => if e.cls ∈ ns then .ok (.tuple [.str "refused", .str e.cls]) else .stuck
  | some _ => .stuck
def toldK (ns : List Str) (o : Out D) : Out D := match o with
  | .ok d ρ => .ok d ρ
  | .exn e ρ => lift (toldX ns e) ρ
  | .stuck => .stuck
def toldE (ns : List Str) (f : MM D) : MM D := fun ρ => toldK ns (f ρ)
section
variable {X : Cx} {T : Tb} {c : Gh} {W : WX}
/-- raise x('..'), x an own class of refusals -/
def raiseS (x : Str) : MM Fl := fun ρ => .exn ⟨x, none⟩ ρ
theorem ms_raise {x m : Str} {j : Nat} {p p2 pos pos' : Pos} (hc : X.calm = true) (tk : L2N.Takes X W) (fx : (He.Fa.exc x).ok X.K = true) (gC : X.mg x = some (.ref (He.ga X.K x))) (hg : Gl X x) (hdb : (x == ("__debug__" : Str)) = false := by decide) :
    PS X (.Raise (some (.Call (.Name x p) [.Constant (.str m) j p2] [] pos)) none pos') (mS X.K T c W (raiseS x)) := by
  obtain ⟨e1, e2, e3, e4⟩ := He.exc_ok fx
  refine ps_mono (L2N.ps_raise hc tk (L2N.pmk_own PySem.F.excBase_ValueError e1 gC e2 (raises_own e3 e4) hg hdb)) fun Dn σ H ⟨G, ρ, jj, pp⟩ => pp _ none σ G H (Le.refl G) jj ⟨rfl, rfl⟩
end
end Mi
set_option Elab.async false
set_option linter.all false
set_option maxRecDepth 100000
set_option maxHeartbeats 4000000
set_option Elab.async false
set_option linter.all false
set_option maxRecDepth 100000
set_option maxHeartbeats 4000000
set_option Elab.async false
set_option linter.all false
set_option maxRecDepth 100000
set_option maxHeartbeats 4000000
namespace Mi
open PySem L2
def idxOf (n : Str) : Nat := CL.findIdx fun c => decide (n = c)
end Mi
set_option Elab.async false
set_option linter.all false
set_option maxRecDepth 100000
set_option maxHeartbeats 4000000
namespace Mi
open PySem L2
structure ExF (K : Fg) (x : Str) : Prop where
  c : ExcC K (He.ga K x)
  k : ∀ y ∈ CL, PySem.W.kitOne K (.ref (He.ga K x)) (.ref (He.ga K y)) = some (decide (x = y))
  v : PySem.W.kitOne K (.ref (He.ga K x)) (.type "ValueError") = some true
  t : PySem.W.exmOne K (.ref (He.ga K x)) (.ref (He.ga K "TooMuch")) = some false
  e : PySem.W.exmOne K (.ref (He.ga K x)) (.ref (He.ga K "CastError")) = some true
  m : x ∈ CL
  o : (He.Fa.exc x).ok K = true
theorem excB_ok {K : Fg} {x : Str} (h : excB K x = true) : ExF K x := by
  unfold excB at h
  simp only [Bool.and_eq_true, decO, decide_eq_true_eq, List.all_eq_true] at h
  obtain ⟨h1, h2, h3, h4, h5, h6, h7, h8, h9, h10, h11, h12, h13, h14⟩ := h
  exact ⟨⟨h1, h2, h3, h4, h5, h6, h7, h8⟩, h9, h10, h11, h12, h13, h14⟩
structure ToldF (K : Fg) (mg : Str → Option Value) (ns : List Str) : Prop where
  x : ∀ x ∈ ns, ExF K x
  g : ∀ x ∈ CL, mg x = some (.ref (He.ga K x))
  ce : mg "CastError" = some (.ref (He.ga K "CastError"))
theorem toldF_of {K : Fg} {h : Heap} {mg : Str → Option Value} {ns : List Str} (X : K.In h) (G : h.Ns mainGlobals mg) (b : toldB ns K = true) : ToldF K mg ns := by
  unfold toldB at b
  simp only [Bool.and_eq_true, List.all_eq_true] at b
  exact ⟨fun x hx => excB_ok (b.1 x hx), fun x hx => He.glo_ok X G (b.2.1 x hx), He.glo_ok X G b.2.2⟩
def MkrF (K : Fg) (mg : Str → Option Value) (base : Heap) (T : Tb) (fd : FuncData) (q : Str) : Prop := ∃ c P, fd.code = .ref c ∧ LamX.TabB base mg c P ∧ (P, q) ∈ T.tabs ∧ ∀ p ∈ T.tabs, p.1 = P → p.2 = q
end Mi
set_option Elab.async false
set_option linter.all false
set_option maxRecDepth 100000
set_option maxHeartbeats 4000000
namespace Mi
open PySem L2
def qlam (x : Str) : Str := (x ++ ".<locals>.") ++ "<lambda>"
theorem code_of {K : Fg} {x : Str} {st : Stmt} {fd : FuncData} (F : Fun K x x st (He.fAd K (x, none)) fd) : fd.code = .ref (He.cT K (x, none)).1 := by
  obtain ⟨oc, od, kV, doc, pm, an, cdv, ct, osl, rfl, lk, hcd⟩ := F.ex
  obtain ⟨c, e⟩ := He.codeIn_ref hcd
  subst e
  exact congrArg Value.ref (He.codeOf_eq lk rfl).symm
def Ts (td : Addr → List (V × V) → List (D × D) → HO → Prop) (tf : List He.Defn) (K : Fg) : Tb := ⟨tf.map fun p => ((He.cT K p).2, qlam p.1), td⟩
theorem mkr_of {K : Fg} {mg : Str → Option Value} {base : Heap} {tf : List He.Defn} {x : Str} {st : Stmt} {fd : FuncData} (F : Fun K x x st (He.fAd K (x, none)) fd) (hm : (x, none) ∈ tf) (ap : apartB tf K = true) (TB : ∀ p ∈ tf, LamX.TabB base mg (He.cT K p).1 (He.cT K p).2) : MkrF K mg base (Ts td tf K) fd (qlam x) := by
  refine ⟨_, _, code_of F, TB _ hm, List.mem_map.mpr ⟨_, hm, rfl⟩, fun p hp e => ?_⟩
  obtain ⟨p', hp', rfl⟩ := List.mem_map.mp hp
  have q := List.all_eq_true.mp (List.all_eq_true.mp ap _ hp') _ hm
  rw [decide_eq_true_eq] at q
  rw [q e]
theorem tabs_of {K : Fg} {tf : List He.Defn} {H : Hp} (h : ∀ p ∈ tf.map (He.cT K), H p.2 = some (.tbl #[])) : LamX.Tabs (Ts td tf K) H := fun p hp => by
  obtain ⟨p', hp', rfl⟩ := List.mem_map.mp hp
  exact LamX.TabS.nil (h _ (List.mem_map.mpr ⟨p', hp', rfl⟩))
section
variable {K : Fg} {T : Tb} {c : Gh} {W : WX} {σ : St} {ρ : MSt} {G G1 : Wd} {H : Hp} {Q : VK}
theorem pO.le {o : Out S} (l : Le G G1) (h : pO K T c W σ G Q o) : pO K T c W σ G1 Q o := by
  cases o with
  | ok a ρ' => exact fun b G' H' l' => h b G' H' (l.trans l')
  | exn e ρ' => exact fun cls dx G' H' l' => h cls dx G' H' (l.trans l')
  | stuck => exact h
theorem pO_bind {α β : Type} {rel : Wd → β → α → Prop} {R : β → Hp → Prop} {f : MM α} {g : α → MM S} (j : J K T c G H σ ρ) (p : pO K T c W σ G Q (MM.bind f g ρ))
    (k : ∀ a b ρ1 G1 H1, Le G G1 → J K T c G1 H1 σ ρ1 → rel G1 b a → pO K T c W σ G1 Q (g a ρ1) → R b H1) : mX K T c W rel f σ H R := by
  refine ⟨G, ρ, j, ?_⟩
  unfold MM.bind at p
  cases e : f ρ with
  | ok a ρ1 =>
    rw [e] at p
    exact fun b G1 H1 l j1 r => k a b ρ1 G1 H1 l j1 r (pO.le l p)
  | exn x ρ1 =>
    rw [e] at p
    exact p
  | stuck =>
    rw [e] at p
    exact p
/-- a new list, owned -/
theorem pO.new {xs : List V} {ds : List D} {q : Addr} (p : pO K T c W σ G Q (.ok (.ol ds) ρ)) (j : J K T c G H σ ρ) (hq : H q = none) (r : DqAll K G xs ds) : Q (.ref q) (upd H q (.lst xs)) :=
  p q G _ (Le.refl G) (j.aside hq) rfl ⟨q, xs, rfl, j.fresh hq, upd_same, r⟩ (j.H0none hq) ⟨j.notOwn hq, j.freshM hq⟩
end
section
variable {X : Cx} {T : Tb} {c : Gh} {W : WX} {a b e : Expr} {f f1 f2 : MM D} {pos p : Pos}
def mkOL (xs : List D) : Res S := if small xs.length = true then .ok (.ol xs) else .stuck
theorem mo_lst {es : List Expr} {g : MM (List D)} (h : PA X es (mA X.K T c W g)) : PE X (.List es pos) (mO X.K T c W (MM.bind g fun xs => lift (mkOL xs))) := by
  refine pe_mono (pe_lst h) fun σ H Q ⟨G, ρ, j, p⟩ => ?_
  refine pO_bind j p fun x v ρ1 G1 H1 l1 j1 r1 p1 => ?_
  unfold mkOL at p1
  split at p1
  · rename_i hs
    exact ⟨by rw [r1.length]; exact of_decide_eq_true hs, fun q hq => pO.new p1 j1 hq r1⟩
  · exact p1.elim
end
end Mi
set_option Elab.async false
set_option linter.all false
set_option maxRecDepth 100000
set_option maxHeartbeats 4000000
namespace Mi
open PySem L2
def cntP (p : List Str × Nat) (a : Str) : List Str × Nat := (p.1 ++ [a], if a ∈ p.1 then p.2 else p.2 + 1)
/-- how many unlike ones -/
def cntU (l : List Str) : Nat := (l.foldl cntP ([], 0)).2
theorem cntU_fst : ∀ (l : List Str) (p : List Str × Nat), (l.foldl cntP p).1 = p.1 ++ l
  | [], p => by simp
  | a :: l, p => by rw [List.foldl_cons, cntU_fst l]; simp [cntP]
theorem cntU_snoc (l : List Str) (a : Str) : cntU (l ++ [a]) = if a ∈ l then cntU l else cntU l + 1 := by
  unfold cntU
  rw [List.foldl_append, List.foldl_cons, List.foldl_nil]
  show (if a ∈ (l.foldl cntP ([], 0)).1 then _ else _) = _
  rw [cntU_fst l ([], 0), List.nil_append]
theorem cntU_le (n : Nat) : ∀ l : List Str, l.length = n → cntU l ≤ n := by
  induction n with
  | zero => intro l h; rw [List.length_eq_zero_iff.mp h]; exact Nat.le_refl _
  | succ n ih =>
    intro l h
    have e : l = l.dropLast ++ [l.getLast (by intro z; rw [z] at h; cases h)] := (List.dropLast_concat_getLast _).symm
    have hl : l.dropLast.length = n := by simp [h]
    rw [e, cntU_snoc]
    have := ih l.dropLast hl
    split <;> omega
section
variable {prog : Program} {w : World} {A : Around} {R : Result → Shared → Prop} {I : Addr} {fp wr : List Addr} {G : Array GenState → Array GenState → Prop} {n : Nat} {P : Nat → Value → Prop} {St : Nat → Shared → Prop}
theorem set_texts (W : WalksS prog w A.in1 I fp wr G n P St) (T : Addr) (hT : T ∉ fp) (xs : List Str) (hz : xs.length = n) (hb : n + 1 < scanBound) (hv : ∀ i v, P i v → ∃ u t, xs[i]? = some u ∧ v = .str u t) :
    ∀ (m i : Nat) (s : Shared), n - i = m → i ≤ n → St i s → s.heap.SetOf (PySem.strKind prog w) T (fun z => decide (z ∈ xs.take i)) (cntU (xs.take i)) →
      (∀ s', Moved (T :: wr) G s s' → s'.heap.SetOf (PySem.strKind prog w) T (fun z => decide (z ∈ xs)) (cntU xs) → R (.ok (.ret .none)) s') →
      codeAny (model prog w) A (.builtin "set.update.loop" ⟨[.ref T, .ref I], []⟩) R s := by
  have nT : T ∉ wr := fun z => hT (W.sub _ z)
  have up : ∀ b ∈ wr, b ∈ T :: wr := fun _ z => List.mem_cons_of_mem _ z
  intro m
  induction m with
  | zero =>
    intro i s e1 e2 st R0 fin
    obtain rfl : i = n := by omega
    refine codeAny_builtin PyProof.Rows.F.entry_set_update_loop ?_
    rw [Around.under_plainId (PyProof.Rows.F.plain_set_update_loop) _]
    show wpAny _ (A.in1) (pyNext (.ref I) >>= _) _ _ s
    refine wpAny_bind (W.done s _ _ st fun s1 mv => ?_)
    show wpAny _ (A.in1) (ret Value.none) _ _ s1
    refine wpAny_pure (fin s1 (mv.mono up) ?_)
    rw [← hz, List.take_length] at R0
    obtain ⟨o, es, ep, tb, ho, more⟩ := R0
    exact ⟨o, es, ep, tb, mv.heap T _ nT ho, more⟩
  | succ m ih =>
    intro i s e1 e2 st R0 fin
    have lt : i < n := by omega
    refine codeAny_builtin PyProof.Rows.F.entry_set_update_loop ?_
    rw [Around.under_plainId (PyProof.Rows.F.plain_set_update_loop) _]
    show wpAny _ (A.in1) (pyNext (.ref I) >>= _) _ _ s
    refine wpAny_bind (W.item i s _ _ lt st fun v s1 hp st1 mv => ?_)
    obtain ⟨u, t, hu, rfl⟩ := hv i v hp
    have R1 : s1.heap.SetOf (PySem.strKind prog w) T (fun z => decide (z ∈ xs.take i)) (cntU (xs.take i)) := by
      obtain ⟨o, es, ep, tb, ho, more⟩ := R0
      exact ⟨o, es, ep, tb, mv.heap T _ nT ho, more⟩
    show wpAny _ (A.in1) (holding [Value.str u t] (setAdd T (.str u t)) >>= _) _ _ s1
    refine wpAny_bind (wpAny_holding ?_)
    unfold setAdd
    refine wpAny_holding (wpAny_bind ((PySem.strKind prog w).pyHash (k := u) (strKind_is _ _ _ _) ?_))
    have le := cntU_le i (xs.take i) (by rw [List.length_take]; omega)
    refine wpAny_setAddHashed_of (knd := PySem.strKind prog w) (s := { s1 with toks := s1.toks + 1 }) (strKind_is _ _ _ _) rfl R1 (by omega) fun h2 sb R2 => ?_
    have et : xs.take (i + 1) = xs.take i ++ [u] := by rw [List.take_succ, hu]; rfl
    have R3 : h2.SetOf (PySem.strKind prog w) T (fun z => decide (z ∈ xs.take (i + 1))) (cntU (xs.take (i + 1))) := by
      refine PyProof.Rows.SetOf_congr R2 (fun z => ?_) ?_
      · rw [et]
        by_cases e : z = u
        · simp [e]
        · simp [e]
      · rw [et, cntU_snoc]
        by_cases e : u ∈ xs.take i
        · simp [e]
        · simp [e]
    refine wpAny_pure ⟨plainId_quiet (PyProof.Rows.F.plain_set_update_loop) _, ih (i + 1) _ (by omega) lt (W.frame _ s1 _ _ st1 (Nat.le_succ _) fun b mb o eb => ?_) R3 fun s2 mv2 R4 => ?_⟩
    · rw [sb.2 b (fun y : b = T => hT (by rw [← y]; exact mb))]; exact eb
    · refine fin s2 (Moved.trans W.gtrans ((mv.mono up).then_heap (Nat.le_succ _) fun b o nb eb => ?_) mv2) R4
      rw [sb.2 b (fun y : b = T => nb (by rw [y]; exact List.mem_cons_self))]; exact eb
end
abbrev newSet (led : Bool) : Obj := { cls := .type "set", dict := none, data := .set #[] 0 (.fresh 0 0 led) }
section
variable {prog : Program} {w : World} {A : Around} {E : Value → Shared → Prop} {s : Shared}
set_option maxHeartbeats 3200000 in
theorem call_set_texts {l : Addr} {its : Array Value} {xs : List Str} {Q : Value → Shared → Prop} (hh : A.handled = none) (hl : s.heap.IsList l its) (hi : PyProof.Rows.StrsAre its.toList xs) (hb : xs.length + 1 < scanBound)
    (k : ∀ (h2 : Heap) (tk : Nat), h2.SetOf (PySem.strKind prog w) s.heap.objs.size (fun z => decide (z ∈ xs)) (cntU xs) → (∀ b o, b < s.heap.objs.size → s.heap.get? b = some o → h2.get? b = some o) → Q (.ref s.heap.objs.size) { s with heap := h2, toks := tk }) :
    wpAny (model prog w) A (call (.type "set") [.ref l]) Q E s := by
  obtain ⟨cM, tM, mM⟩ := PySem.F.called_set.mro
  have mk1 := PySem.F.called_set.made
  have mk2 := PySem.F.called_set.sub
  refine wpAny_call (codeAny_of_tree ?_)
  show wpAny _ _ (callAny (Value.type "set") _) _ _ _
  refine wpAny_pure ⟨Code.quiet_builtin _ (by decide +kernel), codeAny_builtin (PySem.F.entry_type_call) ?_⟩
  rw [Around.under_plain (weight_type_call_type "set" [Value.ref l] []) rfl]
  have nt := PySem.F.called_set.notType
  have cc := PySem.F.called_set.canCreate
  have tc := PySem.F.typeCall_set_1 (Value.ref l)
  repeat any_goals first | assumption | wp_step
  refine codeAny_mono (code_set_new_1 (Value.ref l) (E := E) (Q₁ := fun ob s1 => ∃ led : Bool, ob = .ref s.heap.objs.size ∧ s1 = { s with heap := s.heap.push (newSet led) }) fun led => ⟨led, rfl, rfl⟩) fun r s1 hr => ?_
  cases r with
  | error e => exact hr
  | ok fl =>
    cases fl with
    | ret ob =>
      obtain ⟨led, rfl, rfl⟩ := hr
      have g1 : (s.heap.push (newSet led)).get? s.heap.objs.size = some (newSet led) := Heap.get?_push_size _ rfl
      have ty : Shared.TypeIs { s with heap := s.heap.push (newSet led) } (.ref s.heap.objs.size) "set" := ⟨_, g1, rfl⟩
      have li := PySem.F.called_set.init.lookup
      have bi := PySem.F.called_set.init.bind (Value.ref s.heap.objs.size)
      repeat any_goals first | assumption | wp_step
      refine codeAny_mono (codeAny_call_builtin (R := wants (fun r s2 => r = .none ∧ ∃ h2 tk, s2 = { s with heap := h2, toks := tk } ∧ h2.SetOf (PySem.strKind prog w) s.heap.objs.size (fun z => decide (z ∈ xs)) (cntU xs) ∧ (∀ b o, b < s.heap.objs.size → s.heap.get? b = some o → h2.get? b = some o)) E) PySem.F.called_set.init.plain PySem.F.entry_set_init (check_set_init_1 ty ?_)) fun r2 s2 hr2 => ?_
      · obtain ⟨ob, hob, hc1, nl, hd1⟩ := hl
        obtain ⟨oc, od, oda, osl⟩ := ob
        simp only at hc1 hd1
        subst hc1 hd1
        have g2 : (s.heap.push (newSet led)).get? l = some { cls := .type "list", dict := od, data := .seq its nl, slots := osl } := Heap.get?_push_of_some _ hob
        have q1 := PySem.F.sub_list_set
        have q2 := PySem.F.sub_list_frozenset
        have q3 : (Value.type "list" == Value.type "dict") = false := by decide
        have l1 : (s.heap.push (newSet led)).IsList l its := ⟨_, g2, rfl, nl, rfl⟩
        unfold Builtin.«set.__init__» noKeywords Builtin.Frozenset.updateFrom
        generalize hPI : pyIter = PI
        wp_walk
        subst hPI
        refine wpAny_pyIter_list l1 (wpAny_bind (wpAny_runValue ?_))
        have lS : l < s.heap.objs.size := Heap.lt_size hob
        have h3 : A.in1.in1.in1.handled = none := by simp [hh]
        have nI : l ≠ (s.heap.push (newSet led)).objs.size := by
          rw [Heap.size_push]; exact Nat.ne_of_lt (Nat.lt_succ_of_lt lS)
        have nS : s.heap.objs.size ∉ [(s.heap.push (newSet led)).objs.size, l] := by
          rw [Heap.size_push]
          simp only [List.mem_cons, List.not_mem_nil, or_false, not_or]
          exact ⟨Nat.ne_of_lt (Nat.lt_succ_self _), Nat.ne_of_gt lS⟩
        have sz : xs.length = its.size := by rw [← PyProof.Rows.StrsAre.len_eq hi, Array.length_toList]
        have vl : ∀ (i : Nat) (v : Value), its[i]? = some v → ∃ u t, xs[i]? = some u ∧ v = .str u t := fun i v e => by
          obtain ⟨t, e2⟩ := SS.strs_at hi i v (by rw [Array.getElem?_toList]; exact e)
          have lt : i < xs.length := by rw [sz]; exact (Array.getElem?_eq_some_iff.mp e).1
          exact ⟨xs[i], t, List.getElem?_eq_getElem lt, by rw [e2, List.getD_eq_getElem?_getD, List.getElem?_eq_getElem lt]; rfl⟩
        refine set_texts ((Walks.list h3 _ l nI its).toS) s.heap.objs.size nS xs sz (by rw [← sz]; exact hb) vl (its.size - 0) 0 _ (by omega) (Nat.zero_le _) ⟨⟨_, Heap.get?_push_size _ rfl, rfl, rfl⟩, (l1.push _)⟩ ?hzero ?hend
        case hzero =>
          have g3 : ((s.heap.push (newSet led)).push { cls := .type "list_iterator", data := .fields #[.ref l, .int 0 0] }).get? s.heap.objs.size = some (newSet led) := Heap.get?_push_of_some _ g1
          exact PyProof.Rows.SetOf_congr ((PyProof.Rows.setObjOf_fresh (knd := PySem.strKind prog w) led).setOf g3 (by unfold scanBound; omega)) (fun _ => by simp) rfl
        case hend =>
          intro s3 mv R3
          obtain ⟨hp, gn, dr, tk, os⟩ := s3
          obtain rfl : gn = s.gens := mv.gens
          obtain rfl : dr = s.drawn := mv.drawn
          obtain rfl : os = s.os := mv.os
          show wpAny _ _ _ _ _ _
          refine wpAny_pure ?_
          show wpAny _ _ (ret Value.none) _ _ _
          refine wpAny_pure ⟨rfl, hp, tk, rfl, R3, fun b o lb e => ?_⟩
          have n1 : b ≠ s.heap.objs.size := Nat.ne_of_lt lb
          have n2 : b ≠ (s.heap.push (newSet led)).objs.size := by
            rw [Heap.size_push]; exact Nat.ne_of_lt (Nat.lt_succ_of_lt lb)
          exact mv.heap b o (by simp only [List.mem_cons, List.not_mem_nil, or_false, not_or]; exact ⟨n1, n2⟩) (Heap.get?_push_of_some _ (Heap.get?_push_of_some _ e))
      · cases r2 with
        | error e => exact hr2
        | ok f2 =>
          cases f2 with
          | ret r =>
            obtain ⟨rfl, h2, tk, rfl, R2, k2⟩ := hr2
            repeat any_goals first | assumption | wp_step
            exact k _ _ R2 k2
          | _ => exact hr2.elim
    | _ => exact hr.elim
end
section
variable {X : Cx} {T : Tb} {c : Gh} {W : WX} {a e : Expr} {f : MM D}
def toStrs : List D → Option (List Str)
  | [] => some []
  | .str u :: ds => (toStrs ds).map (u :: ·)
  | _ => none
theorem vs_strs {K : Fg} {G : Wd} : ∀ {vs : List V} {ds : List D} {us : List Str}, DqAll K G vs ds → toStrs ds = some us → vs = us.map V.str
  | _, _, _, .nil, h => by cases h; rfl
  | _, _, us, .cons (d := d) q t, h => by
    cases d with
    | str u =>
      cases q
      unfold toStrs at h
      cases h2 : toStrs _ with
      | none => rw [h2] at h; cases h
      | some zs =>
        rw [h2] at h
        cases h
        rw [vs_strs t h2]
        rfl
    | _ => cases h
/-- len(set(xs)), xs a list of texts -/
def lenSet : D → Res D
  | .list xs => match toStrs xs with
    | some us => if us.length < 1000 then .ok (.int (cntU us)) else .stuck
    | none => .stuck
  | _ => .stuck
def lenSetE (f : MM D) : MM D := MM.bind f fun x => lift (lenSet x)
def tLenU (K : Fg) (ta : TE) : TE := fun σ H Q => ta σ H fun x H1 => ∃ l us, x = .ref l ∧ SqL K H1 l (us.map V.str) ∧ us.length < 1000 ∧ Q (.int (cntU us)) H1
theorem pe_lenU {ta : TE} {p p2 q pos : Pos} (hc : X.calm = true) (hg : Gl X "len") (hm : X.mg "len" = none) (hg2 : Gl X "set") (hm2 : X.mg "set" = none) (ha : PE X a ta) (na : starEach [a] X.env = (false, eval a X.env) :: starEach [] X.env := by rfl) :
    PE X (.Call (.Name "len" p) [.Call (.Name "set" p2) [a] [] q] [] pos) (tLenU X.K ta) := by
  refine ⟨fun pins s σ H Q I h => ?_⟩
  refine PyProof.Rows.Call_ (ld_blt I hg hm boot_len (PyProof.Rows.callWith_builtin1 (PyProof.Rows.args_cons (PyProof.Rows.Call_ (ld_blt (u := .type "set") I hg2 hm2 (by decide +kernel) ?_)) rfl) rfl rfl))
  refine PyProof.Rows.callWith_type1 (PyProof.Rows.args_cons (thn (ha.run pins s σ H _ I h) fun v s1 ⟨x, H1, I1, r1, q1⟩ => PyProof.Rows.args_nil ?_) na) na rfl
  obtain ⟨l, us, rfl, hq, h1, q1⟩ := q1
  cases r1
  obtain ⟨its, r, pl, hz⟩ := I1.list hq
  refine call_set_texts (I1.ok.hd hc) pl.isList (by simpa using strsAre_of r) (by unfold scanBound; omega) fun h2 tk R k => ?_
  refine PyProof.Rows.args_nil ?_
  obtain ⟨o, es, ep, t, ho, hex, hd, _, _, _, hf, hn⟩ := R
  have I2 : Inv X pins σ H1 { s1 with heap := h2, toks := tk } := I1.kept fun b o e => k b o (Heap.lt_size e) e
  have le := cntU_le us.length us rfl
  refine call_len_set ho hex hd hf (by rw [hn]; omega) ⟨.int (cntU us), H1, I2.tok _, ⟨_, by rw [hn]⟩, q1⟩
theorem me_lenset {p p2 q pos : Pos} (hc : X.calm = true) (hg : Gl X "len") (hm : X.mg "len" = none) (hg2 : Gl X "set") (hm2 : X.mg "set" = none) (ha : PE X a (mE X.K T c W f)) (na : starEach [a] X.env = (false, eval a X.env) :: starEach [] X.env := by rfl) :
    PE X (.Call (.Name "len" p) [.Call (.Name "set" p2) [a] [] q] [] pos) (mE X.K T c W (lenSetE f)) := by
  refine pe_mono (pe_lenU hc hg hm hg2 hm2 ha na) fun σ H Q ⟨G, ρ, j, p⟩ => ?_
  refine pX_bind j p fun x v ρ1 G1 H1 l1 j1 r1 p1 => ?_
  cases x with
  | list xs =>
    unfold lenSet at p1
    dsimp only at p1
    cases h : toStrs xs with
    | none => rw [h] at p1; exact p1.elim
    | some us =>
      rw [h] at p1
      by_cases hl : us.length < 1000
      · simp only [hl, if_true] at p1
        cases r1 with
        | lst hr hd =>
          have ev := vs_strs hd h
          subst ev
          exact ⟨_, us, rfl, .inl (j1.subH.rd _ _ (fun _ _ z => by cases z) hr), hl, p1.here j1 (.int _)⟩
      · simp only [hl, if_false] at p1
        exact p1.elim
  | _ => exact p1.elim
end
end Mi
namespace Mi
open PySem L2
section
variable {X : Cx} {T : Tb} {c : Gh} {W : WX}
theorem mss_never {sts : List Stmt} : PSs X sts (mS X.K T c W stuck) := ⟨fun _ _ _ _ _ _ ⟨_, _, _, p⟩ => p.elim⟩
end
end Mi
set_option Elab.async false
set_option linter.all false
set_option maxRecDepth 100000
set_option maxHeartbeats 4000000
set_option Elab.async false
set_option linter.all false
set_option maxRecDepth 100000
set_option maxHeartbeats 4000000
set_option Elab.async false
set_option linter.all false
set_option maxRecDepth 100000
set_option maxHeartbeats 4000000
namespace Mi
open PySem L2
section
variable {ρ : MSt} {f f1 f2 f3 : MM D} {g g' : D → D → Res D} {t t1 t2 : MM Bool} {s s1 s2 : MM Fl} {i : Nat} {x y z d : D} {b b' : Bool} {p : Prop} [Decidable p] {e : Exn} {ga : MM (List D)} {fm : List D → Res D}
@[simp] theorem op2K_exn : op2K g f2 (.exn e ρ) = .exn e ρ := rfl
@[simp] theorem op2L_exn : op2L g x (.exn e ρ) = .exn e ρ := rfl
@[simp] theorem tstK_exn : tstK (.exn e ρ) = .exn e ρ := rfl
@[simp] theorem andTK_exn : andTK t2 (.exn e ρ) = .exn e ρ := rfl
@[simp] theorem orTK_exn : orTK t2 (.exn e ρ) = .exn e ρ := rfl
@[simp] theorem notTK_exn : notTK (.exn e ρ) = .exn e ρ := rfl
@[simp] theorem andK_exn : andK f2 (.exn e ρ) = .exn e ρ := rfl
@[simp] theorem orK_exn : orK f2 (.exn e ρ) = .exn e ρ := rfl
@[simp] theorem notK_exn : notK (.exn e ρ) = .exn e ρ := rfl
@[simp] theorem chainA_exn : chainA g g' f2 f3 (.exn e ρ) = .exn e ρ := rfl
@[simp] theorem chainB_exn : chainB g g' f3 x (.exn e ρ) = .exn e ρ := rfl
@[simp] theorem ifEK_exn : ifEK f1 f2 (.exn e ρ) = .exn e ρ := rfl
@[simp] theorem consK_exn : consK ga (.exn e ρ) = .exn e ρ := rfl
@[simp] theorem consJ_exn : consJ x (.exn e ρ) = .exn e ρ := rfl
@[simp] theorem callK_exn : callK fm (.exn e ρ) = .exn e ρ := rfl
@[simp] theorem ifSK_exn : ifSK s1 s2 (.exn e ρ) = .exn e ρ := rfl
@[simp] theorem iterK_exn : iterK (.exn e ρ) = .exn e ρ := rfl
@[simp] theorem raiseS_ap {c : Str} : raiseS c ρ = .exn ⟨c, none⟩ ρ := rfl
variable {ns : List Str}
@[simp] theorem toldE_ap : toldE ns f ρ = toldK ns (f ρ) := rfl
@[simp] theorem toldK_ok : toldK ns (.ok x ρ) = .ok x ρ := rfl
@[simp] theorem toldK_ite {o o' : Out D} : toldK ns (if p then o else o') = if p then toldK ns o else toldK ns o' := by split <;> rfl
@[simp] theorem mkOL_ap {xs : List D} : mkOL xs = if small xs.length = true then .ok (.ol xs) else .stuck := rfl
end
def negK (o : Out D) : Out D := Out.bind o fun x => match x with
  | .int i => MM.pure (.int (-i))
  | _ => stuck
@[simp] theorem negE_ap {f : MM D} {ρ : MSt} : negE f ρ = negK (f ρ) := rfl
@[simp] theorem negK_int {i : Int} {ρ : MSt} : negK (.ok (.int i) ρ) = .ok (.int (-i)) ρ := rfl
def get1K (f2 : MM D) (o : Out D) : Out D := Out.bind o fun x => match x with
  | .dict kvs => MM.bind f2 fun k => match keyOf k with
    | some _ => MM.pure ((valAt kvs k).getD .none)
    | none => stuck
  | _ => stuck
@[simp] theorem get1E_ap {f1 f2 : MM D} {ρ : MSt} : get1E f1 f2 ρ = get1K f2 (f1 ρ) := rfl
@[simp] theorem get1K_ok {f2 : MM D} {ρ : MSt} {kvs : List (D × D)} : get1K f2 (.ok (.dict kvs) ρ) = Out.bind (f2 ρ) fun k => match keyOf k with | some _ => MM.pure ((valAt kvs k).getD .none) | none => stuck := rfl
@[simp] theorem dMul_list {xs : List D} {k : Int} : dMul (.list xs) (.int k) = if -(2 ^ 63) ≤ k ∧ k < 2 ^ 63 ∧ xs.length * k.toNat ≤ sizeLine then .ok (.list (List.replicate k.toNat xs).flatten) else .stuck := rfl
theorem wp_seq {s1 s2 : MM Fl} {ρ : MSt} {P : Fl → MSt → Prop} (h : Wp (s1 ρ) fun fl ρ' => fl = .nx ∧ Wp (s2 ρ') P) : Wp (seqS s1 s2 ρ) P := by
  obtain ⟨fl, ρ', e, rfl, h⟩ := h
  show Wp (seqK s2 (s1 ρ)) P
  rw [e]
  exact h
@[simp] theorem wp_ok {α : Type} {a : α} {ρ : MSt} {P : α → MSt → Prop} : Wp (.ok a ρ) P ↔ P a ρ := by
  constructor
  · rintro ⟨_, _, e, p⟩
    cases e
    exact p
  · exact fun p => ⟨a, ρ, rfl, p⟩
/-- a step whose end is told by an equation -/
theorem wp_step {s1 s2 : MM Fl} {ρ ρ' : MSt} {P : Fl → MSt → Prop} (h : s1 ρ = .ok .nx ρ') (k : Wp (s2 ρ') P) : Wp (seqS s1 s2 ρ) P := wp_seq ⟨.nx, ρ', h, rfl, k⟩
end Mi
set_option Elab.async false
set_option linter.all false
set_option maxRecDepth 100000
set_option maxHeartbeats 4000000
namespace Mi
open PySem L2
structure Flt (n : Nat) (d : D) : Prop where
  nd : noDict d = true
  ly : d.canLay0 = true
  dp : d.depth ≤ n
theorem Flt.ok {n : Nat} {d : D} (h : Flt n d) (hn : n ≤ 64 := by decide) : eqOk d = true := by
  rw [eqOk_eq, h.nd, h.ly, decide_eq_true (Nat.le_trans h.dp hn)]
  rfl
theorem Flt.up {n m : Nat} {d : D} (h : Flt n d) (hn : n ≤ m := by decide) : Flt m d := ⟨h.nd, h.ly, Nat.le_trans h.dp hn⟩
end Mi
set_option Elab.async false
set_option linter.all false
set_option maxRecDepth 100000
set_option maxHeartbeats 4000000
namespace Mi
open PySem L2
inductive F2 {α β : Type} (R : α → β → Prop) : List α → List β → Prop
  | nil : F2 R [] []
  | cons {a : α} {b : β} {as : List α} {bs : List β} : R a b → F2 R as bs → F2 R (a :: as) (b :: bs)
theorem F2.length {α β : Type} {R : α → β → Prop} : ∀ {as : List α} {bs : List β}, F2 R as bs → as.length = bs.length
  | _, _, .nil => rfl
  | _, _, .cons _ t => by simp [F2.length t]
end Mi
set_option Elab.async false
set_option linter.all false
set_option maxRecDepth 100000
set_option maxHeartbeats 4000000
namespace Mi
open PySem L2
def stoOf (ρ : MSt) : Option (Bool × Sto) := match ρ[ρ.length - 1]? with
  | some (some (.sto b μ)) => some (b, μ)
  | _ => none
def setSto (ρ : MSt) (μ : Sto) : MSt := ρ.set (ρ.length - 1) (some (.sto true μ))
section
variable {K : Fg} {T : Tb} {c : Gh} {G G' : Wd} {H H' : Hp} {σ : St} {ρ : MSt} {μ μ' : Sto} {b : Bool}
theorem J.sto (j : J K T c G H σ ρ) (h : stoOf ρ = some (b, μ)) : ρ[σ.length]? = some (some (.sto b μ)) := by
  unfold stoOf at h
  have e : ρ.length - 1 = σ.length := by have := j.len; omega
  rw [e] at h
  split at h
  · rename_i b' μ' hq; cases h; exact hq
  · cases h
theorem J.stoOk (j : J K T c G H σ ρ) (h : stoOf ρ = some (b, μ)) : StoOk K T G H μ := (j.st b μ (j.sto h)).1
/-- what a step over the store leaves of the heap -/
structure KeptS (T : Tb) (x : List Addr) (G : Wd) (H : Hp) (μ : Sto) (G' : Wd) (H' : Hp) (μ' : Sto) : Prop where
  g : Le G G'
  s : Lh G' H'
  n : ∀ a, G a = none → H a ≠ none → a ∉ G.m → a ∉ x → G' a = none
  k : ∀ a o, H a = some o → a ∉ G.m → a ∉ x → (∀ ps, o ≠ .tbl ps) → H' a = some o
  t : ∀ a ps, H a = some (.tbl ps) → ∃ ps', H' a = some (.tbl ps')
  tb : LamX.Tabs T H'
  nt : ∀ a ps, G' a ≠ some (.tbl ps)
  mg : ∀ a ∈ G'.m, a ∈ G.m ∨ H a = none
  lk : ∀ (n : Nat) a u, G.m[n]? = some a → μ[n]? = some u → u.isLk = true → H' a = H a
  lk2 : ∀ (n : Nat) u, μ[n]? = some u → ∃ u', μ'[n]? = some u' ∧ u'.isLk = u.isLk
  lk3 : ∀ (n : Nat) u, μ'[n]? = some u → u.isLk = true → n < μ.length
theorem J.afterX {x : List Addr} (j : J K T c G H σ ρ) (h : stoOf ρ = some (true, μ)) (q : KeptS T x G H μ G' H' μ') (so : StoOk K T G' H' μ') (hx : ∀ a ∈ x, (c.H0 a = none ∨ a ∈ c.M) ∧ a ∉ owns σ ρ ∧ G' a = none) : J K T c G' H' σ (setSto ρ μ') := by
  have hs := j.sto h
  obtain ⟨so0, pm0⟩ := j.st true μ hs
  have al := pm0.al rfl
  have pm := pm0.fr rfl
  -- a cell of before: changeable or locked
  have oldc : ∀ a, a ∈ G.m → (c.H0 a = none ∨ a ∈ c.M) ∨ H' a = H a := fun a m => by
    obtain ⟨n, u, e1, e2⟩ := so0.one m
    cases z : u.isLk with
    | false => exact .inl (pm n a u e1 e2 z)
    | true => exact .inr (q.lk n a u e1 e2 z)
  have in' : ∀ a, a ∈ G.m → G' a = none := fun a m => by
    obtain ⟨t, e⟩ := q.g.m
    exact (so.there (show a ∈ G'.m by rw [← e]; exact List.mem_append_left _ m)).1
  have el : ρ.length - 1 = σ.length := by have := j.len; omega
  have at_ : ∀ {k : Nat} {s : S}, (setSto ρ μ')[k]? = some (some s) → (k = σ.length ∧ s = .sto true μ') ∨ (k ≠ σ.length ∧ ρ[k]? = some (some s)) := fun {k s} e => by
    unfold setSto at e
    rw [el] at e
    by_cases z : k = σ.length
    · subst z
      rw [List.getElem?_set_self (by have := j.len; omega)] at e
      cases e; exact .inl ⟨rfl, rfl⟩
    · rw [List.getElem?_set_ne (Ne.symm z)] at e; exact .inr ⟨z, e⟩
  have old : ∀ {k : Nat} {s : S}, (setSto ρ μ')[k]? = some (some s) → s.isSto = false → ρ[k]? = some (some s) := fun {k s} e ns => by
    rcases at_ e with ⟨_, rfl⟩ | ⟨_, e⟩
    · cases ns
    · exact e
  refine ⟨q.s, j.g0.trans q.g, fun a g0 h0 m => ?_, fun a o e m t => ?_, fun a ps e => ?_, ?_, fun i s e ns => ?_, fun i s a e o e2 => j.ow i s a (old e (S.own_sto o)) o e2, fun i k s t a b e1 e2 o1 o2 f1 f2 n => j.ap i k s t a b (old e1 (S.own_sto o1)) (old e2 (S.own_sto o2)) o1 o2 f1 f2 n, q.tb, q.nt, fun b ν e => ?_, ?_⟩
  · by_cases z : a ∈ G.m
    · exact in' a z
    · by_cases zx : a ∈ x
      · exact (hx a zx).2.2
      · exact q.n a (j.gn a g0 h0 m) (fun z => (j.H0none z).elim h0 m) z zx
  · by_cases z : a ∈ G.m
    · rcases oldc a z with y | y
      · rcases y with y | y
        · rw [e] at y; cases y
        · exact absurd y m
      · rw [y]; exact j.fr a o e m t
    · refine q.k a o (j.fr a o e m t) z (fun zx => ?_) t
      rcases (hx a zx).1 with y | y
      · rw [e] at y; cases y
      · exact m y
  · obtain ⟨ps', z⟩ := j.ft a ps e
    exact q.t a ps' z
  · unfold setSto; rw [List.length_set]; exact j.len
  · have e := old e ns
    obtain ⟨v, e1, r⟩ := j.sl i s e ns
    refine ⟨v, e1, ?_⟩
    have keep : ∀ {a : Addr} {o : HO}, s.own = true → v = .ref a → G a = none → H a = some o → (∀ ps, o ≠ .tbl ps) → G' a = none ∧ H' a = some o := fun {a o} ow ev g hh t => by
      subst ev
      have nm : a ∉ G.m := fun m => j.mj.ow a m (mem_owns.mpr ⟨i, s, e, ow, e1⟩)
      have nx : a ∉ x := fun z => (hx a z).2.1 (mem_owns.mpr ⟨i, s, e, ow, e1⟩)
      exact ⟨q.n a g (by rw [hh]; exact fun z => by cases z) nm nx, q.k a o hh nm nx t⟩
    cases s with
    | d x => exact Dq.le r q.g
    | ol xs =>
      obtain ⟨a, vs, e2, g, hh, r⟩ := r
      obtain ⟨k1, k2⟩ := keep rfl e2 g hh (fun _ z => by cases z)
      exact ⟨a, vs, e2, k1, k2, r.le q.g⟩
    | od xs =>
      obtain ⟨a, vs, e2, g, hh, r⟩ := r
      obtain ⟨k1, k2⟩ := keep rfl e2 g hh (fun _ z => by cases z)
      exact ⟨a, vs, e2, k1, k2, r.le q.g⟩
    | dc xs =>
      obtain ⟨e0, a, vs, e2, g, hh, r⟩ := r
      obtain ⟨k1, k2⟩ := keep rfl e2 g hh (fun _ z => by cases z)
      exact ⟨e0, a, vs, e2, k1, k2, r.le q.g⟩
    | sto b μ => cases ns
  · rcases at_ e with ⟨_, z⟩ | ⟨z, _⟩
    · cases z
      have idx : ∀ {n : Nat} {a : Addr}, G'.m[n]? = some a → a ∈ G.m → G.m[n]? = some a := fun {n a} e m => by
        obtain ⟨k, e2⟩ := List.getElem?_of_mem m
        have e3 := q.g.loc e2
        have : n = k := (List.getElem?_inj (List.getElem?_eq_some_iff.mp e).1 so.nd).mp (e.trans e3.symm)
        rw [this]; exact e2
      refine ⟨so, fun _ => al, fun _ n a u e1 e2 e3 => ?_, fun n a u e1 e2 => ?_⟩
      · rcases q.mg a (List.mem_of_getElem? e1) with z | z
        · have e4 := idx e1 z
          have hn : n < μ.length := by rw [← so0.len]; exact (List.getElem?_eq_some_iff.mp e4).1
          obtain ⟨u', f1, f2⟩ := q.lk2 n _ (List.getElem?_eq_getElem hn)
          rw [e2] at f1; cases f1
          exact pm n a _ e4 (List.getElem?_eq_getElem hn) (f2 ▸ e3)
        · exact j.H0none z
      · by_cases hn : n < μ.length
        · have e4 : ∃ b, G.m[n]? = some b := ⟨_, List.getElem?_eq_getElem (by rw [so0.len]; exact hn)⟩
          obtain ⟨b, e4⟩ := e4
          have e5 := q.g.loc e4
          rw [e1] at e5; cases e5
          obtain ⟨u', f1, f2⟩ := q.lk2 n _ (List.getElem?_eq_getElem hn)
          rw [e2] at f1; cases f1
          rw [f2]
          exact pm0.lk n a _ e4 (List.getElem?_eq_getElem hn)
        · refine ⟨fun z => absurd (q.lk3 n u e2 z) hn, fun z => ?_⟩
          obtain ⟨nM, o, es, h0⟩ := j.mj.wf a z
          have hh := j.fr a _ h0 nM (fun _ z => by cases z)
          rcases q.mg a (List.mem_of_getElem? e1) with y | y
          · have := (List.getElem?_eq_some_iff.mp (idx e1 y)).1
            rw [so0.len] at this; exact absurd this hn
          · rw [hh] at y; cases y
    · exact absurd rfl z
  · refine ⟨fun a m => (so.there m).2.imp fun o z => z.1, fun a m n => ?_, fun a m => ?_, (fun z => by rw [al] at z; cases z), j.mj.wf⟩
    · have n' : a ∈ owns σ ρ := by
        obtain ⟨i, s, e1, e2, e3⟩ := mem_owns.mp n
        exact mem_owns.mpr ⟨i, s, old e1 (S.own_sto e2), e2, e3⟩
      rcases q.mg a m with z | z
      · exact j.mj.ow a z n'
      · exact j.notOwn z n'
    · rcases q.mg a m with z | z
      · exact j.mj.gr a z
      · exact .inr (j.H0none z)
theorem sto_set (so : StoOk K T G H μ) {n : Nat} {a : Addr} {u u' : Cell} {o' : HO} (hm : G.m[n]? = some a) (hu : μ[n]? = some u) (hc : CellAt K T G (upd H a o') a u') : StoOk K T G (upd H a o') (μ.set n u') := by
  have hn : n < μ.length := (List.getElem?_eq_some_iff.mp hu).1
  refine ⟨by rw [List.length_set]; exact so.len, so.nd, fun i b v e1 e2 => ?_⟩
  obtain ⟨ga, ca⟩ := so.at_ n a u hm hu
  by_cases z : i = n
  · subst z
    rw [List.getElem?_set_self hn] at e2
    cases e2
    rw [hm] at e1
    cases e1
    exact ⟨ga, hc⟩
  · rw [List.getElem?_set_ne (Ne.symm z)] at e2
    obtain ⟨gb, cb⟩ := so.at_ i b v e1 e2
    have nb : b ≠ a := fun y => by
      subst y
      exact z ((List.getElem?_inj (List.getElem?_eq_some_iff.mp e1).1 so.nd).mp (e1.trans hm.symm))
    obtain ⟨o, ho, _, _, ow⟩ := ca.here
    refine ⟨gb, cb.keep (Le.refl G) (fun _ _ g _ => g) fun d w e y => ?_⟩
    rcases y with y | ⟨x, y⟩
    · rw [y, upd_ne nb]; rw [y] at e; exact e
    · rw [upd_ne (fun y2 => ?_)]
      · exact e
      · rw [y2, ho, y] at e; cases e; exact ow x rfl
def wgrow (G : Wd) (a : Addr) : Wd := ⟨G.hp, G.m ++ [a]⟩
theorem Le.wgrow (G : Wd) (a : Addr) : Le G (wgrow G a) := ⟨fun _ _ h => h, List.prefix_append _ _⟩
theorem wgrow_at {a : Addr} : (wgrow G a).m[G.m.length]? = some a := by unfold wgrow; simp
theorem sto_push (so : StoOk K T G H μ) {a : Addr} {u : Cell} (ha : H a = none) (ga : G a = none) (up : ∀ b o, H b = some o → H' b = some o) (hc : CellAt K T (wgrow G a) H' a u) : StoOk K T (wgrow G a) H' (μ ++ [u]) := by
  have na : a ∉ G.m := fun m => by
    obtain ⟨_, o, q, _⟩ := so.there m
    rw [ha] at q; cases q
  refine ⟨by unfold wgrow; simp [so.len], ?_, fun i b v e1 e2 => ?_⟩
  · unfold wgrow
    rw [List.nodup_append]
    exact ⟨so.nd, by simp, fun x hx y hy => by simp at hy; subst hy; exact fun z => na (z ▸ hx)⟩
  · unfold wgrow at e1
    by_cases z : i < G.m.length
    · rw [List.getElem?_append_left z] at e1
      rw [List.getElem?_append_left (by rw [← so.len]; exact z)] at e2
      obtain ⟨gb, cb⟩ := so.at_ i b v e1 e2
      exact ⟨gb, cb.keep (Le.wgrow G a) (fun _ _ g _ => g) fun d w e _ => up d w e⟩
    · rw [List.getElem?_append_right (by omega)] at e1
      rw [List.getElem?_append_right (by rw [← so.len]; omega), ← so.len] at e2
      generalize i - G.m.length = r at e1 e2
      match r, e1, e2 with
      | 0, e1, e2 => simp at e1 e2; subst e1; subst e2; exact ⟨ga, hc⟩
      | r + 1, e1, e2 => simp at e1
theorem J.afterS (j : J K T c G H σ ρ) (h : stoOf ρ = some (true, μ)) (q : KeptS T [] G H μ G' H' μ') (so : StoOk K T G' H' μ') : J K T c G' H' σ (setSto ρ μ') := j.afterX h q so fun _ z => by cases z
/-- a cell is changed -/
theorem J.upCell (j : J K T c G H σ ρ) (h : stoOf ρ = some (true, μ)) {n : Nat} {a : Addr} {u u' : Cell} {o' : HO} (hm : G.m[n]? = some a) (hu : μ[n]? = some u) (hc : CellAt K T G (upd H a o') a u') (hl : u.isLk = false := by rfl) (hl' : u'.isLk = false := by rfl) : J K T c G (upd H a o') σ (setSto ρ (μ.set n u')) := by
  have so := j.stoOk h
  obtain ⟨ga, ca⟩ := so.at_ n a u hm hu
  obtain ⟨o, ho, ot, oc, ow⟩ := ca.here
  have hn : n < μ.length := (List.getElem?_eq_some_iff.mp hu).1
  refine j.afterS h ⟨Le.refl G, fun b v e => ?_, fun b g _ _ _ => g, fun b v e nm _ _ => ?_, fun b ps e => ⟨ps, ?_⟩, fun p hp => ?_, j.nt, fun b m => .inl m, fun k b v e1 e2 e3 => ?_, fun k v e => ?_, fun k v e _ => ?_⟩ (sto_set so hm hu hc)
  · rw [upd_ne (ne_of_none e ga)]; exact j.sub b v e
  · rw [upd_ne (show b ≠ a from fun z => nm (z ▸ List.mem_of_getElem? hm))]; exact e
  · rw [upd_ne (fun z => by rw [z, ho] at e; cases e; exact ot ps rfl)]; exact e
  · obtain ⟨ps, h1, h2, h3⟩ := j.tb p hp
    refine ⟨ps, by rw [upd_ne (fun z => by rw [z, ho] at h1; cases h1; exact ot ps rfl)]; exact h1, h2, fun pos cv hcv => ?_⟩
    obtain ⟨x, e1, e2⟩ := h3 pos cv hcv
    exact ⟨x, e1, by rw [upd_ne (fun z => by rw [z, ho] at e2; exact oc _ _ (Option.some.inj e2))]; exact e2⟩
  · refine upd_ne fun z => ?_
    subst z
    have : k = n := (List.getElem?_inj (List.getElem?_eq_some_iff.mp e1).1 so.nd).mp (e1.trans hm.symm)
    subst this
    rw [hu] at e2; cases e2
    rw [hl] at e3; cases e3
  · by_cases z : k = n
    · subst z
      rw [hu] at e; cases e
      exact ⟨u', List.getElem?_set_self hn, by rw [hl, hl']⟩
    · exact ⟨v, by rw [List.getElem?_set_ne (Ne.symm z)]; exact e, rfl⟩
  · have := (List.getElem?_eq_some_iff.mp e).1
    simpa using this
/-- a new cell -/
theorem J.newCell (j : J K T c G H σ ρ) (h : stoOf ρ = some (true, μ)) {a : Addr} {u : Cell} (ha : H a = none) (up : ∀ b o, H b = some o → H' b = some o) (hc : CellAt K T (wgrow G a) H' a u) (hl : u.isLk = false := by rfl) : J K T c (wgrow G a) H' σ (setSto ρ (μ ++ [u])) := by
  have so := j.stoOk h
  refine j.afterS h ⟨Le.wgrow G a, fun b v e => up b v (j.sub b v e), fun b g _ _ _ => g, fun b v e _ _ _ => up b v e, fun b ps e => ⟨ps, up _ _ e⟩, j.tb.ext up, j.nt, fun b m => ?_, fun k b v e1 e2 e3 => ?_, fun k v e => ⟨v, ?_, rfl⟩, fun k v e z => ?_⟩ (sto_push so ha (j.fresh ha) up hc)
  · unfold wgrow at m
    rcases List.mem_append.mp m with m | m
    · exact .inl m
    · simp at m; subst m; exact .inr ha
  · obtain ⟨o, q, _⟩ := (so.there (List.mem_of_getElem? e1)).2
    rw [q]; exact up _ _ q
  · rw [List.getElem?_append_left (List.getElem?_eq_some_iff.mp e).1]; exact e
  · by_cases hk : k < μ.length
    · exact hk
    · rw [List.getElem?_append_right (by omega)] at e
      generalize k - μ.length = r at e
      match r, e with
      | 0, e => simp at e; subst e; rw [hl] at z; cases z
      | r + 1, e => simp at e
end
inductive SRes where
  | ok (d : D) (μ : Sto)
  | exn (e : Exn) (μ : Sto)
  | stuck
def spS (K : Fg) (T : Tb) (f : Sto → List D → SRes) : Sp := fun vs H Q E => ∃ G μ ds, Lh G H ∧ (∀ a ps, G a ≠ some (.tbl ps)) ∧ LamX.Tabs T H ∧ StoOk K T G H μ ∧ DqAll K G vs ds ∧ match f μ ds with
  | .ok d μ' => ∀ v G' H', KeptS T [] G H μ G' H' μ' → StoOk K T G' H' μ' → Dq K G' v d → Q v H'
  | .exn e μ' => ∀ cls dx G' H', KeptS T [] G H μ G' H' μ' → StoOk K T G' H' μ' → IsX K G'.hp e cls dx → E cls dx H'
  | .stuck => False
def startS (n : Nat) (ds : List D) (μ : Sto) : MSt := ds.map (fun d => some (S.d d)) ++ (List.replicate (n - ds.length) none ++ [some (.sto true μ)])
def endS : Out Fl → SRes
  | .ok (.rt d) ρ => match stoOf ρ with
    | some (true, μ) => .ok d μ
    | _ => .stuck
  | .ok .nx ρ => match stoOf ρ with
    | some (true, μ) => .ok .none μ
    | _ => .stuck
  | .exn e ρ => match stoOf ρ with
    | some (true, μ) => .exn e μ
    | _ => .stuck
  | _ => .stuck
def runS (n m : Nat) (b : MM Fl) : Sto → List D → SRes := fun μ ds => if ds.length = m then endS (b (startS n ds μ)) else .stuck
theorem startS_get {n : Nat} {ds : List D} {μ : Sto} {i : Nat} {s : S} (hn : ds.length ≤ n) (e : (startS n ds μ)[i]? = some (some s)) : (∃ d, ds[i]? = some d ∧ s = .d d) ∨ (i = n ∧ s = .sto true μ) := by
  unfold startS at e
  by_cases hi : i < ds.length
  · rw [List.getElem?_append_left (by simpa using hi), List.getElem?_map] at e
    cases q : ds[i]? with
    | none => rw [q] at e; cases e
    | some d => rw [q] at e; cases e; exact .inl ⟨d, rfl, rfl⟩
  · rw [List.getElem?_append_right (by simpa using hi), List.length_map] at e
    by_cases hk : i - ds.length < n - ds.length
    · rw [List.getElem?_append_left (by simpa using hk), List.getElem?_replicate] at e
      split at e <;> cases e
    · rw [List.getElem?_append_right (by simpa using hk), List.length_replicate] at e
      have : ∃ r, r = i - ds.length - (n - ds.length) := ⟨_, rfl⟩
      obtain ⟨r, hr⟩ := this
      rw [← hr] at e
      match r, hr, e with
      | 0, hr, e => simp at e; exact .inr ⟨by omega, e.symm⟩
      | r + 1, _, e => simp at e
theorem startS_len {n : Nat} {ds : List D} {μ : Sto} (hn : ds.length ≤ n) : (startS n ds μ).length = n + 1 := by
  unfold startS
  simp only [List.length_append, List.length_map, List.length_replicate, List.length_cons, List.length_nil]
  omega
def locked (ms : List Addr) (μ : Sto) : List Addr := (List.range ms.length).filterMap fun (n : Nat) => match (ms[n]? : Option Addr), (μ[n]? : Option Cell) with
  | some a, some u => if u.isLk = true then some a else none
  | _, _ => none
theorem mem_locked {ms : List Addr} {μ : Sto} {a : Addr} : a ∈ locked ms μ ↔ ∃ (n : Nat) (u : Cell), ms[n]? = some a ∧ μ[n]? = some u ∧ u.isLk = true := by
  unfold locked
  rw [List.mem_filterMap]
  constructor
  · rintro ⟨n, _, e⟩
    split at e
    · rename_i b u h1 h2
      split at e
      · rename_i h3
        cases e
        exact ⟨n, u, h1, h2, h3⟩
      · cases e
    · cases e
  · rintro ⟨n, u, h1, h2, h3⟩
    exact ⟨n, List.mem_range.mpr (List.getElem?_eq_some_iff.mp h1).1, by rw [h1, h2]; simp [h3]⟩
/-- the ghost at a def's entry: all cells but the locked ones may be changed -/
def ghX (x : List Addr) (da : Addr) (G : Wd) (H : Hp) (μ : Sto) : Gh := ⟨H, G, x ++ free G.m μ, da, true, locked G.m μ⟩
def ghS (G : Wd) (H : Hp) (μ : Sto) : Gh := ghX [] 0 G H μ
theorem StoOk.ix {K : Fg} {T : Tb} {G : Wd} {H : Hp} {μ : Sto} (so : StoOk K T G H μ) {n k : Nat} {a : Addr} {u v : Cell} (e1 : G.m[n]? = some a) (e2 : G.m[k]? = some a) (f1 : μ[n]? = some u) (f2 : μ[k]? = some v) : n = k ∧ u = v := by
  have : n = k := (List.getElem?_inj (List.getElem?_eq_some_iff.mp e1).1 so.nd).mp (e1.trans e2.symm)
  subst this
  rw [f1] at f2; cases f2
  exact ⟨rfl, rfl⟩
theorem StoOk.pmS {K : Fg} {T : Tb} {G : Wd} {H : Hp} {μ : Sto} (so : StoOk K T G H μ) {c : Gh} (hl : c.lk = locked G.m μ) (hM : ∀ a ∈ free G.m μ, a ∈ c.M) (ha : c.al = true) : Pm c G true μ :=
  ⟨fun _ => ha, fun _ n a u e1 e2 e3 => .inr (hM _ (mem_free.mpr ⟨n, u, e1, e2, e3⟩)), fun n a u e1 e2 => by
    rw [hl, mem_locked]
    refine ⟨fun z => ⟨n, u, e1, e2, z⟩, fun ⟨k, v, f1, f2, f3⟩ => ?_⟩
    obtain ⟨_, rfl⟩ := so.ix e1 f1 e2 f2
    exact f3⟩
theorem StoOk.wfS {K : Fg} {T : Tb} {G : Wd} {H : Hp} {μ : Sto} (so : StoOk K T G H μ) {a : Addr} (h : a ∈ locked G.m μ) : a ∉ free G.m μ ∧ ∃ o es, H a = some (.frz o (.dK es)) := by
  obtain ⟨n, u, e1, e2, e3⟩ := mem_locked.mp h
  refine ⟨fun m => ?_, ?_⟩
  · obtain ⟨k, v, f1, f2, f3⟩ := mem_free.mp m
    obtain ⟨_, rfl⟩ := so.ix e1 f1 e2 f2
    rw [e3] at f3; cases f3
  · obtain ⟨_, ct⟩ := so.at_ n a u e1 e2
    cases ct with
    | dlk h1 h2 => exact ⟨_, _, h1⟩
    | _ => cases e3
theorem StoOk.split {K : Fg} {T : Tb} {G : Wd} {H : Hp} {μ : Sto} (so : StoOk K T G H μ) {a : Addr} (h : a ∈ G.m) : a ∈ free G.m μ ∨ a ∈ locked G.m μ := by
  obtain ⟨n, u, e1, e2⟩ := so.one h
  cases z : u.isLk with
  | false => exact .inl (mem_free.mpr ⟨n, u, e1, e2, z⟩)
  | true => exact .inr (mem_locked.mpr ⟨n, u, e1, e2, z⟩)
theorem J.entryS {K : Fg} {T : Tb} {G : Wd} {H : Hp} {vs : List V} {ds : List D} {N : List Str} {μ : Sto} (l : Lh G H) (nt : ∀ a ps, G a ≠ some (.tbl ps)) (tb : LamX.Tabs T H) (so : StoOk K T G H μ) (dq : DqAll K G vs ds) (hn : vs.length ≤ N.length) : J K T (ghS G H μ) G H (L2.start N vs) (startS N.length ds μ) := by
  have hl := dq.length
  have hN : (L2.start N vs).length = N.length := by unfold L2.start; simp; omega
  have get : ∀ (i : Nat) s, (startS N.length ds μ)[i]? = some (some s) → s.isSto = false → ∃ d v, s = .d d ∧ (L2.start N vs)[i]? = some (some v) ∧ Dq K G v d := fun i s e ns => by
    rcases startS_get (by omega) e with ⟨d, q, rfl⟩ | ⟨_, rfl⟩
    · obtain ⟨v, h1, h2⟩ := dq.getD q
      refine ⟨d, v, rfl, ?_, h2⟩
      unfold L2.start
      rw [List.getElem?_append_left (by simpa using (List.getElem?_eq_some_iff.mp h1).1), List.getElem?_map, h1]
      rfl
    · cases ns
  refine ⟨l, Le.refl G, fun _ h _ _ => h, fun _ _ e _ _ => e, fun _ ps e => ⟨ps, e⟩, by rw [startS_len (by omega), hN], fun i s e ns => ?_, fun i s a e o e2 => ?_, fun i k s t a b e1 e2 o1 o2 f1 f2 n => ?_, tb, nt, fun b ν e => ?_, ⟨fun a m => (so.there m).2.imp fun o z => z.1, fun a m n => ?_, fun a m => .inl m, (fun z => by cases z), fun a h => so.wfS h⟩⟩
  · obtain ⟨d, v, rfl, h1, h2⟩ := get i s e ns
    exact ⟨v, h1, h2⟩
  · obtain ⟨d, v, rfl, h1, h2⟩ := get i s e (S.own_sto o)
    cases o
  · obtain ⟨d, v, rfl, h1, h2⟩ := get i s e1 (S.own_sto o1)
    cases o1
  · rcases startS_get (by omega) e with ⟨d, q, z⟩ | ⟨_, z⟩
    · cases z
    · cases z; exact ⟨so, so.pmS rfl (fun _ h => h) rfl⟩
  · obtain ⟨i, s, e1, e2, e3⟩ := mem_owns.mp n
    obtain ⟨d, v, rfl, h1, h2⟩ := get i s e1 (S.own_sto e2)
    cases e2
theorem J.keptX {x : List Addr} {da : Addr} {K : Fg} {T : Tb} {G G' : Wd} {H H' : Hp} {σ : St} {ρ : MSt} {μ μ' : Sto} {b : Bool} (so : StoOk K T G H μ) (j : J K T (ghX x da G H μ) G' H' σ ρ) (hs : stoOf ρ = some (b, μ')) (hx : ∀ a ∈ x, a ∉ G.m ∧ a ∉ G'.m) : KeptS T x G H μ G' H' μ' := by
  obtain ⟨so', pm⟩ := j.st b μ' (j.sto hs)
  refine ⟨j.g0, j.sub, fun a g h m n => j.gn a g h (fun z => (List.mem_append.mp z).elim n fun z => m (free_mem z)), fun a o e m n t => j.fr a o e (fun z => (List.mem_append.mp z).elim n fun z => m (free_mem z)) t, j.ft, j.tb, j.nt, fun a m => (j.mj.gr a m).elim .inl fun z => z.elim .inr fun z => (List.mem_append.mp z).elim (fun y => absurd m (hx a y).2) fun z => .inl (free_mem z), fun n a u e1 e2 e3 => ?_, fun n u e => ?_, fun n u e z => ?_⟩
  · obtain ⟨h1, o, es, h2⟩ := so.wfS (mem_locked.mpr ⟨n, u, e1, e2, e3⟩)
    rw [h2]; exact j.fr a _ h2 (fun z => (List.mem_append.mp z).elim (fun y => (hx a y).1 (List.mem_of_getElem? e1)) h1) (fun _ z => by cases z)
  · have hn : n < G.m.length := by rw [so.len]; exact (List.getElem?_eq_some_iff.mp e).1
    have e1 := List.getElem?_eq_getElem hn
    have e2 := j.g0.loc e1
    have hn' : n < μ'.length := by rw [← so'.len]; exact (List.getElem?_eq_some_iff.mp e2).1
    have e3 := List.getElem?_eq_getElem hn'
    refine ⟨_, e3, ?_⟩
    have i1 := pm.lk n _ _ e2 e3
    have i2 : u.isLk = true ↔ G.m[n] ∈ locked G.m μ := by
      rw [mem_locked]
      refine ⟨fun z => ⟨n, u, e1, e, z⟩, fun ⟨k, v, f1, f2, f3⟩ => ?_⟩
      obtain ⟨_, rfl⟩ := so.ix e1 f1 e f2
      exact f3
    have i3 := i1.trans i2.symm
    cases z1 : u.isLk <;> cases z2 : (μ'[n]).isLk <;> simp_all
  · have hn' : n < G'.m.length := by rw [so'.len]; exact (List.getElem?_eq_some_iff.mp e).1
    have e1 := List.getElem?_eq_getElem hn'
    have := (pm.lk n _ u e1 e).mp z
    obtain ⟨k, v, f1, f2, f3⟩ := mem_locked.mp this
    have e2 := j.g0.loc f1
    have : n = k := (List.getElem?_inj hn' so'.nd).mp (e1.trans e2.symm)
    rw [this]; exact (List.getElem?_eq_some_iff.mp f2).1
theorem J.keptS {K : Fg} {T : Tb} {G G' : Wd} {H H' : Hp} {σ : St} {ρ : MSt} {μ μ' : Sto} {b : Bool} (so : StoOk K T G H μ) (j : J K T (ghS G H μ) G' H' σ ρ) (hs : stoOf ρ = some (b, μ')) : KeptS T [] G H μ G' H' μ' := J.keptX so j hs fun _ z => by cases z
section
variable {P : Program} {w : World} {K : Fg} {mg : Str → Option Value} {base : Heap} {T : Tb}
theorem fn_defS {x qual : Str} {st : Stmt} {f : Addr} {fd : FuncData} {N ps : List Str} {k : Nat} {b : MM Fl} (F : Fun K x qual st f fd) (S : FnScope N ps (defScope st))
    (hb : ∀ (cdv : Value), cdv = fd.code → ∀ (A : Around) (outer : List Env) (s : Shared) (H : Hp) (E : XK) (c : Gh), Room k (A.deeper (PyProof.Rows.envOfC qual (defScope st) s.heap.objs.size f cdv)) →
      PSs (cxX P w K mg base N qual (defScope st) f cdv A outer s H E) (defBody st) (mS K T c (fun cls d _ H => E cls d H) b)) :
    FnOk P w K mg base (L2N.CX P w) (k + 1) f fd ps (spS K T (runS N.length ps.length b)) := by
  have hpl : ps.length ≤ N.length := by have := congrArg List.length S.pre; rw [List.length_take] at this; omega
  refine okN F S (fun vs H Q E h => ?_) fun cdv hcd A outer s H vs Q E hr h => ?_
  · obtain ⟨G, μ, ds, _, _, _, _, dq, p⟩ := h
    unfold runS at p
    by_cases z : ds.length = ps.length
    · rw [dq.length, z]
    · rw [if_neg z] at p; exact p.elim
  · obtain ⟨G, μ, ds, l, nt, tb, so, dq, p⟩ := h
    refine ⟨_, hb cdv hcd A outer s H E (ghS G H μ) hr, ?_⟩
    unfold runS at p
    by_cases z : ds.length = ps.length
    · rw [if_pos z] at p
      refine ⟨G, startS N.length ds μ, J.entryS l nt tb so dq (by rw [dq.length, z]; exact hpl), ?_⟩
      cases e : b (startS N.length ds μ) with
      | ok fl ρ' =>
        rw [e] at p
        cases fl with
        | nx =>
          intro σ' G' H' l' j'
          unfold endS at p
          cases q : stoOf ρ' with
          | none => simp only [q] at p
          | some bm =>
            obtain ⟨b', μ'⟩ := bm
            simp only [q] at p
            cases b' with
            | false => exact p.elim
            | true => exact p .non G' H' (J.keptS so j' q) (j'.stoOk q) .non
        | rt d =>
          intro v σ' G' H' l' j' dv
          unfold endS at p
          cases q : stoOf ρ' with
          | none => simp only [q] at p
          | some bm =>
            obtain ⟨b', μ'⟩ := bm
            simp only [q] at p
            cases b' with
            | false => exact p.elim
            | true => exact p v G' H' (J.keptS so j' q) (j'.stoOk q) dv
        | bk => exact p.elim
        | ct => exact p.elim
      | exn y ρ' =>
        rw [e] at p
        intro cls dx σ' G' H' l' j' i
        unfold endS at p
        cases q : stoOf ρ' with
        | none => simp only [q] at p
        | some bm =>
          obtain ⟨b', μ'⟩ := bm
          simp only [q] at p
          cases b' with
          | false => exact p.elim
          | true => exact p cls dx G' H' (J.keptS so j' q) (j'.stoOk q) i
      | stuck => rw [e] at p; exact p.elim
    · rw [if_neg z] at p; exact p.elim
end
end Mi
set_option Elab.async false
set_option linter.all false
set_option maxRecDepth 100000
set_option maxHeartbeats 4000000
namespace Mi
open PySem L2
theorem DqF.get {K : Fg} {G : Wd} {x : Str} : ∀ {vs : List (Str × V)} {ds : List (Str × D)}, DqF K G vs ds → (vs.lookup x = none ∧ ds.lookup x = none) ∨ ∃ v d, vs.lookup x = some v ∧ ds.lookup x = some d ∧ Dq K G v d
  | _, _, .nil => .inl ⟨rfl, rfl⟩
  | _, _, .cons (x := y) (v := v) (d := d) h t => by
    rw [List.lookup_cons, List.lookup_cons]
    cases e : x == y with
    | true => exact .inr ⟨v, d, rfl, rfl, h⟩
    | false => exact DqF.get t
theorem DqF.length {K : Fg} {G : Wd} : ∀ {vs : List (Str × V)} {ds : List (Str × D)}, DqF K G vs ds → vs.length = ds.length
  | _, _, .nil => rfl
  | _, _, .cons _ t => by simp [DqF.length t]
def putFD (f : Str) (v : D) : List (Str × D) → List (Str × D)
  | [] => [(f, v)]
  | (g, x) :: r => if g = f then (g, v) :: r else (g, x) :: putFD f v r
theorem DqF.put {K : Fg} {G : Wd} {x : Str} {v : V} {d : D} (r : Dq K G v d) : ∀ {vs : List (Str × V)} {ds : List (Str × D)}, DqF K G vs ds → DqF K G (putF x v vs) (putFD x d ds)
  | _, _, .nil => .cons r .nil
  | _, _, .cons (x := y) h t => by
    unfold putF putFD
    split
    · exact .cons r t
    · exact .cons h (DqF.put r t)
/-- the cell at a place -/
def cellAt (ρ : MSt) (d : D) : Option (Nat × Cell) := match d, stoOf ρ with
  | .loc n, some (_, μ) => (μ[n]?).map fun u => (n, u)
  | _, _ => none
theorem J.cell {K : Fg} {T : Tb} {c : Gh} {G : Wd} {H : Hp} {σ : St} {ρ : MSt} {v : V} {d : D} {n : Nat} {u : Cell} (j : J K T c G H σ ρ) (r : Dq K G v d) (h : cellAt ρ d = some (n, u)) : ∃ a b μ, d = .loc n ∧ v = .ref a ∧ G.m[n]? = some a ∧ stoOf ρ = some (b, μ) ∧ μ[n]? = some u ∧ G a = none ∧ CellAt K T G H a u := by
  unfold cellAt at h
  split at h
  · rename_i k b μ hs
    cases e : μ[k]? with
    | none => rw [e] at h; cases h
    | some w =>
      rw [e] at h
      cases h
      cases r with
      | loc hm =>
        obtain ⟨g, ct⟩ := (j.stoOk hs).at_ _ _ _ hm e
        exact ⟨_, b, μ, rfl, rfl, hm, hs, e, g, ct⟩
  · cases h
section
variable {X : Cx} {T : Tb} {c : Gh} {W : WX} {a b e o value : Expr} {es : List Expr} {f f1 f2 fo fv : MM D} {g : MM (List D)} {pos pos' p apos : Pos}
/-- o.x, o of the class C -/
def attrK (C x : Str) (d : D) : MM D := fun ρ => match cellAt ρ d with
  | some (_, .obj C' fs) => if C' = C then (match fs.lookup x with
    | some v => .ok v ρ
    | none => .stuck) else .stuck
  | _ => .stuck
def attrE (C x : Str) (f : MM D) : MM D := MM.bind f (attrK C x)
theorem me_attr {C x : Str} (cl : Cls X.K (He.ga X.K C)) (nF : NoAttr X.K (He.ga X.K C) x) (he : PE X e (mE X.K T c W f)) (hb : attributeBase e x X.env (eval e X.env) = eval e X.env := by rfl) : PE X (.Attribute e x pos) (mE X.K T c W (attrE C x f)) := by
  refine pe_mono (pe_fld he hb) fun σ H Q ⟨G, ρ, j, p⟩ => ?_
  refine pX_bind j p fun d v ρ1 G1 H1 l1 j1 r1 p1 => ?_
  unfold attrK at p1
  split at p1
  · rename_i n C' fs hc
    obtain ⟨a, b, μ, rfl, rfl, hm, hs, hu, ga, ct⟩ := j1.cell r1 hc
    by_cases z : C' = C
    · subst z
      rw [if_pos rfl] at p1
      cases ct with
      | obj h1 h2 h3 h4 =>
        rcases h4.get (x := x) with ⟨_, e2⟩ | ⟨v, d, e1, e2, e3⟩
        · rw [e2] at p1; exact p1.elim
        · rw [e2] at p1
          exact ⟨a, _, _, _, v, rfl, h1, cl, nF, e1, p1.here j1 e3⟩
    · rw [if_neg z] at p1; exact p1.elim
  · exact p1.elim
/-- o.x = value -/
def fldK (C x : Str) (v d : D) : MM Fl := fun ρ => match stoOf ρ, cellAt ρ d with
  | some (true, μ), some (n, .obj C' fs) => if C' = C ∧ fs.length < 1000 then .ok .nx (setSto ρ (μ.set n (.obj C (putFD x v fs)))) else .stuck
  | _, _ => .stuck
def fldS (C x : Str) (fv fo : MM D) : MM Fl := MM.bind fv fun v => MM.bind fo (fldK C x v)
theorem ms_fld {C x : Str} (cl : Cls X.K (He.ga X.K C)) (nF : NoAttr X.K (He.ga X.K C) x) (ho : PE X o (mE X.K T c W fo)) (hv : PE X value (mE X.K T c W fv)) (hs : swapsWith value (some (.Attribute o x pos')) pos.line X.env = pure false := by rfl) : PS X (.Assign [.Attribute o x pos'] value pos) (mS X.K T c W (fldS C x fv fo)) := by
  refine ps_mono (ps_fld ho hv hs) fun Dn σ H ⟨G, ρ, j, p⟩ => ?_
  refine pS_bind j p fun d v ρ1 G1 H1 l1 j1 r1 p1 => ?_
  refine pS_bind j1 p1 fun d2 v2 ρ2 G2 H2 l2 j2 r2 p2 => ?_
  unfold fldK at p2
  split at p2
  · rename_i μ0 n C' fs hs0 hc
    obtain ⟨a, b, μ, rfl, rfl, hm, hs, hu, ga, ct⟩ := j2.cell r2 hc
    rw [hs] at hs0
    cases hs0
    by_cases z : C' = C ∧ fs.length < 1000
    · obtain ⟨rfl, z2⟩ := z
      rw [if_pos ⟨rfl, z2⟩] at p2
      cases ct with
      | @obj _ dx vs _ h1 h2 h3 h4 =>
        refine ⟨a, _, dx, vs, rfl, h1, cl, nF, by rw [h4.length]; exact z2, p2 σ G2 _ (Le.refl G2) (j2.upCell hs hm hu (.obj upd_same ?_ h3 (h4.put (r1.le l2))))⟩
        rw [upd_ne (fun y => by rw [y, h1] at h2; cases h2)]; exact h2
    · rw [if_neg z] at p2; exact p2.elim
  · exact p2.elim
def callSK (fm : Sto → List D → SRes) (ds : List D) : MM D := fun ρ => match stoOf ρ with
  | some (true, μ) => match fm μ ds with
    | .ok d μ' => .ok d (setSto ρ μ')
    | .exn e μ' => .exn e (setSto ρ μ')
    | .stuck => .stuck
  | _ => .stuck
def callSE (fm : Sto → List D → SRes) (g : MM (List D)) : MM D := MM.bind g (callSK fm)
theorem spS_of {fm : Sto → List D → SRes} {σ : St} {G : Wd} {H : Hp} {ρ : MSt} {ds : List D} {vs : List V} {Q : VK} (j : J X.K T c G H σ ρ) (r : DqAll X.K G vs ds) (p : pX X.K T c W (relD X.K) σ G Q (callSK fm ds ρ)) : spS X.K T fm vs H Q (WE W σ) := by
  unfold callSK at p
  split at p
  · rename_i μ hs
    refine ⟨G, μ, ds, j.sub, j.nt, j.tb, j.stoOk hs, r, ?_⟩
    cases z : fm μ ds with
    | ok d μ' => rw [z] at p; exact fun v G' H' q so dv => p v G' H' q.g (j.afterS hs q so) dv
    | exn y μ' => rw [z] at p; exact fun cls dx G' H' q so i => p cls dx G' H' q.g (j.afterS hs q so) i
    | stuck => rw [z] at p; exact p.elim
  · exact p.elim
/-- o.m(e, ..), exceptions let by -/
def tMethE (C : Addr) (m : Str) (sp : Sp) (E : St → XK) (ta : TE) (t : TA) : TE := fun σ H Q => ta σ H fun x H1 => ∃ a dx fs, x = .ref a ∧ H1 a = some (.ins C dx fs) ∧ fs.lookup m = none ∧ t σ H1 fun vs H2 => sp (x :: vs) H2 Q (E σ)
theorem pe_methE {C fa : Addr} {m : Str} {k : Nat} {fd : FuncData} {ps : List Str} {sp : Sp} {CX : CXT} {E : St → XK} {ta : TE} {t : TA} {pl : Sem Bool} (he : PE X o ta) (cl : Cls X.K C) (hm : Meth X.K C m fa) (F : FnOk X.prog X.w X.K X.mg X.base CX k fa fd ps sp) (hr : Room k X.A) (hb : Binds X.K fd ps []) (hx : ∀ σ, PassesAt CX X σ (E σ)) (ha : PA X (e :: es) t)
    (hst : starEach (e :: es) X.env = (false, eval e X.env) :: starEach es X.env := by rfl) (hpl : (backTo pos (starEach es X.env)).any (·.1) = false := by rfl)
    (ht : eval (.Call (.Attribute o m apos) (e :: es) [] pos) X.env = (do
      let ov ← eval o X.env
      standAt apos.atName
      let (f, first) ← holding [ov] (getMethod ov m pl)
      callWith pos f first (backTo pos (starEach (e :: es) X.env)) (backToKw pos (keywordEach [] X.env))) := by rfl) :
    PE X (.Call (.Attribute o m apos) (e :: es) [] pos) (tMethE C m sp E ta t) := by
  refine ⟨fun pins s σ H Q I h => ?_⟩
  refine PySem.W.methodCall_KW (pl := pl) (thn (he.run pins s σ H _ I h) fun u s1 ⟨x, H1, I1, rx, a, dx, fs, ex, ea, l, q⟩ => ?_) ht
  subst ex
  obtain rfl : u = Value.ref a := rx
  refine getmeth_ok I1 ea cl hm l ?_
  refine PySem.W.callWith_K (first := [.ref a]) (h₀ := X.base) I.ok.mod.kin hm.kp (thn (ha.run pos pins s1 σ H1 _ I1 q) fun us s2 ⟨vs, H2, I2, r, q2⟩ => ⟨I2.kIn, ?_⟩) hst hpl
  exact run_fnS (us := .ref a :: us) (vs := .ref a :: vs) F hr hb (hx σ) I2 (.cons rfl r) q2
theorem pe_methE0 {C fa : Addr} {m : Str} {k : Nat} {fd : FuncData} {ps : List Str} {sp : Sp} {CX : CXT} {E : St → XK} {ta : TE} {pl : Sem Bool} (he : PE X o ta) (cl : Cls X.K C) (hm : Meth X.K C m fa) (F : FnOk X.prog X.w X.K X.mg X.base CX k fa fd ps sp) (hr : Room k X.A) (hb : Binds X.K fd ps []) (hx : ∀ σ, PassesAt CX X σ (E σ))
    (ht : eval (.Call (.Attribute o m apos) [] [] pos) X.env = (do
      let ov ← eval o X.env
      standAt apos.atName
      let (f, first) ← holding [ov] (getMethod ov m pl)
      callWith pos f first (backTo pos (starEach [] X.env)) (backToKw pos (keywordEach [] X.env))) := by rfl) :
    PE X (.Call (.Attribute o m apos) [] [] pos) (tMethE C m sp E ta tNil) := by
  refine ⟨fun pins s σ H Q I h => ?_⟩
  refine PySem.W.methodCall_KW (pl := pl) (thn (he.run pins s σ H _ I h) fun u s1 ⟨x, H1, I1, rx, a, dx, fs, ex, ea, l, q⟩ => ?_) ht
  subst ex
  obtain rfl : u = Value.ref a := rx
  refine getmeth_ok I1 ea cl hm l ?_
  exact PySem.W.callWith_K0 (first := [.ref a]) I1.kIn hm.kp (run_fnS (us := [.ref a]) (vs := [.ref a]) F hr hb (hx σ) I1 (.cons rfl .nil) q)
/-- is it an object of the class, without a field of the method's name -/
def isOb (ρ : MSt) (C m : Str) (d : D) : Bool := match cellAt ρ d with
  | some (_, .obj C' fs) => decide (C' = C) && (fs.lookup m).isNone
  | _ => false
def methE (C m : Str) (fm : Sto → List D → SRes) (fo : MM D) (g : MM (List D)) : MM D := MM.bind fo fun d ρ => if isOb ρ C m d = true then MM.bind g (fun ds => callSK fm (d :: ds)) ρ else .stuck
theorem meth_to {C m : Str} {fm : Sto → List D → SRes} (σ : St) (H : Hp) (Q : VK) (h : mE X.K T c W (methE C m fm fo g) σ H Q) : tMethE (He.ga X.K C) m (spS X.K T fm) (WE W) (mE X.K T c W fo) (mA X.K T c W g) σ H Q := by
  obtain ⟨G, ρ, j, p⟩ := h
  refine pX_bind j p fun d v ρ1 G1 H1 l1 j1 r1 p1 => ?_
  by_cases z : isOb ρ1 C m d = true
  · rw [if_pos z] at p1
    unfold isOb at z
    split at z
    · rename_i n C' fs hc
      obtain ⟨a, b, μ, rfl, rfl, hm, hs, hu, ga, ct⟩ := j1.cell r1 hc
      rw [Bool.and_eq_true, decide_eq_true_eq] at z
      obtain ⟨rfl, z2⟩ := z
      cases ct with
      | @obj _ dx vs _ h1 h2 h3 h4 =>
        refine ⟨a, dx, vs, rfl, h1, ?_, ?_⟩
        · rcases h4.get (x := m) with ⟨e1, _⟩ | ⟨v, d, e1, e2, _⟩
          · exact e1
          · rw [e2] at z2; cases z2
        · refine pX_bind j1 p1 fun ds vs2 ρ2 G2 H2 l2 j2 r2 p2 => ?_
          exact spS_of j2 (.cons (r1.le l2) r2) p2
    · cases z
  · rw [if_neg z] at p1; exact p1.elim
theorem me_meth {C m : Str} {fa : Addr} {k : Nat} {fd : FuncData} {ps : List Str} {fm : Sto → List D → SRes} {pl : Sem Bool} (ho : PE X o (mE X.K T c W fo)) (cl : Cls X.K (He.ga X.K C)) (hm : Meth X.K (He.ga X.K C) m fa) (F : FnOk X.prog X.w X.K X.mg X.base (L2N.CX X.prog X.w) k fa fd ps (spS X.K T fm)) (hr : Room k X.A) (hb : Binds X.K fd ps []) (tk : L2N.Takes X W) (ha : PA X (e :: es) (mA X.K T c W g))
    (hst : starEach (e :: es) X.env = (false, eval e X.env) :: starEach es X.env := by rfl) (hpl : (backTo pos (starEach es X.env)).any (·.1) = false := by rfl)
    (ht : eval (.Call (.Attribute o m apos) (e :: es) [] pos) X.env = (do
      let ov ← eval o X.env
      standAt apos.atName
      let (f, first) ← holding [ov] (getMethod ov m pl)
      callWith pos f first (backTo pos (starEach (e :: es) X.env)) (backToKw pos (keywordEach [] X.env))) := by rfl) :
    PE X (.Call (.Attribute o m apos) (e :: es) [] pos) (mE X.K T c W (methE C m fm fo g)) :=
  pe_mono (pe_methE ho cl hm F hr hb (fun σ => L2N.passAt tk σ) ha hst hpl ht) meth_to
theorem me_meth0 {C m : Str} {fa : Addr} {k : Nat} {fd : FuncData} {ps : List Str} {fm : Sto → List D → SRes} {pl : Sem Bool} (ho : PE X o (mE X.K T c W fo)) (cl : Cls X.K (He.ga X.K C)) (hm : Meth X.K (He.ga X.K C) m fa) (F : FnOk X.prog X.w X.K X.mg X.base (L2N.CX X.prog X.w) k fa fd ps (spS X.K T fm)) (hr : Room k X.A) (hb : Binds X.K fd ps []) (tk : L2N.Takes X W)
    (ht : eval (.Call (.Attribute o m apos) [] [] pos) X.env = (do
      let ov ← eval o X.env
      standAt apos.atName
      let (f, first) ← holding [ov] (getMethod ov m pl)
      callWith pos f first (backTo pos (starEach [] X.env)) (backToKw pos (keywordEach [] X.env))) := by rfl) :
    PE X (.Call (.Attribute o m apos) [] [] pos) (mE X.K T c W (methE C m fm fo (MM.pure []))) :=
  pe_mono (pe_methE0 ho cl hm F hr hb (fun σ => L2N.passAt tk σ) ht) fun σ H Q h => by
    obtain ⟨G, ρ, j, p⟩ := meth_to σ H Q h
    refine ⟨G, ρ, j, ?_⟩
    cases z : fo ρ with
    | ok d ρ' =>
      rw [z] at p
      intro v G' H' l j' r
      obtain ⟨a, dx, fs, e1, e2, e3, G2, ρ2, j2, q⟩ := p v G' H' l j' r
      exact ⟨a, dx, fs, e1, e2, e3, q.here j2 .nil⟩
    | exn y ρ' => rw [z] at p; exact p
    | stuck => rw [z] at p; exact p
/-- C(..) -/
def makeK (C : Str) (fm : Sto → List D → SRes) (ds : List D) : MM D := fun ρ => match stoOf ρ with
  | some (true, μ) => match fm (μ ++ [.obj C []]) (.loc μ.length :: ds) with
    | .ok .none μ' => .ok (.loc μ.length) (setSto ρ μ')
    | _ => .stuck
  | _ => .stuck
def makeE (C : Str) (fm : Sto → List D → SRes) (g : MM (List D)) : MM D := MM.bind g (makeK C fm)
theorem make_to {C : Str} {fm : Sto → List D → SRes} (σ : St) (H : Hp) (Q : VK) (h : mE X.K T c W (makeE C fm g) σ H Q) : tMake (He.ga X.K C) (spS X.K T fm) [] (fun _ _ _ => False) (mA X.K T c W g) σ H Q := by
  obtain ⟨G, ρ, j, p⟩ := h
  refine pX_bind j p fun ds vs ρ1 G1 H1 l1 j1 r1 p1 => ?_
  intro x dx hx hd hne
  unfold makeK at p1
  split at p1
  · rename_i μ hs
    have up : ∀ b o, H1 b = some o → upd (upd H1 dx (.own x)) x (.ins (He.ga X.K C) dx []) b = some o := fun b o e => by
      rw [upd_ne (ne_of_none e hx), upd_ne (ne_of_none e hd)]; exact e
    have so := j1.stoOk hs
    have jn := j1.newCell hs hx up (u := .obj C []) (.obj upd_same (by rw [upd_ne hne, upd_same]) (j1.fresh hd) .nil)
    have hs' : stoOf (setSto ρ1 (μ ++ [.obj C []])) = some (true, μ ++ [.obj C []]) := by
      unfold stoOf setSto
      have hl := j1.len
      rw [List.length_set, List.getElem?_set_self (by omega)]
    have hm : (wgrow G1 x).m[μ.length]? = some x := by rw [← so.len]; exact wgrow_at
    rw [List.append_nil]
    refine ⟨wgrow G1 x, μ ++ [.obj C []], .loc μ.length :: ds, jn.sub, jn.nt, jn.tb, jn.stoOk hs', .cons (.loc hm) (r1.le (Le.wgrow G1 x)), ?_⟩
    have p2 : pX X.K T c W (relD X.K) σ G1 Q (match fm (μ ++ [.obj C []]) (.loc μ.length :: ds) with | .ok .none μ' => .ok (.loc μ.length) (setSto ρ1 μ') | _ => .stuck) := p1
    cases z : fm (μ ++ [.obj C []]) (.loc μ.length :: ds) with
    | ok d μ' =>
      rw [z] at p2
      cases d with
      | none =>
        intro v G' H' q so' dv
        cases dv
        refine ⟨rfl, p2 _ G' H' ((Le.wgrow G1 x).trans q.g) ?_ (.loc (q.g.loc hm))⟩
        have ja := jn.afterS hs' q so'
        have es : setSto (setSto ρ1 (μ ++ [.obj C []])) μ' = setSto ρ1 μ' := by
          unfold setSto; rw [List.length_set, List.set_set]
        rw [es] at ja
        exact ja
      | _ => exact p2.elim
    | exn y μ' => rw [z] at p2; exact p2.elim
    | stuck => rw [z] at p2; exact p2.elim
  · exact p1.elim
theorem passNo : Passes (L2N.CX X.prog X.w) X (fun _ _ _ => False) := fun pins σ H s e s' I h => by
  obtain ⟨a, B, H1, cls, d, _, _, _, _, _, _, _, z⟩ := h
  exact z.elim
theorem me_make {C x : Str} {fa : Addr} {k : Nat} {fd : FuncData} {ps : List Str} {fm : Sto → List D → SRes} (M : Mk X.K (He.ga X.K C) fa) (F : FnOk X.prog X.w X.K X.mg X.base (L2N.CX X.prog X.w) k fa fd ps (spS X.K T fm)) (hr : Room (k + 1) X.A) (hg : Gl X x) (hm : X.mg x = some (.ref (He.ga X.K C))) (hb : Binds X.K fd ps [])
    (ha : PA X (e :: es) (mA X.K T c W g)) (hdb : (x == ("__debug__" : Str)) = false := by decide) (he : starEach (e :: es) X.env = (false, eval e X.env) :: starEach es X.env := by rfl) (hpl : (backTo pos (starEach es X.env)).any (·.1) = false := by rfl) :
    PE X (.Call (.Name x p) (e :: es) [] pos) (mE X.K T c W (makeE C fm g)) := pe_mono (pe_make M F hr hg hm hb .nil passNo ha hdb he hpl) make_to
theorem me_make0 {C x : Str} {fa : Addr} {k : Nat} {fd : FuncData} {ps : List Str} {fm : Sto → List D → SRes} (M : Mk X.K (He.ga X.K C) fa) (F : FnOk X.prog X.w X.K X.mg X.base (L2N.CX X.prog X.w) k fa fd ps (spS X.K T fm)) (hr : Room (k + 1) X.A) (hg : Gl X x) (hm : X.mg x = some (.ref (He.ga X.K C))) (hb : Binds X.K fd ps [])
    (hdb : (x == ("__debug__" : Str)) = false := by decide) : PE X (.Call (.Name x p) [] [] pos) (mE X.K T c W (makeE C fm (MM.pure []))) := pe_mono (pe_make0 M F hr hg hm hb .nil passNo hdb) fun σ H Q h => by
    obtain ⟨G, ρ, j, q⟩ := make_to σ H Q h
    exact q.here j .nil
end
end Mi
set_option Elab.async false
set_option linter.all false
set_option maxRecDepth 100000
set_option maxHeartbeats 4000000
namespace Mi
open PySem L2
mutual
def noLoc : D → Bool
  | .loc _ => false
  | .exc _ => false
  | .fn _ => false
  | .list xs => noLocs xs
  | .tuple xs => noLocs xs
  | .dict kvs => noLocKV kvs
  | _ => true
def noLocs : List D → Bool
  | [] => true
  | x :: xs => noLoc x && noLocs xs
def noLocKV : List (D × D) → Bool
  | [] => true
  | (_, v) :: xs => noLoc v && noLocKV xs
end
mutual
theorem Dq.bare {K : Fg} {G G' : Wd} (s : Sub G G') : ∀ {v : V} {d : D}, Dq K G v d → noLoc d = true → Dq K G' v d
  | _, _, .non, _ => .non
  | _, _, .bl b, _ => .bl b
  | _, _, .int i, _ => .int i
  | _, _, .str x, _ => .str x
  | _, _, .lst h t, n => .lst (s.rd _ _ (fun _ _ z => by cases z) h) (DqAll.bare s t n)
  | _, _, .tup h t, n => .tup (h.sub s) (DqAll.bare s t n)
  | _, _, .dic h t, n => .dic (h.sub s) (DqKV.bare s t n)
  | _, _, .loc h, n => by cases n
  | _, _, .exc h, n => by cases n
  | _, _, .fn, n => by cases n
theorem DqAll.bare {K : Fg} {G G' : Wd} (s : Sub G G') : ∀ {vs : List V} {ds : List D}, DqAll K G vs ds → noLocs ds = true → DqAll K G' vs ds
  | _, _, .nil, _ => .nil
  | _, _, .cons h t, n => by
    obtain ⟨n1, n2⟩ := Bool.and_eq_true_iff.mp (show (noLoc _ && noLocs _) = true from n)
    exact .cons (Dq.bare s h n1) (DqAll.bare s t n2)
theorem DqKV.bare {K : Fg} {G G' : Wd} (s : Sub G G') : ∀ {kvs : List (Key × V)} {ds : List (D × D)}, DqKV K G kvs ds → noLocKV ds = true → DqKV K G' kvs ds
  | _, _, .nil, _ => .nil
  | _, _, .cons h t, n => by
    obtain ⟨n1, n2⟩ := Bool.and_eq_true_iff.mp (show (noLoc _ && noLocKV _) = true from n)
    exact .cons (Dq.bare s h n1) (DqKV.bare s t n2)
end
mutual
def keyN : D → Option NestedKey
  | .none => some .none
  | .int i => some (.num i)
  | .str s => some (.text s)
  | .tuple xs => (keyNs xs).map .tup
  | _ => none
def keyNs : List D → Option (List NestedKey)
  | [] => some []
  | x :: xs => match keyN x, keyNs xs with
    | some k, some ks => some (k :: ks)
    | _, _ => none
end
def tkey (d : D) : Option NestedKey := match d with
  | .tuple xs => match keyN (.tuple xs) with
    | some k => if k.depth ≤ 8 then some k else none
    | none => none
  | _ => none
theorem tkey_ok {d : D} {k : NestedKey} (h : tkey d = some k) : keyN d = some k ∧ k.depth ≤ 8 ∧ ∃ xs, d = .tuple xs := by
  unfold tkey at h
  split at h
  · rename_i xs
    split at h
    · rename_i k' hk
      split at h
      · rename_i hd; cases h; exact ⟨hk, hd, xs, rfl⟩
      · cases h
    · cases h
  · cases h
theorem keyNs_cons {x : D} {xs : List D} {ks : List NestedKey} (h : keyNs (x :: xs) = some ks) : ∃ k l, keyN x = some k ∧ keyNs xs = some l ∧ ks = k :: l := by
  rw [keyNs] at h
  split at h
  · rename_i k l h1 h2; cases h; exact ⟨k, l, h1, h2, rfl⟩
  · cases h
theorem keyN_tup {xs : List D} {k : NestedKey} (h : keyN (.tuple xs) = some k) : ∃ ks, keyNs xs = some ks ∧ k = .tup ks := by
  rw [keyN] at h
  cases e : keyNs xs with
  | none => rw [e] at h; cases h
  | some ks => rw [e] at h; cases h; exact ⟨ks, rfl, rfl⟩
mutual
theorem keyN_py : ∀ (d : D) (k : NestedKey), keyN d = some k → d.py = k.data
  | .none, _, h => by cases h; rfl
  | .int i, _, h => by cases h; rfl
  | .str s, _, h => by cases h; rfl
  | .tuple xs, _, h => by
    obtain ⟨ks, h1, rfl⟩ := keyN_tup h
    show PyData.tuple (pys xs) = .tuple (NestedKey.datas ks)
    rw [keyNs_py xs ks h1]
  | .bool _, _, h => by cases h
  | .list _, _, h => by cases h
  | .dict _, _, h => by cases h
  | .loc _, _, h => by cases h
  | .exc _, _, h => by cases h
  | .fn _, _, h => by cases h
theorem keyNs_py : ∀ (xs : List D) (ks : List NestedKey), keyNs xs = some ks → pys xs = NestedKey.datas ks
  | [], _, h => by cases h; rfl
  | x :: xs, _, h => by
    obtain ⟨k, l, h1, h2, rfl⟩ := keyNs_cons h
    rw [pys, keyN_py x k h1, keyNs_py xs l h2]; rfl
end
mutual
theorem nk_eqv : ∀ a b : NestedKey, PyData.eqv a.data b.data = NestedKey.beq a b
  | .none, .none => rfl
  | .num a, .num b => by show PyData.eqv (.int a) (.int b) = _; rw [PyData.eqv, NestedKey.beq, Bool.beq_eq_decide_eq]
  | .text a, .text b => by show PyData.eqv (.str a) (.str b) = _; rw [PyData.eqv, NestedKey.beq, Bool.beq_eq_decide_eq]
  | .tup a, .tup b => by show PyData.eqv (.tuple _) (.tuple _) = _; rw [PyData.eqv, NestedKey.beq, nks_eqv]
  | .none, .num _ => rfl
  | .none, .text _ => rfl
  | .none, .tup _ => rfl
  | .num _, .none => rfl
  | .num _, .text _ => rfl
  | .num _, .tup _ => rfl
  | .text _, .none => rfl
  | .text _, .num _ => rfl
  | .text _, .tup _ => rfl
  | .tup _, .none => rfl
  | .tup _, .num _ => rfl
  | .tup _, .text _ => rfl
theorem nks_eqv : ∀ a b : List NestedKey, PyData.eqvAll (NestedKey.datas a) (NestedKey.datas b) = NestedKey.beqAll a b
  | [], [] => by rw [NestedKey.datas, PyData.eqvAll, NestedKey.beqAll]
  | [], b :: bs => by rw [NestedKey.datas, NestedKey.datas, PyData.eqvAll, NestedKey.beqAll]
  | a :: as, [] => by rw [NestedKey.datas, NestedKey.datas, PyData.eqvAll, NestedKey.beqAll]
  | a :: as, b :: bs => by rw [NestedKey.datas, NestedKey.datas, PyData.eqvAll, NestedKey.beqAll, nk_eqv, nks_eqv]
end
theorem keyN_eqv {d e : D} {a b : NestedKey} (h1 : keyN d = some a) (h2 : keyN e = some b) : D.eqv d e = decide (a = b) := by
  unfold D.eqv
  rw [keyN_py d a h1, keyN_py e b h2, nk_eqv, NestedKey.decide_eq]
section
variable {X : Cx} {pins : List (Addr × Obj)} {s : Shared} {σ : St} {G : Wd} {H : Hp}
mutual
theorem nested_of (I : Inv X pins σ H s) (l : Lh G H) : ∀ {v : V} {d : D} {k : NestedKey} {u : Value}, Dq X.K G v d → keyN d = some k → RelV v u → NestedIs s.heap k u
  | _, _, _, _, .non, h, r => by cases h; rw [show _ = Value.none from r]; exact .none
  | _, _, _, _, .int i, h, r => by
    cases h
    obtain ⟨t, rfl⟩ := (show ∃ t, _ = Value.int i t from r)
    exact .int i t
  | _, _, _, _, .str x, h, r => by
    cases h
    obtain ⟨t, rfl⟩ := (show ∃ t, _ = Value.str x t from r)
    exact .text x t
  | _, _, _, _, .tup (a := a) (xs := xs) h1 t, h, r => by
    obtain ⟨ks, h2, rfl⟩ := keyN_tup h
    rw [show _ = Value.ref a from r]
    obtain ⟨its, rv, ⟨o, e1, e2, n, e3⟩, _⟩ := I.tuple (sqT_sub h1.sq l.sub)
    exact .tup e1 e2 e3 (by simpa using nesteds_of I l t h2 rv)
  | _, _, _, _, .bl b, h, r => by cases h
  | _, _, _, _, .lst h1 t, h, r => by cases h
  | _, _, _, _, .dic h1 t, h, r => by cases h
  | _, _, _, _, .loc h1, h, r => by cases h
theorem nesteds_of (I : Inv X pins σ H s) (l : Lh G H) : ∀ {vs : List V} {ds : List D} {ks : List NestedKey} {us : List Value}, DqAll X.K G vs ds → keyNs ds = some ks → Vals vs us → NestedAll s.heap ks us
  | _, _, _, _, .nil, h, .nil => by cases h; exact .nil
  | _, _, _, _, .cons h1 t, h, .cons r rs => by
    obtain ⟨k, l', e1, e2, rfl⟩ := keyNs_cons h
    exact .cons (nested_of I l h1 e1 r) (nesteds_of I l t e2 rs)
end
end
end Mi
set_option Elab.async false
set_option linter.all false
set_option maxRecDepth 100000
set_option maxHeartbeats 4000000
namespace Mi
open PySem L2
inductive TdE : List (V × V) → List (D × D) → List (NestedKey × Addr × Value) → Prop
  | nil : TdE [] [] []
  | cons {a : Addr} {v : V} {k d : D} {n : NestedKey} {u : Value} {es : List (V × V)} {kvs : List (D × D)} {xs : List (NestedKey × Addr × Value)} : tkey k = some n → RelV v u → TdE es kvs xs → TdE ((.ref a, v) :: es) ((k, d) :: kvs) ((n, a, u) :: xs)
def TdH (P : Program) (w : World) (a : Addr) (xs : List (NestedKey × Addr × Value)) : HO := .ext fun h => ∃ ob es ep, h.get? a = some ob ∧ ob.ExactDict ∧ ob.data = .dict es ep ∧ es.toList = xs.map (entryOfKey (nestedKind P w))
def tdO (P : Program) (w : World) : Addr → List (V × V) → List (D × D) → HO → Prop := fun a es kvs o => (a == sysModules) = false ∧ ∃ xs, TdE es kvs xs ∧ xs.length ≤ sizeLine ∧ (xs.map (·.1)).Nodup ∧ o = TdH P w a xs
theorem TdE.len : ∀ {es : List (V × V)} {kvs : List (D × D)} {xs : List (NestedKey × Addr × Value)}, TdE es kvs xs → xs.length = kvs.length
  | _, _, _, .nil => rfl
  | _, _, _, .cons _ _ t => by simp [t.len]
theorem TdE.at_ {n : NestedKey} {k0 : D} (h0 : tkey k0 = some n) {K : Fg} {G : Wd} : ∀ {es : List (V × V)} {kvs : List (D × D)} {xs : List (NestedKey × Addr × Value)}, TdE es kvs xs → DqKT K G es kvs →
    (atKey xs n = none ∧ valAt kvs k0 = none) ∨ ∃ b u v d, atKey xs n = some (b, u) ∧ valAt kvs k0 = some d ∧ RelV v u ∧ Dq K G v d
  | _, _, _, .nil, _ => .inl ⟨rfl, rfl⟩
  | _, _, _, .cons (a := a) (v := v) (k := k) (d := d) (n := n') (u := u) h r t, .cons q1 q2 q3 => by
    have eq : D.eqv k k0 = decide (n' = n) := keyN_eqv (tkey_ok h).1 (tkey_ok h0).1
    by_cases z : n' = n
    · refine .inr ⟨a, u, v, d, ?_, ?_, r, q2⟩
      · unfold atKey; rw [List.find?_cons]; simp [z]
      · unfold valAt; rw [List.find?_cons, eq]; simp [z]
    · have e1 : ∀ l : List (NestedKey × Addr × Value), atKey ((n', a, u) :: l) n = atKey l n := fun l => by
        unfold atKey; rw [List.find?_cons]; simp [z]
      have e2 : ∀ l : List (D × D), valAt ((k, d) :: l) k0 = valAt l k0 := fun l => by
        unfold valAt; rw [List.find?_cons, eq]; simp [z]
      rw [e1, e2]
      exact t.at_ h0 q3
section
variable {X : Cx} {pins : List (Addr × Obj)} {s : Shared} {σ : St} {G : Wd} {H : Hp}
theorem TdE.is (I : Inv X pins σ H s) (l : Lh G H) : ∀ {es : List (V × V)} {kvs : List (D × D)} {xs : List (NestedKey × Addr × Value)}, TdE es kvs xs → DqKT X.K G es kvs → ∀ x ∈ xs, (nestedKind X.prog X.w).is s.heap x.1 x.2.1
  | _, _, _, .nil, _, x, h => by cases h
  | _, _, _, .cons h r t, .cons q1 q2 q3, x, hx => by
    rcases List.mem_cons.mp hx with e | e
    · subst e
      obtain ⟨k1, k2, _⟩ := tkey_ok h
      exact ⟨nested_of I l q1 k1 rfl, k2⟩
    · exact TdE.is I l t q3 x e
theorem td_dict (I : Inv X pins σ H s) (l : Lh G H) {a : Addr} {es : List (V × V)} {kvs : List (D × D)} {xs : List (NestedKey × Addr × Value)} (e : H a = some (TdH X.prog X.w a xs)) (t : TdE es kvs xs) (q : DqKT X.K G es kvs) (nd : (xs.map (·.1)).Nodup) : s.heap.DictOfH (nestedKind X.prog X.w) a xs := by
  obtain ⟨⟨ob, ents, ep, h1, h2, h3, h4⟩, _⟩ := I.hok a _ e
  exact ⟨ob, ents, ep, h1, h2, h3, h4, t.is I l q, nd⟩
end
section
variable {X : Cx} {T : Tb} {c : Gh} {W : WX} {a b e o value : Expr} {es : List Expr} {f f1 f2 fo fv fk : MM D} {g : MM (List D)} {pos pos' p apos : Pos}
def rTIn (X : Cx) (neg : Bool) : R2 := fun x y H Q => ∃ (a b : Addr) (G : Wd) (es : List (V × V)) (kvs : List (D × D)) (h : HO) (k : D), x = .ref b ∧ y = .ref a ∧ Lh G H ∧ H a = some h ∧ tdO X.prog X.w a es kvs h ∧ DqKT X.K G es kvs ∧ Dq X.K G (.ref b) k ∧ (tkey k).isSome = true ∧ Q (.bl (if neg = true then !hasKey k kvs else hasKey k kvs)) H
theorem td_in {pins : List (Addr × Obj)} {s : Shared} {σ : St} {H : Hp} {G : Wd} {a b : Addr} {es : List (V × V)} {kvs : List (D × D)} {h : HO} {k : D} {R : Value → Shared → Prop} (hu : X.A.units + 9 < cLine) (I : Inv X pins σ H s) (l : Lh G H) (ha : H a = some h) (t : tdO X.prog X.w a es kvs h) (q : DqKT X.K G es kvs) (dk : Dq X.K G (.ref b) k) (hk : (tkey k).isSome = true)
    (r : ∀ t', R (.bool (hasKey k kvs)) { s with toks := t' }) : wpAny (model X.prog X.w) X.A (compareOp .In (.ref b) (.ref a)) R X.xe s := by
  obtain ⟨n, hn⟩ := Option.isSome_iff_exists.mp hk
  obtain ⟨hs, xs, te, hl, nd, rfl⟩ := t
  obtain ⟨k1, k2, _⟩ := tkey_ok hn
  refine wpAny_in_heap (knd := nestedKind X.prog X.w) (k := n) (show X.A.in1.units + 8 < cLine by show X.A.units + 1 + 8 < cLine; omega) ⟨nested_of I l dk k1 rfl, k2⟩ hs (td_dict I l ha te q nd) ?_
  have e : (atKey xs n).isSome = hasKey k kvs := by
    rw [← valAt_has]
    rcases te.at_ hn q with ⟨e1, e2⟩ | ⟨_, _, _, _, e1, e2, _⟩
    · rw [e1, e2]; rfl
    · rw [e1, e2]; rfl
  rw [e]
  exact r _
theorem op_tin (hu : X.A.units + 9 < cLine) : OpR X (compareOp .In) (rTIn X false) := by
  intro pins s σ H x y v u Q I rx ry h
  obtain ⟨a, b, G, es, kvs, h, k, rfl, rfl, l, ha, t, q, dk, hk, hq⟩ := h
  cases rx
  cases ry
  exact td_in hu I l ha t q dk hk fun t' => ⟨.bl _, H, I.tok t', rfl, hq⟩
theorem op_tnotin (hu : X.A.units + 9 < cLine) : OpR X (compareOp .NotIn) (rTIn X true) := by
  intro pins s σ H x y v u Q I rx ry h
  obtain ⟨a, b, G, es, kvs, h, k, rfl, rfl, l, ha, t, q, dk, hk, hq⟩ := h
  cases rx
  cases ry
  have h0 := td_in (R := fun v s' => ∃ t', v = .bool (hasKey k kvs) ∧ s' = { s with toks := t' }) hu I l ha t q dk hk fun t' => ⟨t', rfl, rfl⟩
  have h1 : wpAny (model X.prog X.w) X.A (contains (.ref a) (.ref b)) (fun r s' => ∃ t', r = hasKey k kvs ∧ s' = { s with toks := t' }) X.xe s := by
    have h0 : wpAny (model X.prog X.w) X.A (do return Value.bool (← contains (.ref a) (.ref b))) _ X.xe s := h0
    intro Γ p hΓ
    have h0 := h0 Γ p hΓ
    simp only [Sem.wp_bind', Sem.wp_pure'] at h0
    exact Sem.wp_mono _ Γ _ (fun r p1 s1 ⟨t', e1, e2⟩ => ⟨t', by injection e1, e2⟩) (fun _ _ _ h => h) _ _ h0
  show wpAny _ _ (do return Value.bool !(← contains (.ref a) (.ref b))) _ _ s
  exact wpAny_bind (wpAny_mono h1 (fun r s' ⟨t', e1, e2⟩ => wpAny_pure (by subst e1 e2; exact ⟨.bl _, H, I.tok t', rfl, hq⟩)) fun _ _ h => h)
def rTIx (X : Cx) : R2 := fun x y H Q => ∃ (a b : Addr) (G : Wd) (es : List (V × V)) (kvs : List (D × D)) (h : HO) (k : D) (d : D), x = .ref a ∧ y = .ref b ∧ Lh G H ∧ H a = some h ∧ tdO X.prog X.w a es kvs h ∧ DqKT X.K G es kvs ∧ Dq X.K G (.ref b) k ∧ (tkey k).isSome = true ∧ valAt kvs k = some d ∧ ∀ v, Dq X.K G v d → Q v H
theorem ix_td (hu : X.A.units + 9 < cLine) : IxR X (rTIx X) := by
  intro value slice pins s σ H x y v u Q I rx ry h hs
  obtain ⟨a, b, G, es, kvs, h, k, d, rfl, rfl, l, ha, t, q, dk, hk, hv, hq⟩ := h
  cases rx
  cases ry
  obtain ⟨n, hn⟩ := Option.isSome_iff_exists.mp hk
  obtain ⟨hsm, xs, te, hl, nd, rfl⟩ := t
  obtain ⟨k1, k2, _⟩ := tkey_ok hn
  have dd := td_dict I l ha te q nd
  have hT : s.TypeIs (.ref a) "dict" := dd.typeIs
  have h2 : wpAny (model X.prog X.w) X.A (getItem (.ref a) (.ref b)) (EP X pins σ Q) X.xe s := by
    rcases te.at_ hn q with ⟨e1, e2⟩ | ⟨c', u', v', d', e1, e2, rv, dv⟩
    · rw [hv] at e2; cases e2
    · rw [hv] at e2
      cases e2
      exact wpAny_getItem_heap (knd := nestedKind X.prog X.w) (k := n) (p := (c', u')) (show X.A.in1.units + 8 < cLine by show X.A.units + 1 + 8 < cLine; omega) ⟨nested_of I l dk k1 rfl, k2⟩ dd e1 ⟨v', H, I.tok _, rv, hq v' dv⟩
  unfold PyProof.Rows.subscriptTail
  refine wpAny_bind ?_
  rw [getitemInPython_of_ne hT.not_modules]
  refine wpAny_bind (wpAny_specialOf hT PySem.F.slot_dict_getitem.lookup ?_)
  have fin : wpAny (model X.prog X.w) X.A (subscripted slice false (.ref a) (.ref b)) (fun r s₃ => wpAny (model X.prog X.w) X.A (letTemporaryGo value (.ref a) r >>= fun _ => pure r) (EP X pins σ Q) X.xe s₃) X.xe s := by
    rw [hs]
    exact wpAny_operating (wpAny_mono h2 (fun r s₃ h₃ => wpAny_bind (wpAny_letTemporaryGo (wpAny_pure h₃))) fun _ _ x => x)
  first
    | exact wpAny_pure (wpAny_bind fin)
    | exact wpAny_bind (wpAny_pure (wpAny_bind fin))
    | exact wpAny_bind fin
theorem TdE.put {n : NestedKey} {k0 d0 : D} {v0 : V} {u0 : Value} {K : Fg} {G : Wd} (h0 : tkey k0 = some n) (r0 : RelV v0 u0) (q0 : Dq K G v0 d0) : ∀ {es : List (V × V)} {kvs : List (D × D)} {xs : List (NestedKey × Addr × Value)}, TdE es kvs xs → DqKT K G es kvs →
    ∃ es', TdE es' (kvs.map fun kv => if D.eqv kv.1 k0 = true then (kv.1, d0) else kv) (xs.map (putAt n u0)) ∧ DqKT K G es' (kvs.map fun kv => if D.eqv kv.1 k0 = true then (kv.1, d0) else kv)
  | _, _, _, .nil, _ => ⟨[], .nil, .nil⟩
  | _, _, _, .cons (a := a) (v := v) (k := k) (d := d) (n := n') (u := u) h r t, .cons q1 q2 q3 => by
    obtain ⟨es', t1, t2⟩ := TdE.put h0 r0 q0 t q3
    have eq : D.eqv k k0 = decide (n' = n) := keyN_eqv (tkey_ok h).1 (tkey_ok h0).1
    simp only [List.map_cons, eq, putAt]
    by_cases z : n' = n
    · simp only [z, decide_true, if_true]
      exact ⟨(.ref a, v0) :: es', .cons (by rw [h, z]) r0 t1, .cons q1 q0 t2⟩
    · simp only [z, decide_false, if_false, Bool.false_eq_true]
      exact ⟨(.ref a, v) :: es', .cons h r t1, .cons q1 q2 t2⟩
theorem TdE.app {n : NestedKey} {k0 d0 : D} {v0 : V} {u0 : Value} {b : Addr} {K : Fg} {G : Wd} (h0 : tkey k0 = some n) (r0 : RelV v0 u0) (qb : Dq K G (.ref b) k0) (q0 : Dq K G v0 d0) : ∀ {es : List (V × V)} {kvs : List (D × D)} {xs : List (NestedKey × Addr × Value)}, TdE es kvs xs → DqKT K G es kvs →
    TdE (es ++ [(.ref b, v0)]) (kvs ++ [(k0, d0)]) (xs ++ [(n, b, u0)]) ∧ DqKT K G (es ++ [(.ref b, v0)]) (kvs ++ [(k0, d0)])
  | _, _, _, .nil, _ => ⟨.cons h0 r0 .nil, .cons qb q0 .nil⟩
  | _, _, _, .cons h r t, .cons q1 q2 q3 => by
    obtain ⟨t1, t2⟩ := TdE.app h0 r0 qb q0 t q3
    exact ⟨.cons h r t1, .cons q1 q2 t2⟩
end
end Mi
set_option Elab.async false
set_option linter.all false
set_option maxRecDepth 100000
set_option maxHeartbeats 4000000
namespace Mi
open PySem L2
section
variable {X : Cx} {T : Tb} {c : Gh} {W : WX} {a b e o value : Expr} {es : List Expr} {f f1 f2 fo fv fk : MM D} {g : MM (List D)} {pos pos' p apos : Pos}
def Op2M (X : Cx) (T : Tb) (c : Gh) (W : WX) (f : Value → Value → Sem Value) (g : D → D → MM D) : Prop :=
  ∃ r : R2, OpR X f r ∧ ∀ σ ρ G H x y d e (Q : VK), J X.K T c G H σ ρ → Dq X.K G x d → Dq X.K G y e → pX X.K T c W (relD X.K) σ G Q (g d e ρ) → r x y H Q
def op2M (g : D → D → MM D) (f1 f2 : MM D) : MM D := MM.bind f1 fun x => MM.bind f2 fun y => g x y
theorem op2M_to {r : R2} {g : D → D → MM D} (k : ∀ σ ρ G H x y d e (Q : VK), J X.K T c G H σ ρ → Dq X.K G x d → Dq X.K G y e → pX X.K T c W (relD X.K) σ G Q (g d e ρ) → r x y H Q)
    (σ : St) (H : Hp) (Q : VK) (h : mE X.K T c W (op2M g f1 f2) σ H Q) : tOp r (mE X.K T c W f1) (mE X.K T c W f2) σ H Q := by
  obtain ⟨G, ρ, j, p⟩ := h
  refine pX_bind j p fun x v ρ1 G1 H1 l1 j1 r1 p1 => ?_
  refine pX_bind j1 p1 fun y w ρ2 G2 H2 l2 j2 r2 p2 => ?_
  exact k σ ρ2 G2 H2 v w x y Q j2 (r1.le l2) r2 p2
def opTM (g : D → D → MM D) (f1 f2 : MM D) : MM Bool := MM.bind (op2M g f1 f2) fun x => lift (toB x)
theorem mt_cmpM {op : CmpOp} {g : D → D → MM D} (ho : Op2M X T c W (compareOp op) g) (ha : PE X a (mE X.K T c W f1)) (hb : PE X b (mE X.K T c W f2)) (hm : behindInMarks op b = false) : PT X (.Compare a [op] [b] pos) (mT X.K T c W (opTM g f1 f2)) := by
  obtain ⟨r, h, k⟩ := ho
  refine pt_mono (pt_cmpR h ha hb hm) fun σ H Q ⟨G, ρ, j, p⟩ => ?_
  refine op2M_to k σ H _ (pX_bind j p fun x v ρ1 G1 H1 l1 j1 r1 p1 => ?_)
  cases r1 with
  | bl b => exact ⟨b, rfl, p1.here j1 rfl⟩
  | _ => exact p1.elim
/-- the pairs of a dict's cell, whose keys are ints and texts -/
def dicOf : Cell → Option (List (D × D))
  | .dic kvs => some kvs
  | .dlk kvs => some kvs
  | _ => none
theorem dicOf_at {K : Fg} {G : Wd} {H : Hp} {a : Addr} {u : Cell} {kvs : List (D × D)} (h : dicOf u = some kvs) (ct : CellAt K T G H a u) : ∃ es, Rd H a (.dK es) ∧ DqKV K G es kvs := by
  cases ct with
  | dic h1 h2 => cases h; exact ⟨_, .inl h1, h2⟩
  | dlk h1 h2 => cases h; exact ⟨_, .inr ⟨_, h1⟩, h2⟩
  | _ => cases h
/-- k in d -/
def inC (u : Cell) (k : D) : Option Bool := match dicOf u with
  | some kvs => (match keyOf k with
    | some _ => some (hasKey k kvs)
    | none => none)
  | none => (match u with
    | .tdc kvs => if (tkey k).isSome = true then some (hasKey k kvs) else none
    | _ => none)
def inM (neg : Bool) (x y : D) : MM D := fun ρ => match cellAt ρ y with
  | some (_, u) => (match inC u x with
    | some b => .ok (.bool (if neg = true then !b else b)) ρ
    | none => .stuck)
  | none => lift (if neg = true then dNotIn x y else dIn x y) ρ
theorem inM_to {neg : Bool} (hT : T.td = tdO X.prog X.w) {σ : St} {ρ : MSt} {G : Wd} {H : Hp} {x y : V} {d e : D} {Q : VK} (j : J X.K T c G H σ ρ) (dx : Dq X.K G x d) (dy : Dq X.K G y e) (p : pX X.K T c W (relD X.K) σ G Q (inM neg d e ρ)) :
    rDIn neg x y H Q ∨ rTIn X neg x y H Q ∨ pX X.K T c W (relD X.K) σ G Q (lift (if neg = true then dNotIn d e else dIn d e) ρ) := by
  unfold inM at p
  split at p
  · rename_i n u hc
    obtain ⟨a, b', μ, rfl, rfl, hm, hs, hu, ga, ct⟩ := j.cell dy hc
    cases z : inC u d with
    | none => rw [z] at p; exact p.elim
    | some q =>
      rw [z] at p
      unfold inC at z
      cases hd : dicOf u with
      | some kvs =>
        rw [hd] at z
        obtain ⟨es, h1, h2⟩ := dicOf_at hd ct
        cases hk : keyOf d with
        | none => simp only [hk] at z; cases z
        | some k =>
          simp only [hk] at z
          cases z
          have ek := keyOf_keyD hk
          subst ek
          have ev := dq_key dx
          subst ev
          refine .inl ⟨a, _, rfl, .inl ⟨_, k, h1, rfl, rfl⟩, ?_⟩
          rw [dqkv_has h2]
          exact p.here j (.bl _)
      | none =>
        rw [hd] at z
        cases ct with
        | @tdc es' kvs' ho t c1 c2 c3 h1 h2 =>
          have z : (if (tkey d).isSome = true then some (hasKey d kvs') else none) = some q := z
          by_cases hk : (tkey d).isSome = true
          · rw [if_pos hk] at z
            cases z
            obtain ⟨nk, hn⟩ := Option.isSome_iff_exists.mp hk
            obtain ⟨_, _, xs, rfl⟩ := tkey_ok hn
            rw [hT] at t
            cases dx with
            | @tup ba _ _ q1 q2 => exact .inr (.inl ⟨a, ba, G, _, _, _, _, rfl, rfl, j.sub, h1, t, h2, .tup q1 q2, hk, p.here j (.bl _)⟩)
          · rw [if_neg hk] at z; cases z
        | dic h1 h2 => cases hd
        | dlk h1 h2 => cases hd
        | _ => cases z
  · exact .inr (.inr p)
theorem o_inM (hu : X.A.units + 9 < cLine) (hT : T.td = tdO X.prog X.w) : Op2M X T c W (compareOp .In) (inM false) := by
  obtain ⟨r, h, k⟩ := o_in (X := X) (T := T) (c := c) (W := W) (by omega)
  refine ⟨_, (op_din (by omega)).or ((op_tin hu).or h), fun σ ρ G H x y d e Q j dx dy p => ?_⟩
  rcases inM_to hT j dx dy p with q | q | q
  · exact .inl q
  · exact .inr (.inl q)
  · exact .inr (.inr (k σ ρ G H x y d e Q j dx dy q))
theorem o_notInM (hu : X.A.units + 9 < cLine) (hT : T.td = tdO X.prog X.w) : Op2M X T c W (compareOp .NotIn) (inM true) := by
  obtain ⟨r, h, k⟩ := o_notIn (X := X) (T := T) (c := c) (W := W) (by omega)
  refine ⟨_, (op_dnotin (by omega)).or ((op_tnotin hu).or h), fun σ ρ G H x y d e Q j dx dy p => ?_⟩
  rcases inM_to hT j dx dy p with q | q | q
  · exact .inl q
  · exact .inr (.inl q)
  · exact .inr (.inr (k σ ρ G H x y d e Q j dx dy q))
/-- d[k] -/
def ixC (u : Cell) (k : D) : Option D := match dicOf u with
  | some kvs => (match keyOf k with
    | some _ => valAt kvs k
    | none => none)
  | none => (match u with
    | .tdc kvs => if (tkey k).isSome = true then valAt kvs k else none
    | .lst xs => (match k with
      | .int i => atI xs i
      | _ => none)
    | _ => none)
def ixM (x y : D) : MM D := fun ρ => match cellAt ρ x with
  | some (_, u) => (match ixC u y with
    | some d => .ok d ρ
    | none => .stuck)
  | none => lift (dIx x y) ρ
theorem IxR.or {r r' : R2} (h : IxR X r) (h' : IxR X r') : IxR X (fun x y H Q => r x y H Q ∨ r' x y H Q) := by
  intro value slice pins s σ H x y v u Q I rx ry q hs
  rcases q with q | q
  · exact h value slice pins s σ H x y v u Q I rx ry q hs
  · exact h' value slice pins s σ H x y v u Q I rx ry q hs
theorem ix_read {σ : St} {ρ : MSt} {G : Wd} {H : Hp} {x y : V} {d e : D} {Q : VK} (j : J X.K T c G H σ ρ) (dx : Dq X.K G x d) (dy : Dq X.K G y e) (p : pX X.K T c W (relD X.K) σ G Q (lift (dIx d e) ρ)) :
    rIxL X.K x y H Q ∨ rIxT X.K x y H Q ∨ (∃ a v, x = .ref a ∧ DGet H a y (some v) ∧ Q v H) := by
  cases dx with
  | lst h1 h2 =>
    cases dy with
    | int i =>
      rename_i ds
      have p2 : pX X.K T c W (relD X.K) σ G Q (lift (match atI ds i with | some d => Res.ok d | none => .stuck) ρ) := p
      cases z : atI ds i with
      | none => rw [z] at p2; exact p2.elim
      | some q =>
        rw [z] at p2
        obtain ⟨v, q1, q2⟩ := dq_at h2 z
        exact .inl ⟨_, _, i, v, rfl, rfl, sqL_sub (.inl h1) j.subH, q1, p2.here j q2⟩
    | _ => exact p.elim
  | tup h1 h2 =>
    cases dy with
    | int i =>
      rename_i ds
      have p2 : pX X.K T c W (relD X.K) σ G Q (lift (match atI ds i with | some d => Res.ok d | none => .stuck) ρ) := p
      cases z : atI ds i with
      | none => rw [z] at p2; exact p2.elim
      | some q =>
        rw [z] at p2
        obtain ⟨v, q1, q2⟩ := dq_at h2 z
        exact .inr (.inl ⟨_, _, i, v, rfl, rfl, sqT_sub h1.sq j.subH, q1, p2.here j q2⟩)
    | _ => exact p.elim
  | dic h1 h2 =>
    rename_i ad kvs ds
    have p2 : pX X.K T c W (relD X.K) σ G Q (lift (match keyOf e with | some _ => (match valAt ds e with | some d => Res.ok d | none => .stuck) | none => .stuck) ρ) := by
      cases e <;> exact p
    cases hk : keyOf e with
    | none => rw [hk] at p2; exact p2.elim
    | some k =>
      rw [hk] at p2
      have ee := keyOf_keyD hk
      subst ee
      have ev := dq_key dy
      subst ev
      rcases dqkv_val (k := k) h2 with ⟨q1, q2⟩ | ⟨v, d, q1, q2, q3⟩
      · simp only [q2] at p2; exact p2.elim
      · simp only [q2] at p2
        exact .inr (.inr ⟨_, v, rfl, .inl ⟨_, k, j.subH.rd _ _ (fun _ _ z => by cases z) h1.rd, rfl, q1.symm⟩, p2.here j q3⟩)
  | _ => exact p.elim
theorem me_ixM (hu : X.A.units + 9 < cLine) (hT : T.td = tdO X.prog X.w) (ha : PE X a (mE X.K T c W f1)) (hb : PE X b (mE X.K T c W f2)) (hs : PlainIx b) : PE X (.Subscript a b pos) (mE X.K T c W (op2M ixM f1 f2)) := by
  refine pe_mono (pe_ix ((ix_list.or (ix_tup.or (ix_d (by omega)))).or (ix_td hu)) ha hb hs) (op2M_to fun σ ρ G H x y d e Q j dx dy p => ?_)
  unfold ixM at p
  split at p
  · rename_i n u hc
    obtain ⟨a, b', μ, rfl, rfl, hm, hst, hu', ga, ct⟩ := j.cell dx hc
    cases z : ixC u e with
    | none => rw [z] at p; exact p.elim
    | some q =>
      rw [z] at p
      unfold ixC at z
      cases hd : dicOf u with
      | some kvs =>
        rw [hd] at z
        obtain ⟨es, h1, h2⟩ := dicOf_at hd ct
        cases hk : keyOf e with
        | none => simp only [hk] at z; cases z
        | some k =>
          simp only [hk] at z
          have ek := keyOf_keyD hk
          subst ek
          have ev := dq_key dy
          subst ev
          rcases dqkv_val (k := k) h2 with ⟨q1, q2⟩ | ⟨v, d, q1, q2, q3⟩
          · rw [q2] at z; cases z
          · rw [q2] at z
            cases z
            exact .inl (.inr (.inr ⟨_, v, rfl, .inl ⟨_, k, h1, rfl, q1.symm⟩, p.here j q3⟩))
      | none =>
        rw [hd] at z
        cases ct with
        | @tdc es' kvs' ho t c1 c2 c3 h1 h2 =>
          have z : (if (tkey e).isSome = true then valAt kvs' e else none) = some q := z
          by_cases hk : (tkey e).isSome = true
          · rw [if_pos hk] at z
            obtain ⟨nk, hn⟩ := Option.isSome_iff_exists.mp hk
            obtain ⟨_, _, xs, rfl⟩ := tkey_ok hn
            rw [hT] at t
            cases dy with
            | @tup ba _ _ q1 q2 => exact .inr ⟨a, ba, G, _, _, _, _, q, rfl, rfl, j.sub, h1, t, h2, .tup q1 q2, hk, z, fun v dv => p.here j dv⟩
          · rw [if_neg hk] at z; cases z
        | dic h1 h2 => cases hd
        | dlk h1 h2 => cases hd
        | @lst vs xs h1 h2 =>
          cases dy with
          | int i =>
            have z : atI xs i = some q := z
            obtain ⟨v, q1, q2⟩ := dq_at h2 z
            exact .inl (.inl ⟨_, _, i, v, rfl, rfl, SqL.of h1, q1, p.here j q2⟩)
          | _ => cases z
        | _ => cases z
  · exact .inl (ix_read j dx dy p)
def putK (v d k : D) : MM Fl := fun ρ => match stoOf ρ, cellAt ρ d with
  | some (true, μ), some (n, .dic kvs) => (match keyOf k with
    | some _ => if kvs.length < sizeLine then .ok .nx (setSto ρ (μ.set n (.dic (putD kvs k v)))) else .stuck
    | none => .stuck)
  | _, _ => .stuck
def dputS (fv fd fk : MM D) : MM Fl := MM.bind fv fun v => MM.bind fd fun d => MM.bind fk fun k => Mi.putK v d k
theorem ms_dput {i : Expr} (hu : X.A.units + 1 < cLine) (ho : PE X o (mE X.K T c W fo)) (hi : PE X i (mE X.K T c W fk)) (hv : PE X value (mE X.K T c W fv)) (hs : swapsWith value (some (.Subscript o i pos')) pos.line X.env = pure false := by rfl) : PS X (.Assign [.Subscript o i pos'] value pos) (mS X.K T c W (dputS fv fo fk)) := by
  refine ps_mono (ps_dput hu ho hi hv hs) fun Dn σ H ⟨G, ρ, j, p⟩ => ?_
  refine pS_bind j p fun v x ρ1 G1 H1 l1 j1 r1 p1 => ?_
  refine pS_bind j1 p1 fun d y ρ2 G2 H2 l2 j2 r2 p2 => ?_
  refine pS_bind j2 p2 fun k z ρ3 G3 H3 l3 j3 r3 p3 => ?_
  unfold Mi.putK at p3
  split at p3
  · rename_i μ0 n kvs hs0 hc
    obtain ⟨a, b, μ, rfl, rfl, hm, hs, hu, ga, ct⟩ := j3.cell (r2.le l3) hc
    rw [hs] at hs0
    cases hs0
    cases hk : keyOf k with
    | none => simp only [hk] at p3; exact p3.elim
    | some key =>
      simp only [hk] at p3
      by_cases hz : kvs.length < sizeLine
      · rw [if_pos hz] at p3
        cases ct with
        | @dic es _ h1 h2 =>
          have ek := keyOf_keyD hk
          subst ek
          have ev := dq_key r3
          subst ev
          exact ⟨a, _, rfl, DPut.k h1 (by rw [h2.length]; exact hz), p3 σ G3 _ (Le.refl G3) (j3.upCell hs hm hu (.dic upd_same (h2.put ((r1.le l2).le l3))))⟩
      · rw [if_neg hz] at p3; exact p3.elim
  · exact p3.elim
def newC (u : Cell) : MM D := fun ρ => match stoOf ρ with
  | some (true, μ) => .ok (.loc μ.length) (setSto ρ (μ ++ [u]))
  | _ => .stuck
theorem J.madeC {K : Fg} {G : Wd} {H H' : Hp} {σ : St} {ρ : MSt} {q : Addr} {u : Cell} {Q : VK} {μ : Sto} (j : J K T c G H σ ρ) (hs : stoOf ρ = some (true, μ)) (p : pX K T c W (relD K) σ G Q (.ok (.loc μ.length) (setSto ρ (μ ++ [u])))) (hq : H q = none) (up : ∀ b o, H b = some o → H' b = some o) (hc : CellAt K T (wgrow G q) H' q u) (hl : u.isLk = false := by rfl) : Q (.ref q) H' :=
  p _ (wgrow G q) H' (Le.wgrow G q) (j.newCell hs hq up hc hl) (.loc (by rw [← (j.stoOk hs).len]; exact wgrow_at))
theorem up_new {H : Hp} {q : Addr} {o : HO} (hq : H q = none) : ∀ b u, H b = some u → upd H q o b = some u := fun b u e => by rw [upd_ne (ne_of_none e hq)]; exact e
theorem me_newDic : PE X (.Dict [] [] pos) (mE X.K T c W (newC (.dic []))) := by
  refine pe_mono pe_dnewK fun σ H Q ⟨G, ρ, j, p⟩ => fun q hq => ?_
  unfold newC at p
  split at p
  · rename_i μ hs; exact j.madeC hs p hq (up_new hq) (.dic upd_same .nil)
  · exact p.elim
def newLst (g : MM (List D)) : MM D := MM.bind g fun xs => if small xs.length = true then newC (.lst xs) else stuck
theorem me_newLst (h : PA X es (mA X.K T c W g)) : PE X (.List es pos) (mE X.K T c W (newLst g)) := by
  refine pe_mono (pe_lst h) fun σ H Q ⟨G, ρ, j, p⟩ => ?_
  refine pX_bind j p fun x v ρ1 G1 H1 l1 j1 r1 p1 => ?_
  split at p1
  · rename_i hz
    refine ⟨by rw [r1.length]; exact of_decide_eq_true hz, fun q hq => ?_⟩
    unfold newC at p1
    split at p1
    · rename_i μ hs; exact j1.madeC hs p1 hq (up_new hq) (.lst upd_same (r1.le (Le.wgrow G1 q)))
    · exact p1.elim
  · exact p1.elim
end
end Mi
set_option Elab.async false
set_option linter.all false
set_option maxRecDepth 100000
set_option maxHeartbeats 4000000
namespace Mi
open PySem L2
theorem hu9 {k : Nat} {A : Around} (r : Room k A) : A.units + 9 < cLine := by have := r.units; omega
/-- a method of a class of the program -/
structure DefM (K : Fg) (C m qual : Str) (st : Stmt) (ps : List Str) where
  f : Addr
  fd : FuncData
  F : Fun K m qual st f fd
  e : f = He.fAd K (C, some m)
  b : Binds K fd ps []
end Mi
set_option Elab.async false
set_option linter.all false
set_option maxRecDepth 100000
set_option maxHeartbeats 4000000
namespace PySem
open Sem (wp)
open AutoSeq1 (wpAny_loadPart')
theorem mi_enumerate_newT (l : Addr) (items : Array Value) (n : Nat) (dct : Option Addr) (sl : Array (Option Value)) :
    Meets (Builtin.«enumerate.__new__» ⟨[.type "enumerate", .ref l], []⟩) (fun _ R s => s.heap.get? l = some { cls := .type "tuple", dict := dct, data := .seq items n, slots := sl } ∧
      R (.ok (.ret (.ref (s.heap.push { cls := .type "tuple_iterator", data := .fields #[.ref l, .int 0 0] }).objs.size)))
        { s with heap := (s.heap.push { cls := .type "tuple_iterator", data := .fields #[.ref l, .int 0 0] }).push { cls := .type "enumerate", data := .fields #[.none, .bool false, .ref s.heap.objs.size, rawInt 0, .none, .none] } }) :=
  .of_wp fun prog w A R s h => by
    obtain ⟨hp, g, d, tk, os⟩ := s; obtain ⟨hl, h⟩ := h
    have hsub := sub_enumerate
    have hL : Heap.IsTuple (Shared.heap ⟨hp, g, d, tk, os⟩) l items := ⟨_, hl, rfl, n, rfl⟩
    wp_walk using wpAny_loadPart' hl
    refine wpAny_stack_any fun st => wpAny_pure ?_
    split
    · rename_i c _ _ _ _ _
      cases (c == Value.type "enumerate")
      · wp_walk using wpAny_loadPart' hl, wpAny_pyIter_tuple hL
        exact ⟨_, rfl, h⟩
      · wp_walk using wpAny_loadPart' hl, wpAny_pyIter_tuple hL
        exact ⟨_, rfl, h⟩
    · wp_walk using wpAny_loadPart' hl, wpAny_pyIter_tuple hL
      exact ⟨_, rfl, h⟩
section
variable {prog : Program} {w : World} {A : Around} {E : Value → Shared → Prop} {s : Shared}
theorem mi_call_enumerateT {l : Addr} {items : Array Value} {Q : Value → Shared → Prop} (hL : s.heap.IsTuple l items)
    (h : ∀ h', IsEnum h' (s.heap.objs.size + 1) s.heap.objs.size 0 .none → h'.IsTupleIter s.heap.objs.size l 0 → h'.objs.size = s.heap.objs.size + 2 →
      (∀ b o, s.heap.get? b = some o → h'.get? b = some o) → Q (.ref (s.heap.objs.size + 1)) { s with heap := h' }) :
    wpAny (model prog w) A (call (.type "enumerate") [.ref l]) Q E s := by
  obtain ⟨⟨c, dct, dt, sl⟩, hl, hc, n, hd⟩ := hL
  replace hc : c = .type "tuple" := hc
  replace hd : dt = .seq items n := hd
  subst hc hd
  refine callType_new F.called_enumerate (by decide) (F.typeCall_enumerate_1 _) (F.newCall_enumerate_1 _) (fun obj => F.args_object_init_2 obj _) F.entry_enumerate_new
    (mi_enumerate_newT l items n dct sl) ⟨hl, ?_⟩
  have hz : (s.heap.push { cls := .type "tuple_iterator", data := .fields #[.ref l, .int 0 0] }).objs.size = s.heap.objs.size + 1 := Heap.size_push ..
  show _ ∧ _
  rw [hz]
  have he : IsEnum ((s.heap.push { cls := .type "tuple_iterator", data := .fields #[.ref l, .int 0 0] }).push
      { cls := .type "enumerate", data := .fields #[.none, .bool false, .ref s.heap.objs.size, rawInt 0, .none, .none] }) (s.heap.objs.size + 1) s.heap.objs.size 0 .none := by
    have := Heap.get?_push_size (s.heap.push { cls := .type "tuple_iterator", data := .fields #[.ref l, .int 0 0] })
      (o := { cls := .type "enumerate", data := .fields #[.none, .bool false, .ref s.heap.objs.size, rawInt 0, .none, .none] }) rfl
    rw [hz] at this; exact this
  refine ⟨⟨_, he, rfl⟩, h _ he ⟨_, Heap.get?_push_of_some _ (Heap.get?_push_size _ rfl), rfl, rfl⟩ (by rw [Heap.size_push, hz]) fun b o x => Heap.get?_push_of_some _ (Heap.get?_push_of_some _ x)⟩
end
end PySem
namespace Mi
open PySem PySem.Spec PyProof.Rows L2
def IteT (K : PySem.W.Frag) (a : Addr) : It :=
  ⟨fun i H => ∃ (xs : List V) (x : V), SqT K H a xs ∧ xs[i]? = some x, fun i H v H' => ∃ T x, v = .ref T ∧ H T = none ∧ H' = upd H T (.tup [.int (i : Nat), x]) ∧ ∀ xs, SqT K H a xs → xs[i]? = some x, fun i H => ∃ xs : List V, SqT K H a xs ∧ xs.length = i⟩
theorem turn_enumT {P : Program} {w : World} {K : PySem.W.Frag} {elts : List Expr} {kk : Nat} {tpos : Pos} (a e it : Addr) :
    Turn P w K (.Tuple elts kk tpos) (IteT K a) [e, it] e (fun i h => (∃ old, IsEnum h e it ((i : Nat) : Int) old) ∧ h.IsTupleIter it a i ∧ e ≠ it) where
  mem := by simp
  obj := fun i h st b hb => by
    obtain ⟨⟨old, he⟩, ⟨o, ho, hc, hd⟩, _⟩ := st
    have e' : b = e ∨ b = it := by simpa using hb
    rcases e' with z | z
    · rw [z]; exact ⟨_, he, fun v q => nomatch q⟩
    · rw [z]; exact ⟨o, ho, fun v q => by rw [hd] at q; cases q⟩
  keep := fun i h h' st k => let ⟨⟨old, he⟩, ⟨o, ho, hc, hd⟩, hne⟩ := st; ⟨⟨old, k e (by simp) _ he⟩, ⟨o, k it (by simp) o ho, hc, hd⟩, hne⟩
  item := by
    intro X hP hw hK hc i pins s σ H E I hf st hg
    subst hP hw hK
    obtain ⟨⟨old, he⟩, hit, hne⟩ := st
    obtain ⟨xs, x, hq, hx⟩ := hg
    obtain ⟨its, rv, p, hz⟩ := I.tuple hq
    obtain ⟨u, hu, ru⟩ := rv.get hx
    have hel : e < s.heap.objs.size := Heap.lt_size he
    have hil : it < s.heap.objs.size := by obtain ⟨_, q, _⟩ := hit; exact Heap.lt_size q
    have hit0 := hit
    have nai : a ≠ it := fun z => by
      obtain ⟨o1, q1, c1, _⟩ := hit0
      obtain ⟨o2, q2, c2, _⟩ := p
      rw [z, q1] at q2; cases q2
      rw [c1] at c2; injection c2 with c2; exact absurd c2 (by decide)
    have nae : e ≠ a := fun z => by
      obtain ⟨o2, q2, c2, _⟩ := p
      rw [← z, show s.heap.get? e = _ from he] at q2; cases q2
      injection c2 with c2; exact absurd c2 (by decide)
    have hlt : i < its.toArray.size := by simpa using (List.getElem?_eq_some_iff.mp hu).1
    have D := Draws.tuple (prog := X.prog) (w := X.w) (A := X.A.in1) (I.ok.hd hc) it a nai its.toArray
    refine wpAny_pyNext_enum_itemD D he ⟨hit, p⟩ hlt hne (by simp [hne, nae]) fun v h' tk pv ho hst' hT hsz hk => ?_
    have ev : v = u := by
      rw [List.getElem?_toArray] at pv
      rw [hu] at pv; cases pv; rfl
    subst ev
    obtain ⟨hit', _⟩ := hst'
    refine ⟨_, rfl, wpAny_letOwnedTupleGo_enum (s := { s with heap := h', toks := tk + 1 }) ho fun h'' he' sb => ?_⟩
    have hT2 : h''.get? s.heap.objs.size = some { cls := .type "tuple", data := .seq #[.int i tk, v] } := (sb.2 _ (Nat.ne_of_gt hel)).trans hT
    have new : ObjOk X.prog X.w (upd H s.heap.objs.size (.tup [.int (i : Nat), x])) h'' s.heap.objs.size (.tup [.int (i : Nat), x]) :=
      ⟨by show 2 ≤ sizeLine; decide, [.int i tk, v], .cons ⟨_, rfl⟩ (.cons ru .nil), ⟨_, hT2, rfl, _, rfl⟩⟩
    have I1 : Inv X pins σ (upd H s.heap.objs.size (.tup [.int (i : Nat), x])) { s with heap := h'', toks := tk + 1 } :=
      I.turnedNew (ch := [e, it]) (fun b ob hb q => (sb.2 b (fun z => hb (by simp [z]))).trans (hk b ob (fun z => hb (by simp [z])) (fun z => hb (by simp [z])) q)) hf (Nat.le_refl _) new
    obtain ⟨ot, o1, o2, o3⟩ := hit'
    refine ⟨.ref s.heap.objs.size, _, I1, rfl, ⟨_, x, rfl, I.hok.fresh (Nat.le_refl _), rfl, fun ys hy => by rw [I.tuple_inj hy hq]; exact hx⟩, ⟨⟨v, ?_⟩, ⟨ot, (sb.2 it (Ne.symm hne)).trans o1, o2, o3⟩, hne⟩, fun b hb => ?_⟩
    · have e1 : ((i + 1 : Nat) : Int) = (i : Int) + 1 := by omega
      rw [e1]; exact he'
    · have hb' : b < s.heap.objs.size := by
        have e' : b = e ∨ b = it := by simpa using hb
        rcases e' with z | z
        · rw [z]; exact hel
        · rw [z]; exact hil
      rw [upd_ne (Nat.ne_of_lt hb')]
      exact (hf b hb).1
  done := by
    intro X hP hw hK hc i pins s σ H E I hf st hg
    subst hP hw hK
    obtain ⟨⟨old, he⟩, hit, hne⟩ := st
    obtain ⟨xs, hq, hx⟩ := hg
    obtain ⟨its, rv, p, hz⟩ := I.tuple hq
    obtain ⟨f0, f1, f2, f3, f4, f5⟩ := hf it (by simp)
    have hl := rv.length
    have nai : a ≠ it := fun z => by
      obtain ⟨o1, q1, c1, _⟩ := hit
      obtain ⟨o2, q2, c2, _⟩ := p
      rw [z, q1] at q2; cases q2
      rw [c1] at c2; injection c2 with c2; exact absurd c2 (by decide)
    have D := Draws.tuple (prog := X.prog) (w := X.w) (A := X.A.in1) (I.ok.hd hc) it a nai its.toArray
    have en : its.toArray.size = i := by simp; omega
    exact wpAny_pyNext_enum_endD D he ⟨by rw [en]; exact hit, p⟩ fun h' eb => ⟨rfl, I.turned (t' := s.toks) (fun b o hb q => eb b o hb q) f0 f1 f3 f4 f5⟩
  self := fun A i s Q E st h => let ⟨⟨_, he⟩, _⟩ := st; wpAny_pyIter_enum he h
section
variable {X : Cx} {T : Tb} {c : Gh} {W : WX} {e : Expr} {p pos : Pos}
def iEnumA (K : PySem.W.Frag) (ta : TA) : TI := fun σ H R => ta σ H fun vs H1 => ∃ a xs, vs = [.ref a] ∧ ((SqL K H1 a xs ∧ R (Ite K a) H1) ∨ (SqT K H1 a xs ∧ R (IteT K a) H1))
theorem pi_enumA {ta : TA} {tpos : Pos} {elts : List Expr} {kk : Nat} (hg : Gl X "enumerate") (hm : X.mg "enumerate" = none) (ha : PA X [e] ta) (hs : starEach [e] X.env = [(false, eval e X.env)] := by rfl) :
    PI X (.Tuple elts kk tpos) (.Call (.Name "enumerate" p) [e] [] pos) (iEnumA X.K ta) := by
  refine ⟨fun pins s σ H R I h => ?_⟩
  refine Call_ (ld_blt I hg hm boot_enumerate (PyProof.Rows.callWith_type1 (thn (ha.run pos pins s σ H _ I h) fun us s1 ⟨vs, H1, I1, r1, q1⟩ => ?_) hs rfl))
  obtain ⟨a, xs, ex, q⟩ := q1
  subst ex
  cases r1 with
  | cons r rr =>
    cases rr
    cases r
    have fp : ∀ b ∈ [s1.heap.objs.size + 1, s1.heap.objs.size], FpOk X pins H1 b := fun b hb => by
      have e' : b = s1.heap.objs.size + 1 ∨ b = s1.heap.objs.size := by simpa using hb
      have hle : s1.heap.objs.size ≤ b := by
        rcases e' with z | z
        · rw [z]; exact Nat.le_add_right _ _
        · rw [z]; exact Nat.le_refl _
      exact I1.fpOk hle (I1.hok.fresh hle)
    rcases q with ⟨hq, q⟩ | ⟨hq, q⟩
    · obtain ⟨its, rv, p', hz⟩ := I1.list hq
      refine call_enumerate_list p'.isList fun h' he hit hsz hk => wpAny_pyIter_enum he ?_
      have I2 : Inv X pins σ H1 { s1 with heap := h' } := I1.kept (t' := s1.toks) hk
      exact ⟨s1.heap.objs.size + 1, [s1.heap.objs.size + 1, s1.heap.objs.size], _, _, H1, rfl, I2, turn_enum a (s1.heap.objs.size + 1) s1.heap.objs.size, ⟨⟨.none, he⟩, hit, Nat.succ_ne_self _⟩, fp, q⟩
    · obtain ⟨its, rv, p', hz⟩ := I1.tuple hq
      refine mi_call_enumerateT p' fun h' he hit hsz hk => wpAny_pyIter_enum he ?_
      have I2 : Inv X pins σ H1 { s1 with heap := h' } := I1.kept (t' := s1.toks) hk
      exact ⟨s1.heap.objs.size + 1, [s1.heap.objs.size + 1, s1.heap.objs.size], _, _, H1, rfl, I2, turn_enumT a (s1.heap.objs.size + 1) s1.heap.objs.size, ⟨⟨.none, he⟩, hit, Nat.succ_ne_self _⟩, fp, q⟩
def enumA : List D → Res (List D)
  | [.list xs] => .ok (enumD 0 xs)
  | [.tuple xs] => .ok (enumD 0 xs)
  | _ => .stuck
theorem gives_enumT {K : Fg} {c : Gh} {G : Wd} {a : Addr} {vs : List V} {ds : List D} (hq : SqT K G a vs) (hr : DqAll K G vs ds) : Gives (relY K) (IteT K a) c G (enumD 0 ds) where
  go := fun i G1 H l1 l2 _ hi => by
    rw [enumD_length, ← hr.length] at hi
    exact ⟨vs, vs[i], sqT_sub (sqT_sub hq l1.sub) l2.sub, by simp [hi]⟩
  stop := fun G1 H l1 l2 _ => ⟨vs, sqT_sub (sqT_sub hq l1.sub) l2.sub, by rw [enumD_length, ← hr.length]⟩
  yld := fun i G1 H x H' l1 l2 _ hi y => by
    obtain ⟨T, u, rfl, hn, rfl, y1⟩ := y
    obtain ⟨d1, e1, q1⟩ := hr.get (y1 vs (sqT_sub (sqT_sub hq l1.sub) l2.sub))
    have l3 : Le G1 (wupd G1 T (.tup [V.int i, u])) := Le.upd (le_none l2 hn)
    refine ⟨.tuple [.int i, d1], by simpa using enumD_get (n := 0) e1, .inr ⟨T, _, hn, (by intro _ z; cases z), rfl, .inr ⟨T, _, _, rfl, rfl, SqT.of upd_same, .cons (.int _) (.cons ((q1.le l1).le l3) .nil)⟩⟩⟩
theorem mi_enumA {g : MM (List D)} {tpos : Pos} {elts : List Expr} {kk : Nat} (hg : Gl X "enumerate") (hm : X.mg "enumerate" = none) (ha : PA X [e] (mA X.K T c W g)) (hs : starEach [e] X.env = [(false, eval e X.env)] := by rfl) :
    PI X (.Tuple elts kk tpos) (.Call (.Name "enumerate" p) [e] [] pos) (mI X.K T c W (relY X.K) (MM.bind g fun ds => lift (enumA ds))) := by
  refine ⟨fun pins s σ H R I h => (pi_enumA hg hm ha hs).run pins s σ H R I ?_⟩
  obtain ⟨G, ρ, j, p⟩ := h
  refine pX_bind j p fun ds vs ρ1 G1 H1 l1 j1 r1 p1 => ?_
  cases r1 with
  | nil => exact p1.elim
  | cons d1 r1 =>
    cases r1 with
    | cons _ _ => cases d1 <;> exact p1.elim
    | nil =>
      cases d1 with
      | lst h1 h2 => exact ⟨_, _, rfl, .inl ⟨sqL_sub (.inl h1) j1.subH, p1 _ G1 H1 (Le.refl G1) j1 (gives_enum (.inl h1) h2)⟩⟩
      | tup h1 h2 => exact ⟨_, _, rfl, .inr ⟨sqT_sub h1.sq j1.subH, p1 _ G1 H1 (Le.refl G1) j1 (gives_enumT h1.sq h2)⟩⟩
      | _ => exact p1.elim
end
end Mi
set_option Elab.async false
set_option linter.all false
set_option maxRecDepth 100000
set_option maxHeartbeats 1000000
namespace Mi
open PySem PySem.Spec PyProof.Rows L2
def mmOk (ds : List D) : Bool := alikeB ds && noDicts ds && ds.all fun d => !isNone d && decide (d.depth ≤ 60)
def minF (x : D) (xs : List D) : D := xs.foldl (fun a y => if PySem.W.dataLt y.py a.py = true then y else a) x
def maxF (x : D) (xs : List D) : D := xs.foldl (fun a y => if PySem.W.dataLt a.py y.py = true then y else a) x
end Mi
set_option Elab.async false
set_option linter.all false
set_option maxRecDepth 100000
set_option maxHeartbeats 4000000
namespace Mi
open PySem PySem.Spec PyProof.Rows L2
def borrowK (i : Nat) (f : MM D) : MM D := fun ρ => match ρ[i]? with
  | some (some (.od _)) => match f (seen (frzS i ρ)) with
    | .ok d _ => if scal d = true then .ok d ρ else .stuck
    | _ => .stuck
  | _ => .stuck
section
variable {X : Cx} {T : Tb} {c : Gh} {W : WX} {a b e : Expr} {f f1 f2 f3 : MM D} {g1 : MM Bool} {pos p : Pos}
def lputS (i : Nat) (fv fk : MM D) : MM Fl := MM.bind fv fun v => fun ρ => match ρ[i]? with
  | some (some (.ol _)) => MM.bind fk (fun k ρ' => match ρ'[i]?, k with
    | some (some (.ol xs)), .int n => if 0 ≤ n ∧ n < xs.length then .ok .nx (ρ'.set i (some (.ol (xs.set n.toNat v)))) else .stuck
    | _, _ => .stuck) ρ
  | _ => .stuck
def ifO (t : MM Bool) (f g : MM S) : MM S := MM.bind t fun b => if b = true then f else g
def idxD (ds : List D) : D → Res D
  | .int n => match toInts ds with
    | some ns => if n ∈ ns then .ok (.int (ns.idxOf n : Nat)) else .stuck
    | none => .stuck
  | _ => .stuck
def indexK (f2 : MM D) : D → MM D
  | .list ds => MM.bind f2 fun y => lift (idxD ds y)
  | _ => stuck
def indexE (f1 f2 : MM D) : MM D := MM.bind f1 (indexK f2)
def dMaxDef : List D → D → Res D
  | [.list []], d => .ok d
  | [.list (x :: xs)], _ => if mmOk (x :: xs) = true then .ok (maxF x xs) else .stuck
  | _, _ => .stuck
def maxDefE (g : MM (List D)) (f : MM D) : MM D := MM.bind g fun xs => MM.bind f fun d => lift (dMaxDef xs d)
end
end Mi
set_option Elab.async false
set_option linter.all false
set_option maxRecDepth 100000
set_option maxHeartbeats 4000000
namespace Mi
open PySem PySem.Spec PyProof.Rows L2
section
variable {X : Cx} {T : Tb} {c : Gh} {W : WX} {a b e : Expr} {f f1 f2 : MM D} {pos p : Pos}
def repOL (xs : List D) : D → Res S
  | .int k => if -(2 ^ 63) ≤ k ∧ k < 2 ^ 63 ∧ xs.length * k.toNat ≤ sizeLine then .ok (.ol (List.replicate k.toNat xs).flatten) else .stuck
  | _ => .stuck
def repO (g : MM (List D)) (f : MM D) : MM S := MM.bind g fun xs => MM.bind (lift (mkL xs)) fun _ => MM.bind f fun y => lift (repOL xs y)
theorem mo_rep {es : List Expr} {g : MM (List D)} {lp : Pos} (h : PA X es (mA X.K T c W g)) (he : PE X e (mE X.K T c W f)) : PE X (.BinOp (.List es lp) .Mult e pos) (mO X.K T c W (repO g f)) := by
  refine pe_mono (pe_op op_repL (pe_lst h) he) fun σ H Q ⟨G, ρ, j, p⟩ => ?_
  refine pO_bind j p fun x v ρ1 G1 H1 l1 j1 r1 p1 => ?_
  unfold MM.bind at p1
  unfold mkL lift at p1
  by_cases hs : small x.length = true
  · rw [if_pos hs] at p1
    simp only at p1
    refine ⟨by rw [r1.length]; exact of_decide_eq_true hs, fun q hq => ?_⟩
    have j2 := j1.grow (o := .lst v) hq
    refine pO_bind j2 (pO.le (Le.upd (j1.fresh hq)) p1) fun y w ρ2 G2 H2 l2 j3 r2 p2 => ?_
    cases r2 with
    | int k =>
      unfold repOL at p2
      simp only at p2
      by_cases hk : -(2 ^ 63) ≤ k ∧ k < 2 ^ 63 ∧ x.length * k.toNat ≤ sizeLine
      · rw [if_pos hk] at p2
        have hr : Rd H2 q (.lst v) := j3.sub.sub.rd _ _ (fun _ _ z => by cases z) (.inl (l2.h _ _ upd_same))
        exact ⟨_, _, _, rfl, rfl, hr, hk.1, hk.2.1, by rw [r1.length]; exact hk.2.2, fun q' hq' => pO.new p2 j3 hq' (((r1.le (Le.upd (j1.fresh hq))).le l2).rep _)⟩
      · rw [if_neg hk] at p2; exact p2.elim
    | _ => exact p2.elim
  · rw [if_neg hs] at p1; exact p1.elim
end
end Mi
set_option Elab.async false
set_option linter.all false
set_option maxRecDepth 100000
set_option maxHeartbeats 4000000
set_option Elab.async false
set_option linter.all false
set_option maxRecDepth 100000
set_option maxHeartbeats 4000000
namespace Mi
open PySem L2
section
variable {f f1 f2 fv fk : MM D} {fo fo1 fo2 : MM S} {g : MM (List D)} {t : MM Bool} {k i : Nat} {ρ ρ' : MSt} {d v x y : D} {xs : List D} {kvs : List (D × D)} {n : Int} {b : Bool}
theorem ol_ifF {α : Type} {o : Option (Option S)} {A : Out α} : (match o with | some (some (.ol _)) => A | _ => .stuck) = if isOl o = true then A else .stuck := by
  cases o with
  | none => rfl
  | some o => cases o with
    | none => rfl
    | some s => cases s <;> rfl
theorem od_ifF {α : Type} {o : Option (Option S)} {A : Out α} : (match o with | some (some (.od _)) => A | _ => .stuck) = if isOd o = true then A else .stuck := by
  cases o with
  | none => rfl
  | some o => cases o with
    | none => rfl
    | some s => cases s <;> rfl
def lputK2 (k : Nat) (v : D) (ρ : MSt) (o : Option (Option S)) (x : D) : Out Fl := match o, x with
  | some (some (.ol xs)), .int n => if 0 ≤ n ∧ n < xs.length then .ok .nx (ρ.set k (some (.ol (xs.set n.toNat v)))) else .stuck
  | _, _ => .stuck
def lputJ (k : Nat) (v : D) (o : Out D) : Out Fl := Out.bind o fun x ρ => lputK2 k v ρ ρ[k]? x
def lputI (k : Nat) (fk : MM D) (o : Out D) : Out Fl := Out.bind o fun v ρ => if isOl ρ[k]? = true then lputJ k v (fk ρ) else .stuck
@[simp] theorem lputS_ap : lputS k fv fk ρ = lputI k fk (fv ρ) := by
  unfold lputS lputI
  show Out.bind (fv ρ) _ = Out.bind (fv ρ) _
  congr 1
  funext v ρ
  show (match ρ[k]? with | some (some (.ol _)) => lputJ k v (fk ρ) | _ => .stuck) = _
  exact ol_ifF
@[simp] theorem lputI_ok : lputI k fk (.ok d ρ) = if isOl ρ[k]? = true then lputJ k d (fk ρ) else .stuck := rfl
@[simp] theorem lputJ_ok : lputJ k d (.ok x ρ) = lputK2 k d ρ ρ[k]? x := rfl
@[simp] theorem lputK2_ok : lputK2 k d ρ (some (some (.ol xs))) (.int n) = if 0 ≤ n ∧ n < xs.length then .ok .nx (ρ.set k (some (.ol (xs.set n.toNat d)))) else .stuck := rfl
def indexJ (f2 : MM D) (o : Out D) : Out D := Out.bind o (indexK f2)
@[simp] theorem indexE_ap : indexE f1 f2 ρ = indexJ f2 (f1 ρ) := rfl
@[simp] theorem indexJ_ok : indexJ f2 (.ok (.list xs) ρ) = Out.bind (f2 ρ) (fun y => lift (idxD xs y)) := rfl
def repJ (f : MM D) (o : Out (List D)) : Out S := Out.bind o fun xs => MM.bind (lift (mkL xs)) fun _ => MM.bind f fun y => lift (repOL xs y)
@[simp] theorem repO_ap : repO g f ρ = repJ f (g ρ) := rfl
@[simp] theorem repJ_ok : repJ f (.ok xs ρ) = if xs.length ≤ 16777216 then Out.bind (f ρ) (fun y => lift (repOL xs y)) else .stuck := by
  have e : repJ f (.ok xs ρ) = MM.bind (lift (mkL xs)) (fun _ => MM.bind f fun y => lift (repOL xs y)) ρ := rfl
  rw [e]
  unfold mkL small
  have : sizeLine = 16777216 := sizeLine_eq
  by_cases h : xs.length ≤ 16777216
  · rw [if_pos h, if_pos (decide_eq_true (by omega))]; rfl
  · rw [if_neg h, if_neg (fun z => h (by have := of_decide_eq_true z; omega))]; rfl
def ifOK (fo1 fo2 : MM S) (o : Out Bool) : Out S := Out.bind o fun b => if b = true then fo1 else fo2
@[simp] theorem ifO_ap : ifO t fo1 fo2 ρ = ifOK fo1 fo2 (t ρ) := rfl
@[simp] theorem ifOK_ok : ifOK fo1 fo2 (.ok b ρ) = if b = true then fo1 ρ else fo2 ρ := by cases b <;> rfl
def maxDefJ (f : MM D) (o : Out (List D)) : Out D := Out.bind o fun xs => MM.bind f fun d => lift (dMaxDef xs d)
@[simp] theorem maxDefE_ap : maxDefE g f ρ = maxDefJ f (g ρ) := rfl
@[simp] theorem maxDefJ_ok : maxDefJ f (.ok xs ρ) = Out.bind (f ρ) (fun d => lift (dMaxDef xs d)) := rfl
@[simp] theorem borrowK_ap : borrowK i f ρ = if isOd ρ[i]? = true then borK ρ (f (seen (frzS i ρ))) else .stuck := by
  show (match ρ[i]? with | some (some (.od _)) => borK ρ (f (seen (frzS i ρ))) | _ => .stuck) = _
  exact od_ifF
end
end Mi
set_option Elab.async false
set_option linter.all false
set_option maxRecDepth 100000
set_option maxHeartbeats 4000000
namespace Zl
open PySem PySem.W PySem.Calls PyProof.Rows PyProof.V PySem.Spec
section
variable {prog : Program} {w : World} {A : Around} {E : Value → Shared → Prop} {s : Shared} {z TI TO T i1 i2 : Addr} {fp1 fp2 : List Addr} {n1 n2 i : Nat} {P1 P2 : Nat → Value → Prop} {St1 St2 : Nat → Heap → Prop} {f : Bool} {oT : Obj}
/-- the zip: nothing handed out yet, or a tuple that is held -/
def ZS (h : Heap) (z TI TO i1 i2 S : Addr) (St1 St2 : Nat → Heap → Prop) (i : Nat) : Prop :=
  IsTupOf2 h TI (.ref i1) (.ref i2) ∧ St1 i h ∧ St2 i h ∧ ((IsZip h z TI TO .none ∧ ∃ a b, IsTupOf2 h TO a b) ∨ ∃ T f oT, IsZipHeld h z TI TO T f ∧ h.get? T = some oT ∧ T ≠ z ∧ T ≠ i1 ∧ T ≠ i2 ∧ T ≠ S)
/-- the tuples handed out -/
structure ZG (P1 P2 : Nat → Value → Prop) (lo : Addr) (h : Heap) (as : List Addr) : Prop where
  rise : as.Pairwise (· < ·)
  above : ∀ a ∈ as, lo < a
  pairs : ∀ (j : Nat) (a : Addr), as[j]? = some a → ∃ x1 x2, P1 j x1 ∧ P2 j x2 ∧ IsTupOf2 h a x1 x2
theorem ZG.there {lo : Addr} {h : Heap} {as : List Addr} (g : ZG P1 P2 lo h as) {a : Addr} (ha : a ∈ as) : a < h.objs.size := by
  obtain ⟨j, hj⟩ := List.mem_iff_getElem?.mp ha
  obtain ⟨_, _, _, _, e⟩ := g.pairs j a hj
  exact Heap.lt_size e
theorem ZS.keep {h h' : Heap} {S0 : Addr} (D1 : Draws prog w A i1 fp1 n1 P1 St1) (D2 : Draws prog w A i2 fp2 n2 P2 St2) (st : ZS h z TI TO i1 i2 S0 St1 St2 i) (hz : z ≠ S0) (hTI : TI ≠ S0) (hTO : TO ≠ S0) (h1 : S0 ∉ fp1) (h2 : S0 ∉ fp2) (k : ∀ b o, b ≠ S0 → h.get? b = some o → h'.get? b = some o) : ZS h' z TI TO i1 i2 S0 St1 St2 i := by
  obtain ⟨a, b, c, d⟩ := st
  refine ⟨k _ _ hTI a, D1.frame _ _ _ b fun x hx o e => k x o (fun q => h1 (q ▸ hx)) e, D2.frame _ _ _ c fun x hx o e => k x o (fun q => h2 (q ▸ hx)) e, ?_⟩
  rcases d with ⟨d, u, v, e⟩ | ⟨T, f, oT, d, e, r1, r2, r3, r4⟩
  · exact .inl ⟨k _ _ hz d, u, v, k _ _ hTO e⟩
  · exact .inr ⟨T, f, oT, k _ _ hz d, k _ _ r4 e, r1, r2, r3, r4⟩
variable {R : Result → Shared → Prop} {S0 : Addr} {n : Nat}
end
end Zl
set_option Elab.async false
set_option linter.all false
set_option maxRecDepth 100000
set_option maxHeartbeats 4000000
namespace Mi
open PySem PySem.Spec PyProof.Rows L2 PySem.W
section
variable {X : Cx} {T : Tb} {c : Gh} {W : WX} {a b e : Expr} {f f1 f2 : MM D} {pos p p2 pos2 : Pos} {pins : List (Addr × Obj)} {σ : St}
/-- .. and its mirror -/
def listZip : List D → Res D
  | [.tuple xs, .tuple ys] => .ok (.list (zipD xs ys))
  | _ => .stuck
def listZipE (g : MM (List D)) : MM D := MM.bind g fun ds => lift (listZip ds)
@[simp] theorem listZipE_ap {g : MM (List D)} {ρ : MSt} : listZipE g ρ = Out.bind (g ρ) (fun ds => lift (listZip ds)) := rfl
end
end Mi
set_option Elab.async false
set_option linter.all false
set_option maxRecDepth 100000
set_option maxHeartbeats 1000000
namespace Mi
open PySem L2
section
variable {X : Cx} {T : Tb} {c : Gh} {W : WX}
def sameL : Option D → D → Bool
  | some e, d => eqOk d && (eqOk e && D.eqv d e)
  | none, _ => false
def likeL (k1 k2 : List (D × D)) : Bool := decide (k1.length = k2.length) && k1.all fun p => sameL (valAt k2 p.1) p.2
def dNeL (d e : D) : Res D := match d, e with
  | .dict k1, .dict k2 => if likeL k1 k2 = true then .ok (.bool false) else .stuck
  | _, _ => .stuck
@[simp] theorem dNeL_ap {k1 k2 : List (D × D)} : dNeL (.dict k1) (.dict k2) = if likeL k1 k2 = true then .ok (.bool false) else .stuck := rfl
end
end Mi
set_option Elab.async false
set_option linter.all false
set_option maxRecDepth 100000
set_option maxHeartbeats 1000000
set_option Elab.async false
set_option linter.all false
set_option maxRecDepth 100000
set_option maxHeartbeats 1000000
namespace Mi
open PySem L2
inductive DqP (K : Fg) (G : Wd) : List (V × V) → List (D × D) → Prop
  | nil : DqP K G [] []
  | cons {x y : V} {k v : D} {ps : List (V × V)} {ds : List (D × D)} : Dq K G x k → Dq K G y v → DqP K G ps ds → DqP K G ((x, y) :: ps) ((k, v) :: ds)
abbrev relP (K : Fg) : Wd → List (V × V) → List (D × D) → Prop := fun G vs ds => DqP K G vs ds
def consP (fk fv : MM D) (g : MM (List (D × D))) : MM (List (D × D)) := MM.bind fk fun k => MM.bind fv fun v => MM.bind g fun ps => MM.pure ((k, v) :: ps)
def okKeys (ps : List (D × D)) : Bool := ps.all fun p => (keyOf p.1).isSome
theorem DqP.kvs {K : Fg} {G : Wd} : ∀ {vs : List (V × V)} {ps : List (D × D)}, DqP K G vs ps → okKeys ps = true → ∃ kvs : List (Key × V), vs = kvs.map (fun kv => (kV kv.1, kv.2)) ∧ kvs.length = ps.length ∧ DqKV K G kvs ps
  | _, _, .nil, _ => ⟨[], rfl, rfl, .nil⟩
  | _, _, .cons (k := k) (x := x) (y := y) h1 h2 t, ok => by
    simp only [okKeys, List.all_cons, Bool.and_eq_true] at ok
    obtain ⟨kvs, e, el, r⟩ := DqP.kvs t ok.2
    cases z : keyOf k with
    | none => rw [z] at ok; exact absurd ok.1 (by simp)
    | some k' =>
      have e2 := keyOf_keyD z
      subst e2
      have : x = kV k' := by
        cases k' with
        | inl i => cases h1; rfl
        | inr s => cases h1; rfl
      subst this
      exact ⟨(k', y) :: kvs, by rw [e]; rfl, by simp [el], .cons h2 r⟩
/-- the pairs of a display -/
def PPm (X : Cx) (T : Tb) (W : WX) (pos : Pos) (keys : List (Option Expr)) (values : List Expr) (g : MM (List (D × D))) : Prop :=
  ∃ trs, PPs X pos keys values trs ∧ ∀ c σ H Q, mX X.K T c W (relP X.K) g σ H Q → tPairs trs σ H Q
section
variable {X : Cx} {T : Tb} {c : Gh} {W : WX} {pos : Pos}
theorem mp_nil : PPm X T W pos [] [] (MM.pure []) := ⟨[], pps_nil, fun c σ H Q ⟨G, ρ, j, p⟩ => p [] G H (Le.refl G) j .nil⟩
theorem mp_cons {k v : Expr} {ks : List (Option Expr)} {vs : List Expr} {fk fv : MM D} {g : MM (List (D × D))} (hk : ∀ c, PE X k (mE X.K T c W fk)) (hv : ∀ c, PE X v (mE X.K T c W fv)) (hr : PPm X T W pos ks vs g) : PPm X T W pos (some k :: ks) (v :: vs) (consP fk fv g) := by
  obtain ⟨trs, h1, h2⟩ := hr
  refine ⟨(fun σ H Q => ∃ c, mE X.K T c W fk σ H Q, fun σ H Q => ∃ c, mE X.K T c W fv σ H Q) :: trs, pps_cons ⟨fun pins s σ H Q I ⟨c, q⟩ => (hk c).run pins s σ H Q I q⟩ ⟨fun pins s σ H Q I ⟨c, q⟩ => (hv c).run pins s σ H Q I q⟩ h1, fun c σ H Q ⟨G, ρ, j, p⟩ => ?_⟩
  refine ⟨c, pX_bind j p fun a x ρ1 G1 H1 l1 j1 r1 p1 => ⟨c, pX_bind j1 p1 fun b y ρ2 G2 H2 l2 j2 r2 p2 => h2 c σ H2 _ (pX_bind j2 p2 fun ps qs ρ3 G3 H3 l3 j3 r3 p3 => p3 _ G3 H3 (Le.refl G3) j3 (.cons ((r1.le l2).le l3) (r2.le l3) r3))⟩⟩
/-- what stands behind the pairs -/
theorem disp_core {keys : List (Option Expr)} {values : List Expr} {g : MM (List (D × D))} {te : TE} (h : PPm X T W pos keys values g) (hall : keys.all (·.isSome) = true) (hl : keys.length = values.length) (h0 : keys ≠ []) (h15 : keys.length ≤ 15)
    (k : ∀ σ H Q, te σ H Q → ∃ G ρ, J X.K T c G H σ ρ ∧ match g ρ with
      | .ok ps ρ' => okKeys ps = true ∧ ps.length ≤ 15 ∧ ∀ q G' H' (kvs : List (Key × V)), Le G G' → J X.K T c G' H' σ ρ' → G' q = none → H' q = some (.dK []) → (c.H0 q = none ∨ q ∈ c.M) → q ∉ owns σ ρ' → q ∉ G'.m → DqKV X.K G' kvs ps → Q (.ref q) (upd H' q (.dK (mergeK [] kvs)))
      | .exn e ρ' => ∀ cls dx G' H', Le G G' → J X.K T c G' H' σ ρ' → IsX X.K G'.hp e cls dx → W cls dx σ H'
      | .stuck => False) : PE X (.Dict keys values pos) te := by
  obtain ⟨trs, h1, h2⟩ := h
  refine pe_mono (pe_disp h1 hall hl h0 h15) fun σ H Q ht => fun q hq => ?_
  obtain ⟨G, ρ, j, p⟩ := k σ H Q ht
  have j1 : J X.K T c G (upd H q (.dK [])) σ ρ := j.aside hq
  refine h2 (here c G (upd H q (.dK [])) σ ρ) σ _ _ ⟨G, ρ, j1.here, ?_⟩
  have no : q ∉ owns σ ρ ∧ q ∉ G.m := ⟨j.notOwn hq, j.freshM hq⟩
  have nh := not_here (c := c) (H := upd H q (.dK [])) no
  have hn : (here c G (upd H q (.dK [])) σ ρ).H0 q ≠ none := by show upd H q (.dK []) q ≠ none; rw [upd_same]; exact fun z => by cases z
  cases e : g ρ with
  | stuck => rw [e] at p; exact p.elim
  | exn y ρ' => rw [e] at p; exact fun cls dx G' H' l j' => p cls dx G' H' l (j1.back j')
  | ok ps ρ' =>
    rw [e] at p
    intro vs G' H' l j2 r
    obtain ⟨kvs, ev, el, rk⟩ := r.kvs p.1
    have hq2 : H' q = some (.dK []) := j2.fr q _ upd_same nh (fun _ z => by cases z)
    have gq2 : G' q = none := j2.gn q (j.fresh hq) hn nh
    have nq := j2.apart hn nh no.2
    exact ⟨hq2, kvs, ev, by rw [el]; exact p.2.1, p.2.2 q G' H' kvs l (j1.back j2) gq2 hq2 (j.H0none hq) nq.1 nq.2 rk⟩
def dispE (g : MM (List (D × D))) : MM D := MM.bind g fun ps => if okKeys ps = true ∧ ps.length ≤ 15 then MM.pure (.dict (mergeD [] ps)) else stuck
theorem me_disp {keys : List (Option Expr)} {values : List Expr} {g : MM (List (D × D))} (h : PPm X T W pos keys values g) (hall : keys.all (·.isSome) = true) (hl : keys.length = values.length) (h0 : keys ≠ []) (h15 : keys.length ≤ 15) : PE X (.Dict keys values pos) (mE X.K T c W (dispE g)) := by
  refine pe_mono (pe_lockV (disp_core (c := c) (te := fun σ H Q => ∃ R, mE X.K T c W (dispE g) σ H R ∧ ∀ v H', LockQ R v H' → Q v H') h hall hl h0 h15 fun σ H Q ⟨R, ⟨G, ρ, j, p⟩, k⟩ => ⟨G, ρ, j, ?_⟩)) fun σ H Q q => ⟨Q, q, fun _ _ z => z⟩
  unfold dispE MM.bind at p
  cases e : g ρ with
  | stuck => rw [e] at p; exact p
  | exn y ρ' => rw [e] at p; exact p
  | ok ps ρ' =>
    rw [e] at p
    dsimp only at p
    by_cases z : okKeys ps = true ∧ ps.length ≤ 15
    · rw [if_pos z] at p
      refine ⟨z.1, z.2, fun q G' H' kvs l j' gq hq hc no nm rk => k _ _ (LockQ.new trivial fun od => ?_)⟩
      have j3 := j'.write (o' := .frz od (.dK (mergeK [] kvs))) gq hq (fun _ z => by cases z) (fun _ _ z => by cases z) hc no nm
      have j4 := j3.still gq upd_same hc no nm
      exact p _ _ _ (l.trans (Le.upd gq)) j4 (.dic ⟨_, upd_same⟩ ((DqKV.merge rk .nil).le (Le.upd gq)))
    · rw [if_neg z] at p; exact p.elim
def dispO (g : MM (List (D × D))) : MM S := MM.bind g fun ps => if okKeys ps = true ∧ ps.length ≤ 15 then MM.pure (.od (mergeD [] ps)) else stuck
theorem mo_disp {keys : List (Option Expr)} {values : List Expr} {g : MM (List (D × D))} (h : PPm X T W pos keys values g) (hall : keys.all (·.isSome) = true) (hl : keys.length = values.length) (h0 : keys ≠ []) (h15 : keys.length ≤ 15) : PE X (.Dict keys values pos) (mO X.K T c W (dispO g)) := by
  refine disp_core (c := c) h hall hl h0 h15 fun σ H Q ⟨G, ρ, j, p⟩ => ⟨G, ρ, j, ?_⟩
  unfold dispO MM.bind at p
  cases e : g ρ with
  | stuck => rw [e] at p; exact p
  | exn y ρ' => rw [e] at p; exact p
  | ok ps ρ' =>
    rw [e] at p
    dsimp only at p
    by_cases z : okKeys ps = true ∧ ps.length ≤ 15
    · rw [if_pos z] at p
      refine ⟨z.1, z.2, fun q G' H' kvs l j' gq hq hc no nm rk => ?_⟩
      have j3 := j'.write (o' := .dK (mergeK [] kvs)) gq hq (fun _ z => by cases z) (fun _ _ z => by cases z) hc no nm
      exact p q G' _ l j3 rfl ⟨q, _, rfl, gq, upd_same, DqKV.merge rk .nil⟩ hc ⟨no, nm⟩
    · rw [if_neg z] at p; exact p.elim
end
section
variable {fk fv : MM D} {g : MM (List (D × D))} {ρ : MSt}
def consPJ (k : D) (g : MM (List (D × D))) (o : Out D) : Out (List (D × D)) := Out.bind o fun v => MM.bind g fun ps => MM.pure ((k, v) :: ps)
def consPK (fv : MM D) (g : MM (List (D × D))) (o : Out D) : Out (List (D × D)) := Out.bind o fun k ρ => consPJ k g (fv ρ)
def consPL (k v : D) (o : Out (List (D × D))) : Out (List (D × D)) := Out.bind o fun ps => MM.pure ((k, v) :: ps)
@[simp] theorem consP_ap : consP fk fv g ρ = consPK fv g (fk ρ) := by
  unfold consP consPK consPJ MM.bind Out.bind
  cases fk ρ <;> rfl
@[simp] theorem consPK_ok {k : D} : consPK fv g (.ok k ρ) = consPJ k g (fv ρ) := rfl
@[simp] theorem consPJ_ok {k v : D} : consPJ k g (.ok v ρ) = consPL k v (g ρ) := rfl
@[simp] theorem consPL_ok {k v : D} {ps : List (D × D)} : consPL k v (.ok ps ρ) = .ok ((k, v) :: ps) ρ := rfl
def dispK (o : Out (List (D × D))) : Out D := Out.bind o fun ps => if okKeys ps = true ∧ ps.length ≤ 15 then MM.pure (.dict (mergeD [] ps)) else stuck
@[simp] theorem dispE_ap : dispE g ρ = dispK (g ρ) := rfl
@[simp] theorem dispK_1 {u : Str} {v : D} : dispK (.ok [(.str u, v)] ρ) = .ok (.dict [(.str u, v)]) ρ := rfl
@[simp] theorem dispK_1i {i : Int} {v : D} : dispK (.ok [(.int i, v)] ρ) = .ok (.dict [(.int i, v)]) ρ := rfl
def dispOK (o : Out (List (D × D))) : Out S := Out.bind o fun ps => if okKeys ps = true ∧ ps.length ≤ 15 then MM.pure (.od (mergeD [] ps)) else stuck
@[simp] theorem dispO_ap : dispO g ρ = dispOK (g ρ) := rfl
@[simp] theorem dispOK_1 {u : Str} {v : D} : dispOK (.ok [(.str u, v)] ρ) = .ok (.od [(.str u, v)]) ρ := rfl
end
end Mi
set_option Elab.async false
set_option linter.all false
set_option maxRecDepth 100000
set_option maxHeartbeats 1000000
namespace Mi
open PySem L2
section
variable {X : Cx} {T : Tb} {c : Gh} {W : WX} {e o : Expr} {f fo fk : MM D} {pos p apos cpos : Pos}
theorem keys_dq {K : Fg} {G : Wd} : ∀ {es : List (Key × V)} {kvs : List (D × D)}, DqKV K G es kvs → DqAll K G (es.map fun kv => kV kv.1) (keysD kvs)
  | _, _, .nil => .nil
  | _, _, .cons (k := k) h t => by
    have ih := keys_dq t
    refine DqAll.cons ?_ ih
    cases k with
    | inl i => exact .int i
    | inr s => exact .str s
def dropD (kvs : List (D × D)) (k : D) : List (D × D) := kvs.filter fun p => !D.eqv p.1 k
theorem DqKV.drop {K : Fg} {G : Wd} {k : Key} : ∀ {es : List (Key × V)} {kvs : List (D × D)}, DqKV K G es kvs → DqKV K G (dropK es k) (dropD kvs (keyD k))
  | _, _, .nil => .nil
  | _, _, .cons (k := k') h t => by
    have ih := DqKV.drop (k := k) t
    unfold dropK dropD at *
    rw [List.filter_cons, List.filter_cons]
    simp only [eqv_key]
    by_cases z : k' = k
    · rw [if_neg (by simp [z]), if_neg (by simp [z])]; exact ih
    · rw [if_pos (by simp [z]), if_pos (by simp [z])]; exact .cons h ih
def popK (d k : D) : MM D := fun ρ => match stoOf ρ, cellAt ρ d with
  | some (true, μ), some (n, .dic kvs) => (match keyOf k with
    | some _ => (match valAt kvs k with
      | some v => .ok v (setSto ρ (μ.set n (.dic (dropD kvs k))))
      | none => .stuck)
    | none => .stuck)
  | _, _ => .stuck
def isDicC (ρ : MSt) (d : D) : Bool := match cellAt ρ d with
  | some (_, .dic _) => true
  | _ => false
def popC (fo fk : MM D) : MM D := MM.bind fo fun d ρ => if isDicC ρ d = true then MM.bind fk (fun k => popK d k) ρ else .stuck
end
end Mi
set_option Elab.async false
set_option linter.all false
set_option maxRecDepth 100000
set_option maxHeartbeats 1000000
namespace Mi
open PySem L2
/-- o.m(e) on a text -/
def meth1 (g : D → D → Res D) (fo fe : MM D) : MM D := MM.bind fo fun x ρ => if isStr x = true then MM.bind fe (fun y => lift (g x y)) ρ else .stuck
def dSplit : D → D → Res D
  | .str a, .str b => if (b.length == 0) = false ∧ a.length + 2 ≤ sizeLine then .ok (.list ((Txt.split a b).map .str)) else .stuck
  | _, _ => .stuck
def dStr : List D → Res D
  | [.int i] => if i.natAbs.log2 < 1920 then .ok (.str (toString i)) else .stuck
  | _ => .stuck
def dIntS : List D → Res D
  | [.str a] => if a.length ≤ 640 then (match PySem.intText? a with | some n => .ok (.int n) | none => .stuck) else .stuck
  | _ => .stuck
theorem isStr_dq {K : Fg} {G : Wd} {v : V} {d : D} (h : Dq K G v d) (s : isStr d = true) : ∃ u, d = .str u ∧ v = .str u := by
  cases h with
  | str u => exact ⟨u, rfl, rfl⟩
  | _ => cases s
theorem dqs_strs {K : Fg} {G : Wd} : ∀ ys : List Str, DqAll K G (ys.map V.str) (ys.map D.str)
  | [] => .nil
  | y :: ys => .cons (.str y) (dqs_strs ys)
section
variable {X : Cx} {T : Tb} {c : Gh} {W : WX} {e o a b : Expr} {f fo fe f1 f2 : MM D} {pos p apos cpos : Pos}
theorem me_split (ho : PE X o (mE X.K T c W fo)) (he : PE X e (mE X.K T c W fe)) (hs : starEach [e] X.env = [(false, eval e X.env)] := by rfl) (hbase : attributeBase o "split" X.env (eval o X.env) = eval o X.env := by rfl) (hline : (apos.endLine == pos.line) = true := by rfl) : PE X (.Call (.Attribute o "split" apos) [e] [] pos) (mE X.K T c W (meth1 dSplit fo fe)) := by
  refine pe_mono (pe_split ho he hs hbase hline) fun σ H Q ⟨G, ρ, j, p⟩ => ?_
  refine pX_bind j p fun x v ρ1 G1 H1 l1 j1 r1 p1 => ?_
  split at p1
  · rename_i hx
    obtain ⟨u, rfl, rfl⟩ := isStr_dq r1 hx
    refine ⟨⟨u, rfl⟩, pX_bind j1 p1 fun y w ρ2 G2 H2 l2 j2 r2 p2 => ?_⟩
    cases r2 with
    | str b =>
      have p3 : pX X.K T c W (relD X.K) σ G2 Q (lift (if (b.length == 0) = false ∧ u.length + 2 ≤ sizeLine then .ok (.list ((Txt.split u b).map .str)) else .stuck) ρ2) := p2
      by_cases z : (b.length == 0) = false ∧ u.length + 2 ≤ sizeLine
      · rw [if_pos z] at p3
        exact ⟨u, b, rfl, rfl, z.1, z.2, fun q hq => p3 _ _ _ (Le.upd (j2.fresh hq)) (j2.grow hq) (.lst (.inl upd_same) (dqs_strs _))⟩
      · rw [if_neg z] at p3; exact p3.elim
    | _ => exact p2.elim
  · exact p1.elim
theorem b_str : Fn1 X T c W (.type "str") dStr := Fn1.mk call_str_int (fun G H xs ds q Q l dq hq k => by
  cases dq with
  | nil => exact nomatch hq
  | cons d r =>
    cases r with
    | cons _ _ => cases d <;> exact nomatch hq
    | nil =>
      cases d with
      | int i =>
        have hq : (if i.natAbs.log2 < 1920 then Res.ok (D.str (toString i)) else .stuck) = .ok q := hq
        obtain ⟨z, e⟩ := ite_res hq
        subst e
        exact ⟨i, rfl, z, k.1 _ (.str _)⟩
      | _ => exact nomatch hq) fun ds y z => by
  unfold dStr at z
  split at z
  · split at z <;> exact nomatch z
  · exact nomatch z
theorem b_intS : Fn1 X T c W (.type "int") dIntS := Fn1.mk call_int_str (fun G H xs ds q Q l dq hq k => by
  cases dq with
  | nil => exact nomatch hq
  | cons d r =>
    cases r with
    | cons _ _ => cases d <;> exact nomatch hq
    | nil =>
      cases d with
      | str u =>
        have hq : (if u.length ≤ 640 then (match PySem.intText? u with | some n => Res.ok (D.int n) | none => .stuck) else .stuck) = .ok q := hq
        by_cases z : u.length ≤ 640
        · rw [if_pos z] at hq
          cases e : PySem.intText? u with
          | none => rw [e] at hq; exact nomatch hq
          | some n => rw [e] at hq; cases hq; exact ⟨u, n, rfl, e, z, k.1 _ (.int _)⟩
        · rw [if_neg z] at hq; exact nomatch hq
      | _ => exact nomatch hq) fun ds y z => by
  unfold dIntS at z
  split at z
  · split at z
    · split at z <;> exact nomatch z
    · exact nomatch z
  · exact nomatch z
def fmtD : D → Res D
  | .str y => if y.length ≤ sizeLine then .ok (.str y) else .stuck
  | .int i => if i.natAbs.log2 < 1920 then .ok (.str (toString i)) else .stuck
  | _ => .stuck
def fmtE (f : MM D) : MM D := MM.bind f fun x => lift (fmtD x)
def jsC (acc : Str) : D → Res Str
  | .str y => if (acc ++ y).length ≤ sizeLine then .ok (acc ++ y) else .stuck
  | _ => .stuck
def jsE : List (MM D) → Str → MM Str
  | [], acc => MM.pure acc
  | f :: fs, acc => MM.bind f fun x => MM.bind (lift (jsC acc x)) fun out => jsE fs out
def joinedE (fs : List (MM D)) : MM D := MM.bind (jsE fs Str.empty) fun out => MM.pure (.str out)
end
section
variable {f fo fe : MM D} {g : D → D → Res D} {ρ : MSt}
def methJ (g : D → D → Res D) (x : D) (o : Out D) : Out D := Out.bind o fun y => lift (g x y)
def methK (g : D → D → Res D) (fe : MM D) (o : Out D) : Out D := Out.bind o fun x ρ => if isStr x = true then methJ g x (fe ρ) else .stuck
@[simp] theorem meth1_ap : meth1 g fo fe ρ = methK g fe (fo ρ) := by
  unfold meth1 methK methJ MM.bind Out.bind
  cases fo ρ <;> rfl
@[simp] theorem methK_ok {u : Str} : methK g fe (.ok (.str u) ρ) = methJ g (.str u) (fe ρ) := rfl
@[simp] theorem methJ_ok {x y : D} : methJ g x (.ok y ρ) = lift (g x y) ρ := rfl
def fmtK (o : Out D) : Out D := Out.bind o fun x => lift (fmtD x)
@[simp] theorem fmtE_ap : fmtE f ρ = fmtK (f ρ) := rfl
@[simp] theorem fmtK_ok {x : D} : fmtK (.ok x ρ) = lift (fmtD x) ρ := rfl
def joinedK (o : Out Str) : Out D := Out.bind o fun out => MM.pure (.str out)
@[simp] theorem joinedE_ap {fs : List (MM D)} : joinedE fs ρ = joinedK (jsE fs Str.empty ρ) := rfl
@[simp] theorem joinedK_ok {u : Str} : joinedK (.ok u ρ) = .ok (.str u) ρ := rfl
@[simp] theorem jsE_nil {acc : Str} : jsE [] acc ρ = .ok acc ρ := rfl
def jsK (fs : List (MM D)) (acc : Str) (o : Out D) : Out Str := Out.bind o fun x => MM.bind (lift (jsC acc x)) fun out => jsE fs out
@[simp] theorem jsE_cons {fs : List (MM D)} {acc : Str} : jsE (f :: fs) acc ρ = jsK fs acc (f ρ) := rfl
end
end Mi
set_option Elab.async false
set_option linter.all false
set_option maxRecDepth 100000
set_option maxHeartbeats 4000000
set_option Elab.async false
set_option linter.all false
set_option maxHeartbeats 1000000
set_option Elab.async false
set_option linter.all false
set_option maxRecDepth 100000
set_option maxHeartbeats 1000000
set_option Elab.async false
set_option linter.all false
set_option maxRecDepth 100000
set_option maxHeartbeats 1000000
set_option Elab.async false
set_option linter.all false
set_option maxRecDepth 100000
set_option maxHeartbeats 1000000
set_option Elab.async false
set_option linter.all false
set_option maxRecDepth 100000
set_option maxHeartbeats 1000000
set_option Elab.async false
set_option linter.all false
set_option maxRecDepth 100000
set_option maxHeartbeats 1000000
set_option Elab.async false
set_option linter.all false
set_option maxRecDepth 100000
set_option maxHeartbeats 1000000
namespace Mi
open PySem L2
theorem setSto_at {ρ : MSt} {μ : Sto} {i : Nat} {s : S} (h : (setSto ρ μ)[i]? = some (some s)) (ns : s.isSto = false) : ρ[i]? = some (some s) := by
  unfold setSto at h
  by_cases z : i = ρ.length - 1
  · subst z
    by_cases y : ρ.length - 1 < ρ.length
    · rw [List.getElem?_set_self y] at h; cases h; cases ns
    · rw [List.getElem?_eq_none (by simpa using y)] at h; cases h
  · rw [List.getElem?_set_ne (Ne.symm z)] at h; exact h
theorem setSto_sto {ρ : MSt} {μ ν : Sto} {i : Nat} {b : Bool} (hi : i + 1 = ρ.length) (h : (setSto ρ μ)[i]? = some (some (.sto b ν))) : b = true ∧ ν = μ := by
  unfold setSto at h
  have e : ρ.length - 1 = i := by omega
  rw [e, List.getElem?_set_self (by omega)] at h
  cases h; exact ⟨rfl, rfl⟩
theorem setSto_owns {σ : St} {ρ : MSt} {μ : Sto} {a : Addr} (h : a ∈ owns σ (setSto ρ μ)) : a ∈ owns σ ρ := by
  obtain ⟨i, s, e1, e2, e3⟩ := mem_owns.mp h
  exact mem_owns.mpr ⟨i, s, setSto_at e1 (S.own_sto e2), e2, e3⟩
section
variable {K : Fg} {T : Tb} {c : Gh} {G G' : Wd} {H H' : Hp} {σ : St} {ρ : MSt}
def ghL (c : Gh) (G : Wd) (H : Hp) (σ : St) (ρ : MSt) (μ : Sto) (n : Nat) (kvs : List (D × D)) (a : Addr) : Gh := ⟨H, G, owns σ ρ ++ free G.m (μ.set n (.dlk kvs)), c.da, c.al, a :: c.lk⟩
theorem free_set {ms : List Addr} {μ : Sto} {n : Nat} {kvs : List (D × D)} {a : Addr} (h : a ∈ free ms (μ.set n (.dlk kvs))) : a ∈ free ms μ ∧ ms[n]? ≠ some a ∨ ∃ k, k ≠ n ∧ ms[k]? = some a ∧ a ∈ free ms μ := by
  obtain ⟨k, u, e1, e2, e3⟩ := mem_free.mp h
  by_cases z : k = n
  · subst z
    have hk : k < μ.length := by have := (List.getElem?_eq_some_iff.mp e2).1; simpa using this
    rw [List.getElem?_set_self hk] at e2; cases e2; cases e3
  · rw [List.getElem?_set_ne (Ne.symm z)] at e2
    exact .inr ⟨k, z, e1, mem_free.mpr ⟨k, u, e1, e2, e3⟩⟩
theorem J.ghL_here (j : J K T c G H σ ρ) {μ : Sto} (hs : stoOf ρ = some (true, μ)) {n : Nat} {kvs : List (D × D)} {a b : Addr} {H2 : Hp} (m : b ∈ (Mi.ghL c G H2 σ ρ μ n kvs a).M) : b ∈ (Mi.here c G H σ ρ).M := by
  rcases List.mem_append.mp m with m | m
  · exact List.mem_append_left _ m
  · refine List.mem_append_right _ ?_
    rw [j.sto hs]
    rcases free_set m with ⟨z, _⟩ | ⟨_, _, _, z⟩ <;> exact z
theorem J.lockC (j : J K T c G H σ ρ) {n : Nat} {μ : Sto} {kvs : List (D × D)} (hs : stoOf ρ = some (true, μ)) (hu : μ[n]? = some (.dic kvs)) :
    ∃ a es, G.m[n]? = some a ∧ G a = none ∧ H a = some (.dK es) ∧ (c.H0 a = none ∨ a ∈ c.M) ∧ a ∉ c.lk ∧ DqKV K G es kvs ∧ ∀ od, J K T (ghL c G (upd H a (.frz od (.dK es))) σ ρ μ n kvs a) G (upd H a (.frz od (.dK es))) σ (setSto ρ (μ.set n (.dlk kvs))) := by
  obtain ⟨so, pm⟩ := j.st true μ (j.sto hs)
  have hn : n < μ.length := (List.getElem?_eq_some_iff.mp hu).1
  have hm0 : ∃ a, G.m[n]? = some a := ⟨_, List.getElem?_eq_getElem (by rw [so.len]; exact hn)⟩
  obtain ⟨a, hm⟩ := hm0
  obtain ⟨ga, ct⟩ := so.at_ n a _ hm hu
  cases ct with
  | @dic es _ hh hr =>
  have nlk : a ∉ c.lk := fun z => by have := (pm.lk n a _ hm hu).mpr z; cases this
  have am : a ∈ G.m := List.mem_of_getElem? hm
  have nown : a ∉ owns σ ρ := j.mj.ow a am
  refine ⟨a, es, hm, ga, hh, pm.fr rfl n a _ hm hu rfl, nlk, hr, fun od => ?_⟩
  have ne : ∀ b o, H b = some o → o ≠ .dK es → b ≠ a := fun b o e z y => by rw [y, hh] at e; exact z (Option.some.inj e).symm
  have nfree : a ∉ free G.m (μ.set n (.dlk kvs)) := fun m => by
    obtain ⟨k, u, e1, e2, e3⟩ := mem_free.mp m
    have : k = n := (List.getElem?_inj (List.getElem?_eq_some_iff.mp e1).1 so.nd).mp (e1.trans hm.symm)
    subst this
    rw [List.getElem?_set_self hn] at e2; cases e2; cases e3
  refine ⟨fun b o e => ?_, Le.refl G, fun _ e _ _ => e, fun _ _ e _ _ => e, fun _ ps e => ⟨ps, e⟩, by unfold setSto; rw [List.length_set]; exact j.len, fun i s e ns => ?_, fun i s b e o e2 => ?_, fun i k s t b b' e1 e2 o1 o2 f1 f2 n => ?_, fun p hp => ?_, j.nt, fun b ν e => ?_, ⟨fun b m => ?_, fun b m q => j.mj.ow b m (setSto_owns q), fun b m => .inl m, fun _ => rfl, fun b hb => ?_⟩⟩
  · rw [upd_ne (ne_of_none e ga)]; exact j.sub b o e
  · have e := setSto_at e ns
    obtain ⟨v, e1, r⟩ := j.sl i s e ns
    refine ⟨v, e1, ?_⟩
    have keep : ∀ {b : Addr} {o : HO}, s.own = true → v = .ref b → H b = some o → upd H a (.frz od (.dK es)) b = some o := fun {b o} ow ev hb => by
      subst ev
      rw [upd_ne (show b ≠ a from fun z => nown (by rw [← z]; exact mem_owns.mpr ⟨i, s, e, ow, e1⟩))]; exact hb
    cases s with
    | d x => exact r
    | ol xs => obtain ⟨b, vs, e2, g, hb, r⟩ := r; exact ⟨b, vs, e2, g, keep rfl e2 hb, r⟩
    | od xs => obtain ⟨b, vs, e2, g, hb, r⟩ := r; exact ⟨b, vs, e2, g, keep rfl e2 hb, r⟩
    | dc xs => obtain ⟨e0, b, vs, e2, g, hb, r⟩ := r; exact ⟨e0, b, vs, e2, g, keep rfl e2 hb, r⟩
    | sto b μ => cases ns
  · have e := setSto_at e (S.own_sto o)
    exact .inr (List.mem_append_left _ (mem_owns.mpr ⟨i, s, e, o, e2⟩))
  · exact j.ap i k s t b b' (setSto_at e1 (S.own_sto o1)) (setSto_at e2 (S.own_sto o2)) o1 o2 f1 f2 n
  · obtain ⟨ps, q1, q2, q3⟩ := j.tb p hp
    refine ⟨ps, by rw [upd_ne (ne _ _ q1 (fun z => by cases z))]; exact q1, q2, fun pos cv hcv => ?_⟩
    obtain ⟨x, x1, x2⟩ := q3 pos cv hcv
    exact ⟨x, x1, by rw [upd_ne (ne _ _ x2 (fun z => by unfold LamX.CodeO at z; cases z))]; exact x2⟩
  · obtain ⟨rfl, rfl⟩ := setSto_sto (by have := j.len; omega) e
    refine ⟨sto_set so hm hu (.dlk upd_same hr), fun _ => pm.al rfl, fun _ k b u e1 e2 e3 => .inr (List.mem_append_right _ (mem_free.mpr ⟨k, u, e1, e2, e3⟩)), fun k b u e1 e2 => ?_⟩
    show u.isLk = true ↔ b ∈ a :: c.lk
    by_cases z : k = n
    · subst z
      rw [List.getElem?_set_self hn] at e2; cases e2
      rw [hm] at e1; cases e1
      simp [Cell.isLk]
    · rw [List.getElem?_set_ne (Ne.symm z)] at e2
      have nb : b ≠ a := fun y => by
        subst y
        exact z ((List.getElem?_inj (List.getElem?_eq_some_iff.mp e1).1 so.nd).mp (e1.trans hm.symm))
      rw [List.mem_cons]
      exact (pm.lk k b u e1 e2).trans ⟨.inr, fun y => y.resolve_left nb⟩
  · by_cases y : b = a
    · subst y; exact ⟨_, upd_same⟩
    · obtain ⟨o, q⟩ := j.mj.hr b m
      exact ⟨o, by rw [upd_ne y]; exact q⟩
  · rcases List.mem_cons.mp hb with y | y
    · subst y
      exact ⟨fun m => (List.mem_append.mp m).elim nown nfree, od, es, upd_same⟩
    · obtain ⟨q1, o, ks, q2⟩ := j.hereFz y
      exact ⟨fun m => q1 (j.ghL_here hs m), o, ks, by show upd H a _ b = _; rw [upd_ne (ne _ _ q2 (fun z => by cases z))]; exact q2⟩
theorem J.unlockC (j : J K T c G H σ ρ) {n : Nat} {μ μ2 : Sto} {kvs kvs2 : List (D × D)} {a : Addr} {es : List (Key × V)} {od : Obj} {G2 : Wd} {H2 : Hp} {σ2 : St} {ρ2 : MSt} (hs : stoOf ρ = some (true, μ)) (hu : μ[n]? = some (.dic kvs)) (hm : G.m[n]? = some a) (ga : G a = none) (hh : H a = some (.dK es)) (pa : c.H0 a = none ∨ a ∈ c.M) (nlk : a ∉ c.lk)
    (j2 : J K T (ghL c G (upd H a (.frz od (.dK es))) σ ρ μ n kvs a) G2 H2 σ2 ρ2) (hs2 : stoOf ρ2 = some (true, μ2)) (hu2 : μ2[n]? = some (.dlk kvs2)) :
    H2 a = some (.frz od (.dK es)) ∧ J K T c G2 (upd H2 a (.dK es)) σ2 (setSto ρ2 (μ2.set n (.dic kvs2))) := by
  obtain ⟨so, pm⟩ := j.st true μ (j.sto hs)
  obtain ⟨so2, pm2⟩ := j2.st true μ2 (j2.sto hs2)
  have hn2 : n < μ2.length := (List.getElem?_eq_some_iff.mp hu2).1
  have h2 : H2 a = some (.frz od (.dK es)) := j2.frm a List.mem_cons_self _ upd_same
  have hm2 : G2.m[n]? = some a := j2.g0.loc hm
  have am2 : a ∈ G2.m := List.mem_of_getElem? hm2
  obtain ⟨ga2, ct2⟩ := so2.at_ n a _ hm2 hu2
  have hr2 : DqKV K G2 es kvs2 := by
    cases ct2 with
    | dlk e1 e2 => rw [h2] at e1; cases e1; exact e2
  have own : ∀ b, b ∈ (ghL c G (upd H a (.frz od (.dK es))) σ ρ μ n kvs a).M → c.H0 b = none ∨ b ∈ c.M := fun b m => j.hereM (j.ghL_here hs m)
  have per : ∀ b, upd H a (.frz od (.dK es)) b = none ∨ b ∈ (ghL c G (upd H a (.frz od (.dK es))) σ ρ μ n kvs a).M → c.H0 b = none ∨ b ∈ c.M := fun b z => by
    rcases z with z | z
    · by_cases y : b = a
      · subst y; exact pa
      · rw [upd_ne y] at z; exact j.H0none z
    · exact own b z
  have no2 : a ∉ owns σ2 ρ2 := j2.mj.ow a am2
  have ne : ∀ b o, H2 b = some o → o ≠ .frz od (.dK es) → b ≠ a := fun b o e z y => by rw [y, h2] at e; exact z (Option.some.inj e).symm
  have neH : ∀ b o, H b = some o → o ≠ .dK es → b ≠ a := fun b o e z y => by rw [y, hh] at e; exact z (Option.some.inj e).symm
  refine ⟨h2, fun b o e => ?_, j.g0.trans j2.g0, fun b g0 h0 m => ?_, fun b o e m t => ?_, fun b ps e => ?_, by unfold setSto; rw [List.length_set]; exact j2.len, fun i s e ns => ?_, fun i s b e o e2 => ?_, fun i k s t b b' e1 e2 o1 o2 f1 f2 n => ?_, fun p hp => ?_, j2.nt, fun b ν e => ?_, ⟨fun b m => ?_, fun b m q => j2.mj.ow b m (setSto_owns q), fun b m => ?_, fun z => (j2.mj.nm z).trans (j.mj.nm z), j.mj.wf⟩⟩
  · rw [upd_ne (ne_of_none e ga2)]; exact j2.sub b o e
  · by_cases z : b = a
    · subst z; exact ga2
    · exact j2.gn b (j.gn b g0 h0 m) (fun y => by
        have y : upd H a (.frz od (.dK es)) b = none := y
        rw [upd_ne z] at y; exact (j.H0none y).elim h0 m) fun y => (own b y).elim h0 m
  · have nb : b ≠ a := fun z => by
      subst z
      rcases pa with y | y
      · rw [e] at y; cases y
      · exact m y
    rw [upd_ne nb]
    refine j2.fr b o ?_ (fun y => ?_) t
    · show upd H a _ b = _; rw [upd_ne nb]; exact j.fr b o e m t
    · rcases own b y with q | q
      · rw [e] at q; cases q
      · exact m q
  · obtain ⟨ps', q⟩ := j.ft b ps e
    have nb : b ≠ a := neH _ _ q (fun z => by cases z)
    obtain ⟨ps2, q2⟩ := j2.ft b ps' (by show upd H a _ b = _; rw [upd_ne nb]; exact q)
    exact ⟨ps2, by rw [upd_ne nb]; exact q2⟩
  · have e := setSto_at e ns
    obtain ⟨v, e1, r⟩ := j2.sl i s e ns
    refine ⟨v, e1, ?_⟩
    have keep : ∀ {b : Addr} {o : HO}, s.own = true → v = .ref b → H2 b = some o → upd H2 a (.dK es) b = some o := fun {b o} ow ev hb => by
      subst ev
      rw [upd_ne (show b ≠ a from fun z => no2 (by rw [← z]; exact mem_owns.mpr ⟨i, s, e, ow, e1⟩))]; exact hb
    cases s with
    | d x => exact r
    | ol xs => obtain ⟨b, vs, e2, g, hb, r⟩ := r; exact ⟨b, vs, e2, g, keep rfl e2 hb, r⟩
    | od xs => obtain ⟨b, vs, e2, g, hb, r⟩ := r; exact ⟨b, vs, e2, g, keep rfl e2 hb, r⟩
    | dc xs => obtain ⟨e0, b, vs, e2, g, hb, r⟩ := r; exact ⟨e0, b, vs, e2, g, keep rfl e2 hb, r⟩
    | sto b μ => cases ns
  · exact per b (j2.ow i s b (setSto_at e (S.own_sto o)) o e2)
  · exact j2.ap i k s t b b' (setSto_at e1 (S.own_sto o1)) (setSto_at e2 (S.own_sto o2)) o1 o2 f1 f2 n
  · obtain ⟨ps, q1, q2, q3⟩ := j2.tb p hp
    refine ⟨ps, by rw [upd_ne (ne _ _ q1 (fun z => by cases z))]; exact q1, q2, fun pos cv hcv => ?_⟩
    obtain ⟨x, x1, x2⟩ := q3 pos cv hcv
    exact ⟨x, x1, by rw [upd_ne (ne _ _ x2 (fun z => by unfold LamX.CodeO at z; cases z))]; exact x2⟩
  · obtain ⟨rfl, rfl⟩ := setSto_sto (by have := j2.len; omega) e
    refine ⟨sto_set so2 hm2 hu2 (.dic upd_same hr2), fun _ => pm.al rfl, fun _ k b u e1 e2 e3 => ?_, fun k b u e1 e2 => ?_⟩
    · by_cases z : k = n
      · subst z
        rw [hm2] at e1; cases e1; exact pa
      · rw [List.getElem?_set_ne (Ne.symm z)] at e2
        exact per b (pm2.fr rfl k b u e1 e2 e3)
    · by_cases z : k = n
      · subst z
        rw [List.getElem?_set_self hn2] at e2; cases e2
        rw [hm2] at e1; cases e1
        simp [Cell.isLk, nlk]
      · rw [List.getElem?_set_ne (Ne.symm z)] at e2
        have nb : b ≠ a := fun y => by
          subst y
          exact z ((List.getElem?_inj (List.getElem?_eq_some_iff.mp e1).1 so2.nd).mp (e1.trans hm2.symm))
        have q : u.isLk = true ↔ b ∈ a :: c.lk := pm2.lk k b u e1 e2
        rw [List.mem_cons] at q
        exact q.trans ⟨fun y => y.resolve_left nb, .inr⟩
  · by_cases y : b = a
    · subst y; exact ⟨_, upd_same⟩
    · obtain ⟨o, q⟩ := j2.mj.hr b m
      exact ⟨o, by rw [upd_ne y]; exact q⟩
  · rcases j2.mj.gr b m with z | z
    · exact j.mj.gr b z
    · exact .inr (per b z)
end
/-- a statement that walks over the dict's cell -/
def lockS (pk : MSt → Option Nat) (m : MM Fl) : MM Fl := fun ρ => match pk ρ, stoOf ρ with
  | some n, some (true, μ) => (match μ[n]? with
    | some (.dic kvs) => (match m (setSto ρ (μ.set n (.dlk kvs))) with
      | .ok fl ρ2 => (match stoOf ρ2 with
        | some (true, μ2) => (match μ2[n]? with
          | some (.dlk kvs2) => .ok fl (setSto ρ2 (μ2.set n (.dic kvs2)))
          | _ => .stuck)
        | _ => .stuck)
      | _ => .stuck)
    | _ => .stuck)
  | _, _ => .stuck
section
variable {X : Cx} {T : Tb} {c : Gh} {W : WX}
theorem ps_ex {X : Cx} {e : Stmt} {t : Gh → TS} (h : ∀ c, PS X e (t c)) : PS X e (fun Dn σ H => ∃ c, t c Dn σ H) := ⟨fun pins s σ H Dn I ⟨c, q⟩ => (h c).run pins s σ H Dn I q⟩
theorem ms_lock {st : Stmt} (pk : MSt → Option Nat) {m : MM Fl} (h : ∀ c, PS X st (mS X.K T c W m)) : PS X st (mS X.K T c W (lockS pk m)) := by
  refine ps_mono (ps_lock (ps_ex h)) fun Dn σ H ⟨G, ρ, j, p⟩ => ?_
  unfold lockS at p
  split at p
  · rename_i n μ hk hs
    split at p
    · rename_i kvs hu
      obtain ⟨a, es, hm, ga, hh, pa, nlk, hr, k⟩ := j.lockC hs hu
      refine ⟨a, .dK es, hh, trivial, fun od => ⟨_, G, _, k od, ?_⟩⟩
      cases z : m (setSto ρ (μ.set n (.dlk kvs))) with
      | ok fl ρ2 =>
        rw [z] at p
        dsimp only at p
        have fin : ∀ {σ2 : St} {G2 : Wd} {H2 : Hp}, J X.K T (ghL c G (upd H a (.frz od (.dK es))) σ ρ μ n kvs a) G2 H2 σ2 ρ2 → ∃ ρ3, pS X.K T c W Dn G (.ok fl ρ3) ∧ H2 a = some (.frz od (.dK es)) ∧ J X.K T c G2 (upd H2 a (.dK es)) σ2 ρ3 := fun {σ2 G2 H2} j2 => by
          split at p
          · rename_i μ2 hs2
            split at p
            · rename_i kvs2 hu2
              obtain ⟨q1, q2⟩ := j.unlockC hs hu hm ga hh pa nlk j2 hs2 hu2
              exact ⟨_, p, q1, q2⟩
            · exact p.elim
          · exact p.elim
        cases fl with
        | nx => exact fun σ2 G2 H2 l j2 => by obtain ⟨ρ3, q1, q2, q3⟩ := fin j2; exact ⟨q2, q1 σ2 G2 _ l q3⟩
        | bk => exact fun σ2 G2 H2 l j2 => by obtain ⟨ρ3, q1, q2, q3⟩ := fin j2; exact ⟨q2, q1 σ2 G2 _ l q3⟩
        | ct => exact fun σ2 G2 H2 l j2 => by obtain ⟨ρ3, q1, q2, q3⟩ := fin j2; exact ⟨q2, q1 σ2 G2 _ l q3⟩
        | rt d => exact fun v σ2 G2 H2 l j2 dv => by obtain ⟨ρ3, q1, q2, q3⟩ := fin j2; exact ⟨q2, q1 v σ2 G2 _ l q3 dv⟩
      | exn y ρ2 => rw [z] at p; exact p.elim
      | stuck => rw [z] at p; exact p.elim
    · exact p.elim
  · exact p.elim
theorem gives_cell {K : Fg} {c : Gh} {G : Wd} {a : Addr} {o : Obj} {es : List (Key × V)} {kvs : List (D × D)} (hl : a ∈ c.lk) (h0 : c.H0 a = some (.frz o (.dK es))) (hr : DqKV K G es kvs) : Gives (relD K) (Itk a o es) c G (keysD kvs) where
  go := fun i G1 H l1 l2 fm hi => ⟨fm a hl _ h0, by rw [hr.length]; simpa [keysD] using hi⟩
  stop := fun G1 H l1 l2 fm => ⟨fm a hl _ h0, by rw [hr.length]; simp [keysD]⟩
  yld := fun i G1 H x H' l1 l2 _ hi y => by
    obtain ⟨e, k, v, hk, rfl⟩ := y
    obtain ⟨d, e1, e2⟩ := (keys_dq hr).get (v := kV k) (i := i) (by rw [List.getElem?_map, hk]; rfl)
    exact ⟨d, e1, .inl ⟨e, e2.le l1⟩⟩
theorem J.lkAt {K : Fg} {T : Tb} {c : Gh} {G : Wd} {H : Hp} {σ : St} {ρ : MSt} {v : V} {d : D} {n : Nat} {kvs : List (D × D)} (j : J K T c G H σ ρ) (r : Dq K G v d) (h : cellAt ρ d = some (n, .dlk kvs)) : ∃ a o es, v = .ref a ∧ H a = some (.frz o (.dK es)) ∧ a ∈ c.lk ∧ c.H0 a = some (.frz o (.dK es)) ∧ DqKV K G es kvs := by
  obtain ⟨a, b, μ, rfl, rfl, hm, hs, hu, ga, ct⟩ := j.cell r h
  have hl := ((j.st b μ (j.sto hs)).2.lk _ _ _ hm hu).mp rfl
  obtain ⟨nM, o, es, h0⟩ := j.mj.wf a hl
  have hh := j.frm a hl _ h0
  cases ct with
  | dlk e1 e2 => rw [hh] at e1; cases e1; exact ⟨a, o, es, rfl, hh, hl, h0, e2⟩
def iterM (f : MM D) : MM (List D) := MM.bind f fun x ρ => match cellAt ρ x with
  | some (_, .dlk kvs) => .ok (keysD kvs) ρ
  | _ => lift (iterAll x) ρ
variable {e tg : Expr} {f : MM D}
theorem mi_allM (he : PE X e (mE X.K T c W f)) : PI X tg e (mI X.K T c W (relD X.K) (iterM f)) := by
  refine ⟨fun pins s σ H R I h => (pi_all (tg := tg) he).run pins s σ H R I ?_⟩
  obtain ⟨G, ρ, j, p⟩ := h
  refine pX_bind j p fun x v ρ1 G1 H1 l1 j1 r1 p1 => ?_
  split at p1
  · rename_i n kvs hc
    obtain ⟨a, o, es, rfl, hh, hl, h0, hr⟩ := j1.lkAt r1 hc
    exact .inr (.inr (.inr ⟨a, o, es, rfl, hh, p1 _ G1 H1 (Le.refl G1) j1 (gives_cell hl h0 hr)⟩))
  · cases r1 with
    | lst hq hr => exact .inl ⟨_, rfl, ⟨_, sqL_sub (.inl hq) j1.subH⟩, p1 _ G1 H1 (Le.refl G1) j1 (gives_list (.inl hq) hr)⟩
    | tup hq hr => exact .inr (.inl ⟨_, rfl, ⟨_, sqT_sub hq.sq j1.subH⟩, p1 _ G1 H1 (Le.refl G1) j1 (gives_tup hq.sq hr)⟩)
    | str z => exact .inr (.inr (.inl ⟨z, rfl, p1 _ G1 H1 (Le.refl G1) j1 gives_str⟩))
    | dic hq hr => obtain ⟨o, hq⟩ := hq; exact .inr (.inr (.inr ⟨_, o, _, rfl, j1.sub _ _ hq, p1 _ G1 H1 (Le.refl G1) j1 (gives_keys hq hr)⟩))
    | _ => exact p1.elim
end
end Mi
set_option Elab.async false
set_option linter.all false
set_option maxRecDepth 100000
set_option maxHeartbeats 1000000
namespace Mi
open PySem L2
section
variable {K : Fg} {T : Tb} {c : Gh} {G G' : Wd} {H H' : Hp} {σ : St} {ρ : MSt}
theorem J.adopt (j : J K T c G H σ ρ) {μ : Sto} (hs : stoOf ρ = some (true, μ)) {a : Addr} {u : Cell} (ga : G a = none) (h0 : c.H0 a = none ∨ a ∈ c.M) (no : a ∉ owns σ ρ) (nm : a ∉ G.m) (hc : CellAt K T (wgrow G a) H a u) (hl : u.isLk = false) : J K T c (wgrow G a) H σ (setSto ρ (μ ++ [u])) := by
  obtain ⟨so, pm⟩ := j.st true μ (j.sto hs)
  have le := Le.wgrow G a
  have nlk : a ∉ c.lk := fun z => by
    obtain ⟨q1, o, es, q2⟩ := j.mj.wf a z
    rcases h0 with y | y
    · rw [q2] at y; cases y
    · exact q1 y
  refine ⟨j.sub, j.g0.trans le, j.gn, j.fr, j.ft, by unfold setSto; rw [List.length_set]; exact j.len, fun i s e ns => ?_, fun i s b e o e2 => j.ow i s b (setSto_at e (S.own_sto o)) o e2, fun i k s t b b' e1 e2 o1 o2 f1 f2 n => j.ap i k s t b b' (setSto_at e1 (S.own_sto o1)) (setSto_at e2 (S.own_sto o2)) o1 o2 f1 f2 n, j.tb, j.nt, fun b ν e => ?_, ⟨fun b m => ?_, fun b m q => ?_, fun b m => ?_, (fun z => by rw [pm.al rfl] at z; cases z), j.mj.wf⟩⟩
  · have e := setSto_at e ns
    obtain ⟨v, e1, r⟩ := j.sl i s e ns
    refine ⟨v, e1, ?_⟩
    cases s with
    | d x => exact Dq.le r le
    | ol xs => obtain ⟨b, vs, e2, g, hb, r⟩ := r; exact ⟨b, vs, e2, g, hb, r.le le⟩
    | od xs => obtain ⟨b, vs, e2, g, hb, r⟩ := r; exact ⟨b, vs, e2, g, hb, r.le le⟩
    | dc xs => obtain ⟨e0, b, vs, e2, g, hb, r⟩ := r; exact ⟨e0, b, vs, e2, g, hb, r.le le⟩
    | sto b μ => cases ns
  · obtain ⟨rfl, rfl⟩ := setSto_sto (by have := j.len; omega) e
    have at_ : ∀ {k : Nat} {b : Addr} {v : Cell}, (wgrow G a).m[k]? = some b → (μ ++ [u])[k]? = some v → (k < μ.length ∧ G.m[k]? = some b ∧ μ[k]? = some v) ∨ (k = μ.length ∧ b = a ∧ v = u) := fun {k b v} e1 e2 => by
      unfold wgrow at e1
      by_cases z : k < μ.length
      · rw [List.getElem?_append_left (by rw [so.len]; exact z)] at e1
        rw [List.getElem?_append_left z] at e2
        exact .inl ⟨z, e1, e2⟩
      · rw [List.getElem?_append_right (by rw [so.len]; omega), so.len] at e1
        rw [List.getElem?_append_right (by omega)] at e2
        have : ∃ r, r = k - μ.length := ⟨_, rfl⟩
        obtain ⟨r, hr⟩ := this
        rw [← hr] at e1 e2
        match r, hr, e1, e2 with
        | 0, hr, e1, e2 => simp at e1 e2; exact .inr ⟨by omega, e1.symm, e2.symm⟩
        | r + 1, hr, e1, e2 => simp at e1
    refine ⟨⟨by unfold wgrow; simp [so.len], ?_, fun k b v e1 e2 => ?_⟩, fun _ => pm.al rfl, fun _ k b v e1 e2 e3 => ?_, fun k b v e1 e2 => ?_⟩
    · unfold wgrow
      rw [List.nodup_append]
      exact ⟨so.nd, by simp, fun x hx y hy => by simp at hy; subst hy; exact fun z => nm (z ▸ hx)⟩
    · rcases at_ e1 e2 with ⟨_, q1, q2⟩ | ⟨_, rfl, rfl⟩
      · obtain ⟨gb, cb⟩ := so.at_ k b v q1 q2
        exact ⟨gb, cb.keep le (fun _ _ g _ => g) fun d w e _ => e⟩
      · exact ⟨ga, hc⟩
    · rcases at_ e1 e2 with ⟨_, q1, q2⟩ | ⟨_, rfl, rfl⟩
      · exact pm.fr rfl k b v q1 q2 e3
      · exact h0
    · rcases at_ e1 e2 with ⟨_, q1, q2⟩ | ⟨_, rfl, rfl⟩
      · exact pm.lk k b v q1 q2
      · rw [hl]; exact ⟨(fun z => by cases z), fun z => absurd z nlk⟩
  · unfold wgrow at m
    rcases List.mem_append.mp m with m | m
    · exact j.mj.hr b m
    · simp at m; subst m
      obtain ⟨o, q, _⟩ := hc.here
      exact ⟨o, q⟩
  · have q := setSto_owns q
    unfold wgrow at m
    rcases List.mem_append.mp m with m | m
    · exact j.mj.ow b m q
    · simp at m; subst m; exact no q
  · unfold wgrow at m
    rcases List.mem_append.mp m with m | m
    · exact j.mj.gr b m
    · simp at m; subst m; exact .inr h0
end
def cellOf : S → Option Cell
  | .ol xs => some (.lst xs)
  | .od kvs => some (.dic kvs)
  | _ => none
theorem cellOf_at {K : Fg} {T : Tb} {G G' : Wd} {H : Hp} {da : Addr} {s : S} {a : Addr} {u : Cell} (h : cellOf s = some u) (r : RS K da G H s (.ref a)) (l : Le G G') : CellAt K T G' H a u ∧ u.isLk = false ∧ G a = none ∧ s.own = true := by
  cases s with
  | ol xs => cases h; obtain ⟨b, vs, e, g, hh, r⟩ := r; cases e; exact ⟨.lst hh (r.le l), rfl, g, rfl⟩
  | od xs => cases h; obtain ⟨b, vs, e, g, hh, r⟩ := r; cases e; exact ⟨.dic hh (r.le l), rfl, g, rfl⟩
  | _ => cases h
/-- a new object becomes a cell -/
def cellK (s : S) : MM D := fun ρ => match cellOf s, stoOf ρ with
  | some u, some (true, μ) => .ok (.loc μ.length) (setSto ρ (μ ++ [u]))
  | _, _ => .stuck
def cellE (fo : MM S) : MM D := MM.bind fo cellK
/-- an owned object becomes a cell -/
def celS (i : Nat) (ρ : MSt) : MSt := match ρ[i]?, stoOf ρ with
  | some (some s), some (true, μ) => (match cellOf s with
    | some u => (setSto ρ (μ ++ [u])).set i (some (.d (.loc μ.length)))
    | none => ρ)
  | _, _ => ρ
theorem J.celS {K : Fg} {T : Tb} {c : Gh} {G : Wd} {H : Hp} {σ : St} {ρ : MSt} (j : J K T c G H σ ρ) (i : Nat) : ∃ G', Le G G' ∧ J K T c G' H σ (celS i ρ) := by
  unfold Mi.celS
  split
  · rename_i s μ hi hs
    split
    · rename_i u hu
      have ns : s.isSto = false := by cases s <;> first | rfl | cases hu
      obtain ⟨v, e1, r⟩ := j.sl i s hi ns
      have ho : s.own = true := by cases s <;> first | rfl | cases hu
      have hv : ∃ a, v = .ref a := by
        cases s with
        | ol xs => obtain ⟨b, _, e, _⟩ := r; exact ⟨b, e⟩
        | od xs => obtain ⟨b, _, e, _⟩ := r; exact ⟨b, e⟩
        | _ => cases hu
      obtain ⟨a, rfl⟩ := hv
      obtain ⟨hc, hl, ga, _⟩ := cellOf_at (T := T) hu r (Le.wgrow G a)
      have hi' : i < ρ.length := (List.getElem?_eq_some_iff.mp hi).1
      have hil : i ≠ ρ.length - 1 := fun z => by
        have q := j.sto hs
        have : σ.length = ρ.length - 1 := by have := j.len; omega
        rw [this, ← z, hi] at q; cases q; cases ns
      have no : a ∉ owns (σ.set i none) (ρ.set i none) := fun m => by
        obtain ⟨k, t, f1, f2, f3⟩ := mem_owns.mp m
        have z : k ≠ i := fun z => by
          subst z
          rw [List.getElem?_set_self hi'] at f1; cases f1
        rw [List.getElem?_set_ne (Ne.symm z)] at f1 f3
        exact j.ap i k _ t a a hi f1 ho f2 e1 f3 (Ne.symm z) rfl
      have nm : a ∉ G.m := fun m => j.mj.ow a m (mem_owns.mpr ⟨i, _, hi, ho, e1⟩)
      have hs' : stoOf (ρ.set i none) = some (true, μ) := by
        unfold stoOf at hs ⊢
        rw [List.length_set, List.getElem?_set_ne hil]; exact hs
      have ja := (j.drop1 i).adopt hs' ga (j.ow i s a hi ho e1) no nm hc hl
      have jb := ja.set (i := i) (v := .ref a) (d := .loc μ.length) (by have := j.len; unfold setSto; simp; omega) (.loc (by rw [← (j.stoOk hs).len]; exact wgrow_at))
      rw [List.set_set, set_same_val e1] at jb
      have e : (setSto (ρ.set i none) (μ ++ [u])).set i (some (S.d (.loc μ.length))) = (setSto ρ (μ ++ [u])).set i (some (S.d (.loc μ.length))) := by
        unfold setSto
        rw [List.length_set, List.set_comm _ _ hil, List.set_set]
      rw [e] at jb
      exact ⟨_, Le.wgrow G a, jb⟩
    · exact ⟨G, Le.refl G, j⟩
  · exact ⟨G, Le.refl G, j⟩
section
variable {X : Cx} {T : Tb} {c : Gh} {W : WX} {a b e o value : Expr} {es : List Expr} {f f1 f2 fo fv fk : MM D} {g : MM (List D)} {pos pos' p apos cpos : Pos}
theorem ms_celS {sts : List Stmt} {s : MM Fl} (i : Nat) (h : PSs X sts (mS X.K T c W s)) : PSs X sts (mS X.K T c W (fun ρ => s (celS i ρ))) := by
  refine ⟨fun pins sh σ H Dn I ⟨G, ρ, j, p⟩ => ?_⟩
  obtain ⟨G', l, j'⟩ := j.celS i
  exact h.run pins sh σ H Dn I ⟨G', _, j', pS.le l p⟩
theorem me_cellE {fo : MM S} (h : PE X e (mO X.K T c W fo)) : PE X e (mE X.K T c W (cellE fo)) := by
  refine pe_mono h fun σ H Q ⟨G, ρ, j, p⟩ => ⟨G, ρ, j, ?_⟩
  unfold cellE MM.bind at p
  cases z : fo ρ with
  | exn y ρ1 => rw [z] at p; exact p
  | stuck => rw [z] at p; exact p
  | ok s ρ1 =>
    rw [z] at p
    intro D G1 H1 l1 j1 ho r h0 no
    have p : pX X.K T c W (relD X.K) σ G Q (cellK s ρ1) := p
    unfold cellK at p
    split at p
    · rename_i u μ hu hs
      obtain ⟨hc, hl, ga, _⟩ := cellOf_at (T := T) hu r (Le.wgrow G1 D)
      exact p _ _ _ (l1.trans (Le.wgrow G1 D)) (j1.adopt hs ga h0 no.1 no.2 hc hl) (.loc (by rw [← (j1.stoOk hs).len]; exact wgrow_at))
    · exact p.elim
def isLstC (ρ : MSt) (d : D) : Bool := match cellAt ρ d with
  | some (_, .lst _) => true
  | _ => false
theorem isLstC_ok {K : Fg} {G : Wd} {H : Hp} {σ : St} {ρ : MSt} {v : V} {d : D} (j : J K T c G H σ ρ) (r : Dq K G v d) (h : isLstC ρ d = true) : ∃ a xs, v = .ref a ∧ H a = some (.lst xs) := by
  unfold isLstC at h
  split at h
  · rename_i n kvs hc
    obtain ⟨a, b, μ, rfl, rfl, hm, hs, hu, ga, ct⟩ := j.cell r hc
    cases ct with
    | lst h1 h2 => exact ⟨a, _, rfl, h1⟩
  · cases h
def appCK (d v : D) : MM D := fun ρ => match stoOf ρ, cellAt ρ d with
  | some (true, μ), some (n, .lst xs) => if xs.length < sizeLine then .ok .none (setSto ρ (μ.set n (.lst (xs ++ [v])))) else .stuck
  | _, _ => .stuck
def appC (fo fv : MM D) : MM D := MM.bind fo fun d ρ => if isLstC ρ d = true then MM.bind fv (fun v => appCK d v) ρ else .stuck
theorem me_appC (ho : PE X o (mE X.K T c W fo)) (he : PE X e (mE X.K T c W fv)) (hbase : attributeBase o "append" X.env (eval o X.env) = eval o X.env := by rfl)
    (hfew : ((backTo cpos (starEach [e] X.env)).all (fun x => !x.1) && (backToKw cpos (keywordEach [] X.env)).all (fun x => x.1.isSome)
      && decide ([e].length + ([] : List Keyword).length + (if ([] : List Keyword).isEmpty then 0 else 1) < 30)) = true := by rfl)
    (hline : (apos.endLine == cpos.line) = true := by rfl) (hs : starEach [e] X.env = (false, eval e X.env) :: starEach [] X.env := by rfl) (hplain : (backTo cpos (starEach [] X.env)).any (·.1) = false := by rfl) :
    PE X (.Call (.Attribute o "append" apos) [e] [] cpos) (mE X.K T c W (appC fo fv)) := by
  refine pe_mono (pe_bm PySem.F.plainAttrs_list PySem.F.slot_list_append PySem.F.type_list_append mt_append ho (pa_cons he pa_nil hs) hbase hfew hline hs hplain) fun σ H Q ⟨G, ρ, j, p⟩ => ?_
  refine pX_bind j p fun d y ρ1 G1 H1 l1 j1 r1 p1 => ?_
  split at p1
  · rename_i hd
    obtain ⟨al, xs, rfl, ha⟩ := isLstC_ok j1 r1 hd
    refine ⟨.inl ⟨rfl, _, SqL.of ha⟩, ?_⟩
    refine pX_bind j1 p1 fun k z ρ2 G2 H2 l2 j2 r2 p2 => ?_
    unfold appCK at p2
    split at p2
    · rename_i μ0 n ys hs0 hc
      obtain ⟨a', b, μ, rfl, e', hm, hs, hu, ga, ct⟩ := j2.cell (r1.le l2) hc
      cases e'
      rw [hs] at hs0
      cases hs0
      by_cases hz : ys.length < sizeLine
      · rw [if_pos hz] at p2
        cases ct with
        | lst h1 h2 =>
          exact ⟨_, _, z, rfl, rfl, h1, by rw [h2.length]; exact hz, p2 _ G2 _ (Le.refl G2) (j2.upCell hs hm hu (.lst upd_same (h2.app (.one r2)))) .non⟩
      · rw [if_neg hz] at p2; exact p2.elim
    · exact p2.elim
  · exact p1.elim
theorem DqAll.dropLast {K : Fg} {G : Wd} {vs : List V} {ds : List D} (h : DqAll K G vs ds) : DqAll K G vs.dropLast ds.dropLast := by
  rw [List.dropLast_eq_take, List.dropLast_eq_take, h.length]; exact h.take _
def popLK (d : D) : MM D := fun ρ => match stoOf ρ, cellAt ρ d with
  | some (true, μ), some (n, .lst xs) => (match xs[xs.length - 1]? with
    | some v => .ok v (setSto ρ (μ.set n (.lst xs.dropLast)))
    | none => .stuck)
  | _, _ => .stuck
def popLC (fo : MM D) : MM D := MM.bind fo popLK
def rEqNil (K : Fg) : R2 := fun x y H Q => ∃ a b xs, x = .ref a ∧ y = .ref b ∧ SqL K H a xs ∧ SqL K H b [] ∧ Q (.bl xs.isEmpty) H
theorem room_nil {X : Cx} (hu : X.A.units + 64 < cLine) : X.A.units < cLine := by omega
theorem op_eqNil (hu : X.A.units + 64 < cLine) : OpR X (compareOp .Eq) (rEqNil X.K) := by
  intro pins s σ H x y v u Q I rx ry h
  obtain ⟨l, l2, xs, rfl, rfl, h1, h2, q⟩ := h
  cases xs with
  | nil => exact op_eqD hu pins s σ H _ _ v u Q I rx ry ⟨.list [], .list [], .lst h1 .nil, .lst h2 .nil, rfl, rfl, q⟩
  | cons x xs =>
    cases rx; cases ry
    obtain ⟨i1, r1, p1, z1⟩ := I.list h1
    obtain ⟨i2, r2, p2, z2⟩ := I.list h2
    have e2 : i2 = [] := by cases r2; rfl
    subst e2
    cases r1 with
    | cons r rs => exact SeqAt.eq_list_lengthsAt p1.isList p2.isList (by simp) (room_nil hu) ⟨.bl false, H, I, rfl, q⟩
def lstOf (ρ : MSt) : D → Option (List D)
  | .list xs => some xs
  | d => match cellAt ρ d with
    | some (_, .lst xs) => some xs
    | _ => none
theorem lstOf_ok {K : Fg} {G : Wd} {H : Hp} {σ : St} {ρ : MSt} {v : V} {d : D} {ds : List D} (j : J K T c G H σ ρ) (r : Dq K G v d) (h : lstOf ρ d = some ds) : ∃ a xs, v = .ref a ∧ SqL K H a xs ∧ DqAll K G xs ds := by
  have cell : (match cellAt ρ d with | some (_, .lst xs) => some xs | _ => none) = some ds → ∃ a xs, v = .ref a ∧ SqL K H a xs ∧ DqAll K G xs ds := fun h => by
    split at h
    · rename_i n ys hc
      cases h
      obtain ⟨a, b, μ, rfl, rfl, hm, hs, hu, ga, ct⟩ := j.cell r hc
      cases ct with
      | lst h1 h2 => exact ⟨a, _, rfl, SqL.of h1, h2⟩
    · cases h
  cases d with
  | list xs => cases h; cases r with | lst h1 h2 => exact ⟨_, _, rfl, sqL_sub (.inl h1) j.subH, h2⟩
  | _ => exact cell h
/-- is it the empty list, another list -/
def nilM (neg : Bool) (x y : D) : MM D := fun ρ => match y, lstOf ρ x with
  | .list [], some xs => .ok (.bool (if neg = true then !xs.isEmpty else xs.isEmpty)) ρ
  | _, _ => .stuck
theorem nilM_to {neg : Bool} {σ : St} {ρ : MSt} {G : Wd} {H : Hp} {x y : V} {d e : D} {Q : VK} (j : J X.K T c G H σ ρ) (dx : Dq X.K G x d) (dy : Dq X.K G y e) (p : pX X.K T c W (relD X.K) σ G Q (nilM neg d e ρ)) :
    ∃ a b xs, x = .ref a ∧ y = .ref b ∧ SqL X.K H a xs ∧ SqL X.K H b [] ∧ Q (.bl (if neg = true then !xs.isEmpty else xs.isEmpty)) H := by
  unfold nilM at p
  split at p
  · rename_i ys hl
    obtain ⟨a, xs, rfl, h1, h2⟩ := lstOf_ok j dx hl
    cases dy with
    | lst q1 q2 =>
      cases q2
      have e : xs.isEmpty = ys.isEmpty := by cases h2 <;> rfl
      exact ⟨a, _, xs, rfl, rfl, h1, sqL_sub (.inl q1) j.subH, by rw [e]; exact p.here j (.bl _)⟩
  · exact p.elim
theorem o_eqNil (hu : X.A.units + 64 < cLine) : Op2M X T c W (compareOp .Eq) (nilM false) := ⟨_, op_eqNil hu, fun σ ρ G H x y d e Q j dx dy p => nilM_to (neg := false) j dx dy p⟩
def kvOf (ρ : MSt) : D → Option (List (D × D))
  | .dict kvs => some kvs
  | d => match cellAt ρ d with
    | some (_, u) => dicOf u
    | none => none
theorem kvOf_ok {K : Fg} {G : Wd} {H : Hp} {σ : St} {ρ : MSt} {v : V} {d : D} {kvs : List (D × D)} (j : J K T c G H σ ρ) (r : Dq K G v d) (h : kvOf ρ d = some kvs) : ∃ a es, v = .ref a ∧ Rd H a (.dK es) ∧ DqKV K G es kvs := by
  have cell : (match cellAt ρ d with | some (_, u) => dicOf u | none => none) = some kvs → ∃ a es, v = .ref a ∧ Rd H a (.dK es) ∧ DqKV K G es kvs := fun h0 => by
    split at h0
    · rename_i n u hc
      obtain ⟨a, b, μ, _, rfl, hm, hs, hu, ga, ct⟩ := j.cell r hc
      obtain ⟨es, q1, q2⟩ := dicOf_at h0 ct
      exact ⟨a, es, rfl, q1, q2⟩
    · cases h0
  cases d with
  | dict xs => cases h; cases r with | dic h1 h2 => exact ⟨_, _, rfl, j.sub.sub.rd _ _ (fun _ _ z => by cases z) h1.rd, h2⟩
  | _ => exact cell h
def sortK (d : D) : MM D := fun ρ => match kvOf ρ d with
  | some kvs => (match allStr kvs with
    | some ks => if ks.length < 64 then .ok (.list (sortL (ks.map .str))) ρ else .stuck
    | none => .stuck)
  | none => .stuck
def sortC (g : MM (List D)) : MM D := MM.bind g fun ds => match ds with
  | [d] => sortK d
  | _ => stuck
def copyK (d : D) : MM S := fun ρ => match kvOf ρ d with
  | some kvs => .ok (.od kvs) ρ
  | none => .stuck
def copyO (g : MM (List D)) : MM S := MM.bind g fun ds => match ds with
  | [d] => copyK d
  | _ => fun _ => .stuck
theorem mo_copy (hg : Gl X "dict") (hm : X.mg "dict" = none) (ha : PA X [e] (mA X.K T c W g)) (hn : ("dict" : Str) ≠ "__name__" := by decide) (hdb : (("dict" : Str) == ("__debug__" : Str)) = false := by decide)
    (he : starEach [e] X.env = (false, eval e X.env) :: starEach [] X.env := by rfl) (hpl : (backTo pos (starEach [] X.env)).any (·.1) = false := by rfl) : PE X (.Call (.Name "dict" p) [e] [] pos) (mO X.K T c W (copyO g)) := by
  refine pe_mono (pe_callTy call_dictD hg hm bt_dict ha hn hdb he hpl) fun σ H Q ⟨G, ρ, j, p⟩ => ?_
  refine pO_bind j p fun ds vs ρ1 G1 H1 l1 j1 r1 p1 => ?_
  split at p1
  · rename_i d
    cases r1 with
    | cons r rr =>
      cases rr
      unfold copyK at p1
      cases hk : kvOf ρ1 d with
      | none => rw [hk] at p1; exact p1.elim
      | some kvs =>
        rw [hk] at p1
        obtain ⟨a, es, rfl, h1, h2⟩ := kvOf_ok j1 r hk
        refine ⟨a, es, rfl, h1, fun q hq => ?_⟩
        exact p1 q G1 _ (Le.refl G1) (j1.aside hq) rfl ⟨q, _, rfl, j1.fresh hq, upd_same, h2⟩ (j1.H0none hq) ⟨j1.notOwn hq, j1.freshM hq⟩
  · exact p1.elim
end
end Mi
set_option Elab.async false
set_option linter.all false
set_option maxRecDepth 100000
set_option maxHeartbeats 1000000
namespace Mi
open PySem PySem.Spec PyProof.Rows L2
section
variable {X : Cx} {T : Tb} {c : Gh} {W : WX} {a b e o value tg : Expr} {es elts : List Expr} {f f1 f2 fo fv fk : MM D} {g : MM (List D)} {pos pos' p apos cpos tpos : Pos} {kk : Nat}
def updS (i : Nat) (f : MM D) : MM Fl := fun ρ => match ρ[i]? with
  | some (some (.od _)) => MM.bind f (fun d ρ' => match ρ'[i]?, d with
    | some (some (.od kvs)), .dict ms => if kvs.length + ms.length ≤ sizeLine then .ok .nx (ρ'.set i (some (.od (mergeD kvs ms)))) else .stuck
    | _, _ => .stuck) ρ
  | _ => .stuck
def pairsD (kvs : List (D × D)) : List D := kvs.map fun kv => .tuple [kv.1, kv.2]
theorem pairs_get {K : Fg} {G : Wd} : ∀ {es : List (Key × V)} {kvs : List (D × D)} {i : Nat} {k : Key} {v : V}, DqKV K G es kvs → es[i]? = some (k, v) → ∃ d, kvs[i]? = some (keyD k, d) ∧ Dq K G v d
  | _, _, _, _, _, .nil, e => by simp at e
  | _, _, 0, _, _, .cons h t, e => by simp at e; obtain ⟨rfl, rfl⟩ := e; exact ⟨_, rfl, h⟩
  | _, _, i + 1, k, v, .cons h t, e => by
    obtain ⟨d, h1, h2⟩ := pairs_get (i := i) (k := k) (v := v) t (by simpa using e)
    exact ⟨d, by simpa using h1, h2⟩
theorem dq_kV2 {K : Fg} {G : Wd} (k : Key) : Dq K G (kV k) (keyD k) := by
  cases k with
  | inl i => exact .int i
  | inr s => exact .str s
theorem gives_items {K : Fg} {c : Gh} {G : Wd} {a : Addr} {o : Obj} {es : List (Key × V)} {kvs : List (D × D)} (hl : a ∈ c.lk) (h0 : c.H0 a = some (.frz o (.dK es))) (hr : DqKV K G es kvs) : Gives (relY K) (Iti a o es) c G (pairsD kvs) where
  go := fun i G1 H l1 l2 fm hi => ⟨fm a hl _ h0, by rw [hr.length]; simpa [pairsD] using hi⟩
  stop := fun G1 H l1 l2 fm => ⟨fm a hl _ h0, by rw [hr.length]; simp [pairsD]⟩
  yld := fun i G1 H x H' l1 l2 _ hi y => by
    obtain ⟨t, k, v, hk, rfl, ht, rfl⟩ := y
    obtain ⟨d, e1, e2⟩ := pairs_get hr hk
    have hG : G1 t = none := by
      cases z : G1 t with
      | none => rfl
      | some u => rw [l2 _ _ z] at ht; cases ht
    refine ⟨.tuple [keyD k, d], by unfold pairsD; rw [List.getElem?_map, e1]; rfl, .inr ⟨t, .tup [kV k, v], ht, (fun _ z => by cases z), rfl, .inr ⟨t, _, _, rfl, rfl, .inl (.inl upd_same), .cons (dq_kV2 k) (.cons ((e2.le l1).le (Le.upd hG)) .nil)⟩⟩⟩
def iterI (f : MM D) : MM (List D) := MM.bind f fun x ρ => match cellAt ρ x with
  | some (_, .dlk kvs) => .ok (pairsD kvs) ρ
  | _ => .stuck
theorem mi_items (he : PE X e (mE X.K T c W f)) (hbase : attributeBase e "items" X.env (eval e X.env) = eval e X.env := by rfl) (hline : (apos.endLine == cpos.line) = true := by rfl) : PI X (.Tuple elts kk tpos) (.Call (.Attribute e "items" apos) [] [] cpos) (mI X.K T c W (relY X.K) (iterI f)) := by
  refine ⟨fun pins s σ H R I h => (pi_items (elts := elts) (kk := kk) (tpos := tpos) he hbase hline).run pins s σ H R I ?_⟩
  obtain ⟨G, ρ, j, p⟩ := h
  refine pX_bind j p fun x v ρ1 G1 H1 l1 j1 r1 p1 => ?_
  split at p1
  · rename_i n kvs hc
    obtain ⟨a, o, es, rfl, hh, hl, h0, hr⟩ := j1.lkAt r1 hc
    exact ⟨a, o, es, rfl, hh, p1 _ G1 H1 (Le.refl G1) j1 (gives_items hl h0 hr)⟩
  · exact p1.elim
def pF (K : Fg) (T : Tb) (c : Gh) (W : WX) (σ : St) (G : Wd) (Q : St → Hp → Prop) : Out Fl → Prop
  | .ok .nx ρ' => ∀ G' H', Le G G' → J K T c G' H' σ ρ' → Q σ H'
  | .exn e ρ' => ∀ cls dx G' H', Le G G' → J K T c G' H' σ ρ' → IsX K G'.hp e cls dx → W cls dx σ H'
  | _ => False
theorem pF.le {K : Fg} {T : Tb} {c : Gh} {σ : St} {G G1 : Wd} {Q : St → Hp → Prop} {o : Out Fl} (l : Le G G1) (h : pF K T c W σ G Q o) : pF K T c W σ G1 Q o := by
  cases o with
  | ok a ρ' => cases a <;> first | exact fun G' H' l' => h G' H' (l.trans l') | exact h
  | exn e ρ' => exact fun cls dx G' H' l' => h cls dx G' H' (l.trans l')
  | stuck => exact h
end
end Mi
set_option Elab.async false
set_option linter.all false
set_option maxRecDepth 100000
set_option maxHeartbeats 1000000
set_option Elab.async false
set_option linter.all false
set_option maxRecDepth 100000
set_option maxHeartbeats 1000000
namespace Mi
open PySem PySem.Spec PyProof.Rows L2
/-- names frozen, or made cells, one after another -/
def frzM (i : Nat) (m : MM Fl) : MM Fl := fun ρ => m (frzS i ρ)
def celM (i : Nat) (m : MM Fl) : MM Fl := fun ρ => m (celS i ρ)
@[simp] theorem frzM_ap {i : Nat} {m : MM Fl} {ρ : MSt} : frzM i m ρ = m (frzS i ρ) := rfl
@[simp] theorem celM_ap {i : Nat} {m : MM Fl} {ρ : MSt} : celM i m ρ = m (celS i ρ) := rfl
/-- the place of a cell, for a lock -/
def pickE (m : MM D) (ρ : MSt) : Option Nat := match m ρ with
  | .ok (.loc n) _ => some n
  | _ => none
end Mi
set_option Elab.async false
set_option linter.all false
set_option maxRecDepth 100000
set_option maxHeartbeats 1000000
namespace Mi
open PySem L2
section
variable {ρ : MSt} {μ μ' : Sto} {b neg : Bool} {n i : Nat} {x y : Option S} {f f1 f2 fo fv fk : MM D} {g : MM (List D)} {C m fx : Str} {d e v k : D} {ds xs : List D} {kvs : List (D × D)} {fs : List (Str × D)} {fm : Sto → List D → SRes} {fo' : MM S} {s : S}
@[simp] theorem stoOf_one : stoOf [some (.sto b μ)] = some (b, μ) := rfl
@[simp] theorem stoOf_cons : stoOf (x :: y :: ρ) = stoOf (y :: ρ) := by unfold stoOf; simp
@[simp] theorem setSto_one : setSto [x] μ = [some (.sto true μ)] := rfl
@[simp] theorem setSto_cons : setSto (x :: y :: ρ) μ = x :: setSto (y :: ρ) μ := by unfold setSto; simp
def cellL : Option (Bool × Sto) → Nat → Option (Nat × Cell)
  | some (_, μ), n => (μ[n]?).map fun u => (n, u)
  | none, _ => none
@[simp] theorem cellAt_loc : cellAt ρ (.loc n) = cellL (stoOf ρ) n := by
  unfold cellAt cellL
  cases stoOf ρ <;> rfl
@[simp] theorem cellL_some : cellL (some (b, μ)) n = (μ[n]?).map fun u => (n, u) := rfl
@[simp] theorem cellAt_none : cellAt ρ .none = none := rfl
@[simp] theorem cellAt_bool : cellAt ρ (.bool b) = none := rfl
@[simp] theorem cellAt_int {i : Int} : cellAt ρ (.int i) = none := rfl
@[simp] theorem cellAt_str {s : Str} : cellAt ρ (.str s) = none := rfl
@[simp] theorem cellAt_list : cellAt ρ (.list xs) = none := rfl
@[simp] theorem cellAt_tuple : cellAt ρ (.tuple xs) = none := rfl
@[simp] theorem cellAt_dict : cellAt ρ (.dict kvs) = none := rfl
def attrV (ρ : MSt) : Option D → Out D
  | some v => .ok v ρ
  | none => .stuck
def attrR (C x : Str) (ρ : MSt) : Option (Nat × Cell) → Out D
  | some (_, .obj C' fs) => if C' = C then attrV ρ (fs.lookup x) else .stuck
  | _ => .stuck
def attrJ (C x : Str) (o : Out D) : Out D := Out.bind o (attrK C x)
@[simp] theorem attrE_ap : attrE C fx f ρ = attrJ C fx (f ρ) := rfl
@[simp] theorem attrJ_ok : attrJ C fx (.ok d ρ) = attrR C fx ρ (cellAt ρ d) := by
  show attrK C fx d ρ = _
  unfold attrK attrR
  split
  · rename_i n C' fs hc
    try rw [hc]
    try dsimp only
    all_goals (cases fs.lookup fx <;> rfl)
  · rename_i h
    first
    | rfl
    | (split
       · rename_i n C' fs hc
         exact absurd hc (h _ _ _)
       · rfl)
@[simp] theorem attrR_obj : attrR C fx ρ (some (n, .obj C fs)) = attrV ρ (fs.lookup fx) := by unfold attrR; simp
@[simp] theorem attrV_some : attrV ρ (some v) = .ok v ρ := rfl
def fldR (C x : Str) (v : D) (ρ : MSt) : Option (Bool × Sto) → Option (Nat × Cell) → Out Fl
  | some (true, μ), some (n, .obj C' fs) => if C' = C ∧ fs.length < 1000 then .ok .nx (setSto ρ (μ.set n (.obj C (putFD x v fs)))) else .stuck
  | _, _ => .stuck
def fldJ (C x : Str) (fo : MM D) (o : Out D) : Out Fl := Out.bind o fun v => MM.bind fo (fldK C x v)
def fldI (C x : Str) (v : D) (o : Out D) : Out Fl := Out.bind o (fldK C x v)
@[simp] theorem fldS_ap : fldS C fx fv fo ρ = fldJ C fx fo (fv ρ) := rfl
@[simp] theorem fldJ_ok : fldJ C fx fo (.ok v ρ) = fldI C fx v (fo ρ) := rfl
@[simp] theorem fldI_ok : fldI C fx v (.ok d ρ) = fldR C fx v ρ (stoOf ρ) (cellAt ρ d) := by
  show fldK C fx v d ρ = _
  unfold fldK fldR
  split <;> simp_all
@[simp] theorem fldR_obj : fldR C fx v ρ (some (true, μ)) (some (n, .obj C fs)) = if fs.length < 1000 then .ok .nx (setSto ρ (μ.set n (.obj C (putFD fx v fs)))) else .stuck := by unfold fldR; simp
def op2MK (g : D → D → MM D) (f2 : MM D) (o : Out D) : Out D := Out.bind o fun x => MM.bind f2 fun y => g x y
def op2ML (g : D → D → MM D) (x : D) (o : Out D) : Out D := Out.bind o fun y => g x y
variable {gm : D → D → MM D}
@[simp] theorem op2M_ap : op2M gm f1 f2 ρ = op2MK gm f2 (f1 ρ) := rfl
@[simp] theorem op2MK_ok : op2MK gm f2 (.ok d ρ) = op2ML gm d (f2 ρ) := rfl
@[simp] theorem op2ML_ok : op2ML gm d (.ok e ρ) = gm d e ρ := rfl
@[simp] theorem opTM_ap : opTM gm f1 f2 ρ = tstK (op2M gm f1 f2 ρ) := rfl
def ixR (x y : D) (ρ : MSt) : Option (Nat × Cell) → Out D
  | some (_, u) => attrV ρ (ixC u y)
  | none => lift (dIx x y) ρ
@[simp] theorem ixM_ap : ixM d e ρ = ixR d e ρ (cellAt ρ d) := by
  unfold ixM ixR
  cases cellAt ρ d with
  | none => rfl
  | some q => obtain ⟨n, u⟩ := q; dsimp only; cases ixC u e <;> rfl
@[simp] theorem ixR_none : ixR d e ρ none = lift (dIx d e) ρ := rfl
@[simp] theorem ixR_some {u : Cell} : ixR d e ρ (some (n, u)) = attrV ρ (ixC u e) := rfl
@[simp] theorem ixC_dic {s : Str} : ixC (.dic kvs) (.str s) = valAt kvs (.str s) := rfl
@[simp] theorem ixC_dlk {s : Str} : ixC (.dlk kvs) (.str s) = valAt kvs (.str s) := rfl
def inR (neg : Bool) (x y : D) (ρ : MSt) : Option (Nat × Cell) → Out D
  | some (_, u) => attrV ρ ((inC u x).map fun b => .bool (if neg = true then !b else b))
  | none => lift (if neg = true then dNotIn x y else dIn x y) ρ
@[simp] theorem inM_ap : inM neg d e ρ = inR neg d e ρ (cellAt ρ e) := by
  unfold inM inR
  cases cellAt ρ e with
  | none => rfl
  | some q => obtain ⟨n, u⟩ := q; dsimp only; cases inC u d <;> rfl
@[simp] theorem inR_none : inR neg d e ρ none = lift (if neg = true then dNotIn d e else dIn d e) ρ := rfl
@[simp] theorem inR_some {u : Cell} : inR neg d e ρ (some (n, u)) = attrV ρ ((inC u d).map fun b => .bool (if neg = true then !b else b)) := rfl
@[simp] theorem inC_dic {s : Str} : inC (.dic kvs) (.str s) = some (hasKey (.str s) kvs) := rfl
@[simp] theorem inC_dlk {s : Str} : inC (.dlk kvs) (.str s) = some (hasKey (.str s) kvs) := rfl
def putR (ρ : MSt) (v k : D) : Option (Bool × Sto) → Option (Nat × Cell) → Out Fl
  | some (true, μ), some (n, .dic kvs) => (match keyOf k with
    | some _ => if kvs.length < sizeLine then .ok .nx (setSto ρ (μ.set n (.dic (putD kvs k v)))) else .stuck
    | none => .stuck)
  | _, _ => .stuck
theorem putK_ap : Mi.putK v d k ρ = putR ρ v k (stoOf ρ) (cellAt ρ d) := by
  unfold Mi.putK putR
  split
  · rename_i μ n kvs h1 h2; try rw [h1, h2]
    try dsimp only
    all_goals (cases keyOf k <;> rfl)
  · rename_i h
    first
    | rfl
    | (split
       · rename_i μ n xs h1 h2; exact absurd h2 (h _ _ _ h1)
       · rfl)
def dputJ (fd fk : MM D) (o : Out D) : Out Fl := Out.bind o fun v => MM.bind fd fun d => MM.bind fk fun k => Mi.putK v d k
def dputI (fk : MM D) (v : D) (o : Out D) : Out Fl := Out.bind o fun d => MM.bind fk fun k => Mi.putK v d k
def dputH (v d : D) (o : Out D) : Out Fl := Out.bind o fun k => Mi.putK v d k
@[simp] theorem dputS_ap : dputS fv fo fk ρ = dputJ fo fk (fv ρ) := rfl
@[simp] theorem dputJ_ok : dputJ fo fk (.ok v ρ) = dputI fk v (fo ρ) := rfl
@[simp] theorem dputI_ok : dputI fk v (.ok d ρ) = dputH v d (fk ρ) := rfl
@[simp] theorem dputH_ok : dputH v d (.ok k ρ) = putR ρ v k (stoOf ρ) (cellAt ρ d) := putK_ap
@[simp] theorem putR_dic {s : Str} : putR ρ v (.str s) (some (true, μ)) (some (n, .dic kvs)) = if kvs.length < sizeLine then .ok .nx (setSto ρ (μ.set n (.dic (putD kvs (.str s) v)))) else .stuck := rfl
def sOut (ρ : MSt) : SRes → Out D
  | .ok d μ' => .ok d (setSto ρ μ')
  | .exn e μ' => .exn e (setSto ρ μ')
  | .stuck => .stuck
def callSR (fm : Sto → List D → SRes) (ds : List D) (ρ : MSt) : Option (Bool × Sto) → Out D
  | some (true, μ) => sOut ρ (fm μ ds)
  | _ => .stuck
theorem callSK_ap : callSK fm ds ρ = callSR fm ds ρ (stoOf ρ) := by
  unfold callSK callSR
  split
  · rename_i μ h; try rw [h]
    try dsimp only
    all_goals (unfold sOut; cases fm μ ds <;> rfl)
  · rename_i h
    first
    | rfl
    | (split
       · rename_i μ h2; exact absurd h2 (h μ)
       · rfl)
def callSJ (fm : Sto → List D → SRes) (o : Out (List D)) : Out D := Out.bind o (callSK fm)
@[simp] theorem callSE_ap : callSE fm g ρ = callSJ fm (g ρ) := rfl
@[simp] theorem callSJ_ok : callSJ fm (.ok ds ρ) = callSR fm ds ρ (stoOf ρ) := callSK_ap
@[simp] theorem callSR_some : callSR fm ds ρ (some (true, μ)) = sOut ρ (fm μ ds) := rfl
@[simp] theorem sOut_ok : sOut ρ (.ok d μ) = .ok d (setSto ρ μ) := rfl
@[simp] theorem sOut_exn {e : Exn} : sOut ρ (.exn e μ) = .exn e (setSto ρ μ) := rfl
def isObR (m C : Str) : Option (Nat × Cell) → Bool
  | some (_, .obj C' fs) => decide (C' = C) && (fs.lookup m).isNone
  | _ => false
theorem isOb_ap : isOb ρ C m d = isObR m C (cellAt ρ d) := by
  unfold isOb isObR
  split <;> simp_all
@[simp] theorem isObR_obj : isObR m C (some (n, .obj C fs)) = (fs.lookup m).isNone := by unfold isObR; simp
def obJ (C m : Str) (fm : Sto → List D → SRes) (g : MM (List D)) (o : Out D) : Out D := Out.bind o fun d ρ => if isOb ρ C m d = true then MM.bind g (fun ds => callSK fm (d :: ds)) ρ else .stuck
def obI (fm : Sto → List D → SRes) (d : D) (o : Out (List D)) : Out D := Out.bind o fun ds => callSK fm (d :: ds)
@[simp] theorem obE_ap : methE C m fm fo g ρ = obJ C m fm g (fo ρ) := rfl
@[simp] theorem obJ_ok : obJ C m fm g (.ok d ρ) = if isObR m C (cellAt ρ d) = true then obI fm d (g ρ) else .stuck := by
  show (if isOb ρ C m d = true then _ else _) = _
  rw [isOb_ap]; rfl
@[simp] theorem obI_ok : obI fm d (.ok ds ρ) = callSR fm (d :: ds) ρ (stoOf ρ) := callSK_ap
def mkOut (n : Nat) (ρ : MSt) : SRes → Out D
  | .ok .none μ' => .ok (.loc n) (setSto ρ μ')
  | _ => .stuck
def makeR (C : Str) (fm : Sto → List D → SRes) (ds : List D) (ρ : MSt) : Option (Bool × Sto) → Out D
  | some (true, μ) => mkOut μ.length ρ (fm (μ ++ [.obj C []]) (.loc μ.length :: ds))
  | _ => .stuck
theorem makeK_ap : makeK C fm ds ρ = makeR C fm ds ρ (stoOf ρ) := by
  unfold makeK makeR
  split
  · rename_i μ h; try rw [h]
    try dsimp only
    unfold mkOut
    first
    | rfl
    | (split <;> simp_all)
  · rename_i h
    first
    | rfl
    | (split
       · rename_i μ h2; exact absurd h2 (h μ)
       · rfl)
def makeJ (C : Str) (fm : Sto → List D → SRes) (o : Out (List D)) : Out D := Out.bind o (makeK C fm)
@[simp] theorem makeE_ap2 : makeE C fm g ρ = makeJ C fm (g ρ) := rfl
@[simp] theorem makeJ_ok : makeJ C fm (.ok ds ρ) = makeR C fm ds ρ (stoOf ρ) := makeK_ap
@[simp] theorem makeR_some : makeR C fm ds ρ (some (true, μ)) = mkOut μ.length ρ (fm (μ ++ [.obj C []]) (.loc μ.length :: ds)) := rfl
@[simp] theorem mkOut_ok : mkOut n ρ (.ok .none μ) = .ok (.loc n) (setSto ρ μ) := rfl
def newR (u : Cell) (ρ : MSt) : Option (Bool × Sto) → Out D
  | some (true, μ) => .ok (.loc μ.length) (setSto ρ (μ ++ [u]))
  | _ => .stuck
@[simp] theorem newC_ap {u : Cell} : newC u ρ = newR u ρ (stoOf ρ) := by
  unfold newC newR
  split <;> simp_all
@[simp] theorem newR_some {u : Cell} : newR u ρ (some (true, μ)) = .ok (.loc μ.length) (setSto ρ (μ ++ [u])) := rfl
def newLstJ (o : Out (List D)) : Out D := Out.bind o fun xs => if small xs.length = true then newC (.lst xs) else stuck
@[simp] theorem newLst_ap : newLst g ρ = newLstJ (g ρ) := rfl
@[simp] theorem newLstJ_nil : newLstJ (.ok [] ρ) = newR (.lst []) ρ (stoOf ρ) := by
  show newC (.lst []) ρ = _
  rw [newC_ap]
def cellJ (o : Out S) : Out D := Out.bind o cellK
@[simp] theorem cellE_ap : cellE fo' ρ = cellJ (fo' ρ) := rfl
def cellR (u : Option Cell) (ρ : MSt) : Option (Bool × Sto) → Out D
  | some (true, μ) => (match u with | some u => .ok (.loc μ.length) (setSto ρ (μ ++ [u])) | none => .stuck)
  | _ => .stuck
@[simp] theorem cellJ_ok : cellJ (.ok s ρ) = cellR (cellOf s) ρ (stoOf ρ) := by
  show cellK s ρ = _
  unfold cellK cellR
  cases cellOf s with
  | none => rcases stoOf ρ with _ | ⟨⟨⟩, _⟩ <;> rfl
  | some u => rcases stoOf ρ with _ | ⟨⟨⟩, _⟩ <;> rfl
@[simp] theorem cellR_od : cellR (cellOf (.od kvs)) ρ (some (true, μ)) = .ok (.loc μ.length) (setSto ρ (μ ++ [.dic kvs])) := rfl
def appCR (v : D) (ρ : MSt) : Option (Bool × Sto) → Option (Nat × Cell) → Out D
  | some (true, μ), some (n, .lst xs) => if xs.length < sizeLine then .ok .none (setSto ρ (μ.set n (.lst (xs ++ [v])))) else .stuck
  | _, _ => .stuck
theorem appCK_ap : appCK d v ρ = appCR v ρ (stoOf ρ) (cellAt ρ d) := by
  unfold appCK appCR
  split <;> simp_all
def isLstR : Option (Nat × Cell) → Bool
  | some (_, .lst _) => true
  | _ => false
def appCJ (fv : MM D) (o : Out D) : Out D := Out.bind o fun d ρ => if isLstC ρ d = true then MM.bind fv (fun v => appCK d v) ρ else .stuck
def appCI (d : D) (o : Out D) : Out D := Out.bind o fun v => appCK d v
@[simp] theorem appC_ap : appC fo fv ρ = appCJ fv (fo ρ) := rfl
@[simp] theorem appCJ_ok : appCJ fv (.ok d ρ) = if isLstR (cellAt ρ d) = true then appCI d (fv ρ) else .stuck := by
  show (if isLstC ρ d = true then _ else _) = _
  have : isLstC ρ d = isLstR (cellAt ρ d) := by unfold isLstC isLstR; split <;> simp_all
  rw [this]; rfl
@[simp] theorem isLstR_lst : isLstR (some (n, .lst xs)) = true := rfl
@[simp] theorem appCI_ok : appCI d (.ok v ρ) = appCR v ρ (stoOf ρ) (cellAt ρ d) := appCK_ap
@[simp] theorem appCR_lst : appCR v ρ (some (true, μ)) (some (n, .lst xs)) = if xs.length < sizeLine then .ok .none (setSto ρ (μ.set n (.lst (xs ++ [v])))) else .stuck := rfl
def popLR (ρ : MSt) : Option (Bool × Sto) → Option (Nat × Cell) → Out D
  | some (true, μ), some (n, .lst xs) => attrV (setSto ρ (μ.set n (.lst xs.dropLast))) xs[xs.length - 1]?
  | _, _ => .stuck
def popLJ (o : Out D) : Out D := Out.bind o popLK
@[simp] theorem popLC_ap : popLC fo ρ = popLJ (fo ρ) := rfl
@[simp] theorem popLJ_ok : popLJ (.ok d ρ) = popLR ρ (stoOf ρ) (cellAt ρ d) := by
  show popLK d ρ = _
  unfold popLK popLR
  split
  · rename_i μ n xs h1 h2
    try rw [h1, h2]
    try dsimp only
    all_goals (cases xs[xs.length - 1]? <;> rfl)
  · rename_i h
    first
    | rfl
    | (split
       · rename_i μ n xs h1 h2; exact absurd h2 (h _ _ _ h1)
       · rfl)
@[simp] theorem popLR_lst : popLR ρ (some (true, μ)) (some (n, .lst xs)) = attrV (setSto ρ (μ.set n (.lst xs.dropLast))) xs[xs.length - 1]? := rfl
def popR (k : D) (ρ : MSt) : Option (Bool × Sto) → Option (Nat × Cell) → Out D
  | some (true, μ), some (n, .dic kvs) => (match keyOf k with
    | some _ => attrV (setSto ρ (μ.set n (.dic (dropD kvs k)))) (valAt kvs k)
    | none => .stuck)
  | _, _ => .stuck
theorem popK_ap : popK d k ρ = popR k ρ (stoOf ρ) (cellAt ρ d) := by
  unfold popK popR
  split
  · rename_i μ n kvs h1 h2
    try rw [h1, h2]
    try dsimp only
    cases keyOf k with
    | none => rfl
    | some _ => (try dsimp only); cases valAt kvs k <;> rfl
  · rename_i h
    first
    | rfl
    | (split
       · rename_i μ n xs h1 h2; exact absurd h2 (h _ _ _ h1)
       · rfl)
def popCJ (fk : MM D) (o : Out D) : Out D := Out.bind o fun d ρ => if isDicC ρ d = true then MM.bind fk (fun k => popK d k) ρ else .stuck
def popCI (d : D) (o : Out D) : Out D := Out.bind o fun k => popK d k
def isDicR : Option (Nat × Cell) → Bool
  | some (_, .dic _) => true
  | _ => false
@[simp] theorem popC_ap : popC fo fk ρ = popCJ fk (fo ρ) := rfl
@[simp] theorem popCJ_ok : popCJ fk (.ok d ρ) = if isDicR (cellAt ρ d) = true then popCI d (fk ρ) else .stuck := by
  show (if isDicC ρ d = true then _ else _) = _
  have : isDicC ρ d = isDicR (cellAt ρ d) := by unfold isDicC isDicR; split <;> simp_all
  rw [this]; rfl
@[simp] theorem isDicR_dic : isDicR (some (n, .dic kvs)) = true := rfl
@[simp] theorem popCI_ok : popCI d (.ok k ρ) = popR k ρ (stoOf ρ) (cellAt ρ d) := popK_ap
@[simp] theorem popR_dic {s : Str} : popR (.str s) ρ (some (true, μ)) (some (n, .dic kvs)) = attrV (setSto ρ (μ.set n (.dic (dropD kvs (.str s))))) (valAt kvs (.str s)) := rfl
def sortJ (o : Out (List D)) : Out D := Out.bind o fun ds => match ds with
  | [d] => sortK d
  | _ => stuck
@[simp] theorem sortC_ap : sortC g ρ = sortJ (g ρ) := rfl
@[simp] theorem sortJ_one : sortJ (.ok [d] ρ) = sortK d ρ := rfl
end
end Mi
set_option Elab.async false
set_option linter.all false
set_option maxRecDepth 100000
set_option maxHeartbeats 1000000
namespace Mi
open PySem L2
section
variable {ρ : MSt} {μ : Sto} {n : Nat} {f : MM D} {g : MM (List D)} {d : D} {kvs ms : List (D × D)} {i : Nat} {xs : List D}
def iterMR (d : D) (ρ : MSt) : Option (Nat × Cell) → Out (List D)
  | some (_, .dlk kvs) => .ok (keysD kvs) ρ
  | _ => lift (iterAll d) ρ
def iterMJ (o : Out D) : Out (List D) := Out.bind o fun x ρ => match cellAt ρ x with
  | some (_, .dlk kvs) => .ok (keysD kvs) ρ
  | _ => lift (iterAll x) ρ
@[simp] theorem iterM_ap : iterM f ρ = iterMJ (f ρ) := rfl
@[simp] theorem iterMJ_ok : iterMJ (.ok d ρ) = iterMR d ρ (cellAt ρ d) := by
  show (match cellAt ρ d with | some (_, .dlk kvs) => Out.ok (keysD kvs) ρ | _ => lift (iterAll d) ρ) = _
  unfold iterMR
  split <;> simp_all
@[simp] theorem iterMR_dlk : iterMR d ρ (some (n, .dlk kvs)) = .ok (keysD kvs) ρ := rfl
def iterIR (ρ : MSt) : Option (Nat × Cell) → Out (List D)
  | some (_, .dlk kvs) => .ok (pairsD kvs) ρ
  | _ => .stuck
def iterIJ (o : Out D) : Out (List D) := Out.bind o fun x ρ => match cellAt ρ x with
  | some (_, .dlk kvs) => .ok (pairsD kvs) ρ
  | _ => .stuck
@[simp] theorem iterI_ap : iterI f ρ = iterIJ (f ρ) := rfl
@[simp] theorem iterIJ_ok : iterIJ (.ok d ρ) = iterIR ρ (cellAt ρ d) := by
  show (match cellAt ρ d with | some (_, .dlk kvs) => Out.ok (pairsD kvs) ρ | _ => .stuck) = _
  unfold iterIR
  split <;> simp_all
@[simp] theorem iterIR_dlk : iterIR ρ (some (n, .dlk kvs)) = .ok (pairsD kvs) ρ := rfl
def copyR (ρ : MSt) : Option (Nat × Cell) → Out S
  | some (_, u) => (match dicOf u with | some kvs => .ok (.od kvs) ρ | none => .stuck)
  | none => .stuck
def copyJ (o : Out (List D)) : Out S := Out.bind o fun ds => match ds with
  | [d] => copyK d
  | _ => fun _ => .stuck
@[simp] theorem copyO_ap : copyO g ρ = copyJ (g ρ) := rfl
@[simp] theorem copyJ_loc : copyJ (.ok [.loc n] ρ) = copyR ρ (cellAt ρ (.loc n)) := by
  show copyK (.loc n) ρ = _
  unfold copyK copyR
  show (match (match cellAt ρ (.loc n) with | some (_, u) => dicOf u | none => none) with | some kvs => Out.ok (S.od kvs) ρ | none => .stuck) = _
  rcases cellAt ρ (.loc n) with _ | ⟨k, u⟩
  · rfl
  · rfl
@[simp] theorem copyR_dic : copyR ρ (some (n, .dic kvs)) = .ok (.od kvs) ρ := rfl
@[simp] theorem sortK_cell : sortK (.loc n) ρ = (match cellAt ρ (.loc n) with
  | some (_, u) => (match dicOf u with
    | some kvs => (match allStr kvs with
      | some ks => if ks.length < 64 then .ok (.list (sortL (ks.map .str))) ρ else .stuck
      | none => .stuck)
    | none => .stuck)
  | none => .stuck) := by
  unfold sortK
  show (match (match cellAt ρ (.loc n) with | some (_, u) => dicOf u | none => none) with | some kvs => _ | none => Out.stuck) = _
  rcases cellAt ρ (.loc n) with _ | ⟨k, u⟩ <;> rfl
def updJ (i : Nat) (o : Out D) : Out Fl := Out.bind o fun d ρ' => match ρ'[i]?, d with
    | some (some (.od kvs)), .dict ms => if kvs.length + ms.length ≤ sizeLine then .ok .nx (ρ'.set i (some (.od (mergeD kvs ms)))) else .stuck
    | _, _ => .stuck
def updR (i : Nat) (d : D) (ρ : MSt) : Option (Option S) → Out Fl
  | some (some (.od kvs)) => (match d with | .dict ms => if kvs.length + ms.length ≤ sizeLine then .ok .nx (ρ.set i (some (.od (mergeD kvs ms)))) else .stuck | _ => .stuck)
  | _ => .stuck
def isOdS : Option (Option S) → Bool
  | some (some (.od _)) => true
  | _ => false
@[simp] theorem isOdS_od : isOdS (some (some (.od kvs))) = true := rfl
@[simp] theorem updS_ap : updS i f ρ = if isOdS ρ[i]? = true then updJ i (f ρ) else .stuck := by
  unfold updS isOdS
  rcases ρ[i]? with _ | ⟨_ | ⟨⟨⟩⟩⟩ <;> rfl
@[simp] theorem updJ_dict : updJ i (.ok (.dict ms) ρ) = updR i (.dict ms) ρ ρ[i]? := by
  unfold updJ updR
  rw [Out.bind_ok]
  rcases ρ[i]? with _ | ⟨⟨⟩ | ⟨⟨⟩⟩⟩ <;> rfl
@[simp] theorem updR_od : updR i (.dict ms) ρ (some (some (.od kvs))) = if kvs.length + ms.length ≤ sizeLine then .ok .nx (ρ.set i (some (.od (mergeD kvs ms)))) else .stuck := rfl
@[simp] theorem pickE_ok {ρ' : MSt} (h : f ρ = .ok (.loc n) ρ') : pickE f ρ = some n := by unfold pickE; rw [h]
def celR (i : Nat) (ρ : MSt) (μ : Sto) : Option (Option S) → MSt
  | some (some s) => (match cellOf s with
    | some u => (setSto ρ (μ ++ [u])).set i (some (.d (.loc μ.length)))
    | none => ρ)
  | _ => ρ
@[simp] theorem celR_od : celR i ρ μ (some (some (.od kvs))) = (setSto ρ (μ ++ [.dic kvs])).set i (some (.d (.loc μ.length))) := rfl
end
end Mi
set_option Elab.async false
set_option linter.all false
set_option maxRecDepth 100000
set_option maxHeartbeats 4000000
namespace Mi
open PySem L2
def DictIn (d : Option Addr) (H : Hp) : Prop := ∀ dd, d = some dd → ∃ fs, H dd = some (.xd fs)
theorem DictIn.up {d : Option Addr} {H H' : Hp} (h : DictIn d H) (e : ∀ b o, H b = some o → H' b = some o) : DictIn d H' := fun dd z => by
  obtain ⟨fs, q⟩ := h dd z
  exact ⟨fs, e _ _ q⟩
theorem dictIn_none {H : Hp} : DictIn none H := fun _ z => nomatch z
end Mi
set_option Elab.async false
set_option linter.all false
set_option maxRecDepth 100000
set_option maxHeartbeats 4000000
namespace Mi
open PySem L2
theorem oexB_ok {K : Fg} {C : Addr} (h : oexB K C = true) : ∃ nm q N bs bm sn sub ab col dd k0 k1 k2 k3 k5, K.lookup C = some (excClassObj nm q C N bs bm true sn sub ab col dd k0 k1 k2 k3 k5 "ValueError.__new__") ∧ PySem.HandSPX.refsVE bm = true := by
  unfold oexB at h
  split at h
  · rename_i dd cd sl ho
    split at h
    · rename_i C' bm k0 k1 k2 k3 n k5 hm hs
      simp only [Bool.and_eq_true, beq_iff_eq, Bool.not_eq_true'] at h
      obtain ⟨⟨⟨⟨rfl, rfl⟩, hdel⟩, hdict⟩, hv⟩ := h
      obtain ⟨nm, bs, mro, ns, qn, hd, sn, sub, ab, col, del⟩ := cd
      dsimp only at hm hdel hdict
      subst hm hdel hdict
      have e : sl = #[k0, k1, k2, k3, some (.builtin "ValueError.__new__"), k5] := by
        obtain ⟨l⟩ := sl
        simp only at hs
        rw [hs]
      subst e
      exact ⟨nm, qn, ns, bs, bm, sn, sub, ab, col, dd, k0, k1, k2, k3, k5, ho, hv⟩
    · cases h
  · cases h
structure TmF (K : Fg) : Prop where
  c : ExcC K (tmA K)
  k : ∀ y ∈ CL, PySem.W.kitOne K (.ref (tmA K)) (.ref (He.ga K y)) = some (decide (("TooMuch" : Str) = y))
  v : PySem.W.kitOne K (.ref (tmA K)) (.type "ValueError") = some true
  tt : PySem.W.exmOne K (.ref (tmA K)) (.ref (tmA K)) = some true
  o : OexC K (tmA K)
  i : PySem.W.findIn K (.ref (tmA K)) "__init__" = some (some (.ref (tmI K)))
  t : PySem.W.typeIn K (.ref (tmI K)) = some (.type "function")
  no : PySem.W.findIn K (.ref (tmA K)) "lacks" = some none
  cr : PySem.W.readsIn K (ceA K) (.type "type") = true
  cg : PySem.W.specialIn K (.ref (ceA K)) "__getattribute__" = some (some (.builtin "type.__getattribute__"))
  ci : PySem.W.findCls K (.ref (ceA K)) (.type "type") "__init__" = some (.val (.builtin "ValueError.__init__"))
theorem TmF.x {K : Fg} (t : TmF K) : XfC K (tmA K) := ⟨t.c.hg, t.c.hk, t.c.hs, t.c.hd⟩
theorem tmF_of {K : Fg} (h : tmB K = true) : TmF K := by
  unfold tmB at h
  obtain ⟨h1, h⟩ := Bool.and_eq_true_iff.mp h
  obtain ⟨h2, h3⟩ := Bool.and_eq_true_iff.mp h
  unfold tm1B at h1
  unfold tm2B at h2
  unfold tm3B at h3
  simp only [Bool.and_eq_true, decO, decide_eq_true_eq, List.all_eq_true] at h1 h2 h3
  obtain ⟨a1, a2, a3, a4, a5, a6, a7, a8⟩ := h1
  obtain ⟨b1, b2, b3, b4, b5, b6, b7⟩ := h2
  obtain ⟨c1, c2, c3, c4, c5, c6⟩ := h3
  refine ⟨⟨a1, a2, a3, a4, a5, a6, a7, a8⟩, b1, b2, b3, ⟨oexB_ok b4, b5, a3, b6, b7⟩, c1, c2, c3, c4, c5, ?_⟩
  split at c6
  · rename_i n hn
    rw [hn, eq_of_beq c6]
  · cases c6
/-- what its own __init__ does -/
def spTM (K : Fg) : Sp := fun vs H Q _ => ∃ (a : Addr) (n : Int), vs = [.ref a, .int n] ∧ H a = some (exo a (tmA K) none) ∧ ∀ dx, H dx = none → dx ≠ a → Q .non (upd (upd H dx (exd dx [(("lacks" : Str), V.int n)])) a (exo a (tmA K) (some dx)))
theorem tm_reads {K : Fg} (tm : TmF K) {m : Str} {vs : List V} {H : Hp} {Q : VK} {E : XK} (h : spTM K vs H Q E) : tSeq (tDrop (tVeI K (tCons (tVar 0) (tCons (tC (.str m)) tNil)))) (tOst K "lacks" (tVar 0) (tVar 1)) { nx := fun _ H' => Q .non H', rt := Q } (L2.start ["self", "lacks"] vs) H := by
  obtain ⟨a, n, rfl, ha, q⟩ := h
  exact ⟨.ref a, rfl, a, tmA K, [.str m], rfl, by show (1 : Nat) ≤ 1000; decide, tm.o, ha, .int n, rfl, .ref a, rfl, a, tmA K, rfl, tm.o, tm.no, .inl ⟨ha, fun dx h1 h2 => q dx h1 h2⟩⟩
section
variable {X : Cx} {e : Expr} {es : List Expr} {ta : TA} {p p1 p2 pos pos' : Pos}
theorem pe_ceinit {pl : Sem Bool} (tm : TmF X.K) (hg : Gl X "CastError") (hm : X.mg "CastError" = some (.ref (ceA X.K))) (ha : PA X (e :: es) ta)
    (hc : eval (.Call (.Attribute (.Name "CastError" p1) "__init__" p2) (e :: es) [] pos) X.env = (do
      let ov ← eval (.Name "CastError" p1) X.env
      standAt p2.atName
      let (f, first) ← holding [ov] (getMethod ov "__init__" pl)
      callWith pos f first (backTo pos (starEach (e :: es) X.env)) (backToKw pos (keywordEach [] X.env))) := by rfl)
    (he : starEach (e :: es) X.env = (false, eval e X.env) :: starEach es X.env := by rfl) (hpl : (backTo pos (starEach es X.env)).any (·.1) = false := by rfl) :
    PE X (.Call (.Attribute (.Name "CastError" p1) "__init__" p2) (e :: es) [] pos) (tVeI X.K ta) := by
  refine ⟨fun pins s σ H Q I h => ?_⟩
  refine PySem.W.methodCall_KW (ld_glob I hg hm ?_ (by decide)) hc
  refine PySem.W.method_cls I.kIn tm.cg (PySem.W.cls_value I.kIn tm.cr tm.ci (by decide +kernel) ?_)
  show wpAny _ _ (callWith pos (Value.builtin "ValueError.__init__") [] (backTo pos (starEach (e :: es) X.env)) []) _ _ _
  refine PyProof.Rows.callWith_method1 (thn (ha.run pos pins _ σ H _ (I.tok _) h) fun us s1 ⟨vs, H1, I1, r1, a, C, ws, ev, hl, T, ea, q⟩ => ?_) he hpl
  subst ev
  cases r1 with
  | @cons _ u0 _ ur ra rest =>
    obtain rfl : u0 = Value.ref a := ra
    have hlen : ur.length ≤ sizeLine := by
      rw [← Paired.length rest, sizeLine_eq]
      omega
    exact oinit_ok T I1 ea hlen fun s' J => ⟨.non, H1, J, rfl, q⟩
/-- C(e), C's own __init__ keeping sp, as an exception whose context is None -/
theorem pmk_tm {CX : CXT} {x : Str} {C fI : Addr} {k : Nat} {fd : FuncData} {ps : List Str} {sp : Sp} (T : OexC X.K C) (iC : PySem.W.findIn X.K (.ref C) "__init__" = some (some (.ref fI))) (tI : PySem.W.typeIn X.K (.ref fI) = some (.type "function"))
    (F1 : FnOk X.prog X.w X.K X.mg X.base CX k fI fd ps sp) (hr : Room (k + 1) X.A) (hb : Binds X.K fd ps []) (hx : Passes CX X (fun _ _ _ => False)) (hg : Gl X x) (hm : X.mg x = some (.ref C)) (ha : PA X (e :: es) ta)
    (hdb : (x == ("__debug__" : Str)) = false := by decide) (he : starEach (e :: es) X.env = (false, eval e X.env) :: starEach es X.env := by rfl) (hpl : (backTo pos (starEach es X.env)).any (·.1) = false := by rfl) :
    L2N.PMk X (.Call (.Name x p) (e :: es) [] pos) (tMkO C sp [] ta) := by
  intro pins s σ H Q I h
  obtain ⟨nm, q, N, bs, bm, sn, sub, ab, col, dd, k0, k1, k2, k3, k5, hC, hbm⟩ := T.cls
  refine wpAny_Call_Name_kw (ld_glob I hg hm ?_ hdb)
  refine PySem.W.callWith_K (h₀ := X.base) I.ok.mod.kin T.kC (thn (ha.run pos pins s σ H _ I h) fun us s1 ⟨vs, H1, I1, r1, hz, q1⟩ => ⟨I1.kIn, ?_⟩) he hpl
  show wpAny _ _ (call (.ref C) us) _ _ _
  obtain ⟨hp, g, dr, tk, os⟩ := s1
  generalize hA : hp.objs.size + 1 = at1
  have hsz : hp.objs.size ≤ at1 := by omega
  have hq := q1 at1 (I1.hok.fresh hsz)
  rw [List.append_nil] at hq
  generalize hW : (hp.push (PySem.W.kdv_tup us)).push (PySem.HandSPX.excO C hp.objs.size) = hp2
  have kk : ∀ b o, hp.get? b = some o → hp2.get? b = some o := fun b o z => by rw [← hW]; exact Heap.get?_push_of_some _ (Heap.get?_push_of_some _ z)
  have there : hp2.get? at1 = some (PySem.HandSPX.excO C hp.objs.size) := by rw [← hW, ← hA]; heap_get
  have I2 : Inv X pins σ (upd H1 at1 (exo at1 C none)) ⟨hp2, g, dr, tk, os⟩ := I1.laid (t' := tk) (a := at1) (o := exo at1 C none) (h' := hp2) kk hsz (exo_ok there)
  have r2 : Vals (V.ref at1 :: vs) (Value.ref at1 :: us) := .cons rfl r1
  have hl : (Value.ref at1 :: us ++ []).length = ps.length := by rw [List.append_nil, ← F1.len _ _ _ _ hq]; exact r2.length.symm
  have hus : us.length ≤ sizeLine := by
    rw [← Paired.length r1, sizeLine_eq]
    omega
  have b2 := hb _ (Value.ref at1 :: us) I2.kIn hl
  rw [List.append_nil] at b2
  have run := F1.run _ X.stack _ _ ⟨Value.ref at1 :: us, []⟩ (Value.ref at1 :: us) _ _ (fun _ _ _ => False) (hr.make C us []) (I2.env0.make C us []) b2 r2 hq
  refine wpAny_call (PySem.HandSPX.call_own F.excBase_ValueError (fun Y => PySem.HandSPX.refsVE_contains Y bm hbm) (I1.kIn _ _ hC) (PySem.W.looks_findIn I1.kIn iC) (fun self => PySem.W.bind_fn I1.kIn self tI) hus ?_)
  rw [hA, hW]
  refine codeAny_mono run fun res s' back => ?_
  cases res with
  | error er => exact hx pins σ _ _ er s' I2 back
  | ok fl =>
    cases fl with
    | ret u =>
      obtain ⟨v, H2, os2, bare2, un2, hok2, rv, ev, d, fs, ea, ed, hd1, q2⟩ := back
      subst ev
      obtain ⟨h2, g2, d2, t2, os'⟩ := s'
      obtain ⟨t0, G, J, kG, ge, hoe, na⟩ := mk_end0 (d2 := d2) (t2 := t2) I1 hsz kk un2 hok2 os2 bare2 ea ed hd1
      exact ⟨rv, at1, _, _, ⟨G, g2, d2, t2, os'⟩, _, .ref C, some d, rfl, J, kG, ge, hoe, ⟨rfl, rfl, fun ws hw => by cases hw; rfl⟩, rfl, rfl, na, rfl, bare2, raises_own T.exC T.tyC, q2⟩
    | next => exact back.elim
    | brk => exact back.elim
    | cont => exact back.elim
end
end Mi
set_option Elab.async false
set_option linter.all false
set_option maxRecDepth 100000
set_option maxHeartbeats 4000000
namespace Mi
open PySem L2
def raiseTM (f : MM D) : MM Fl := fun ρ => match f ρ with
  | .ok (.int n) ρ' => .exn ⟨"TooMuch", some n⟩ ρ'
  | .ok _ _ => .stuck
  | .exn e ρ' => .exn e ρ'
  | .stuck => .stuck
theorem made_eq {H : Hp} {a d : Addr} {o1 o2 o3 o4 : HO} (hd : H d = none) (ha : H a = none) (ne : d ≠ a) : upd (del (upd (upd (upd H a o1) d o2) a o3) a) d o4 = upd H d o4 := by
  funext b
  by_cases z : b = d
  · rw [z, upd_same, upd_same]
  · rw [upd_ne z, upd_ne z]
    by_cases y : b = a
    · rw [y, del_same, ha]
    · rw [del_ne y, upd_ne y, upd_ne z, upd_ne y]
section
variable {X : Cx} {T : Tb} {c : Gh} {W : WX} {e : Expr} {f : MM D} {p pos pos' : Pos}
theorem ms_raiseTM {k : Nat} {fd : FuncData} (hc : X.calm = true) (tk : L2N.Takes X W) (tm : TmF X.K) (F : FnOk X.prog X.w X.K X.mg X.base (L2N.CX X.prog X.w) k (tmI X.K) fd ["self", "lacks"] (spTM X.K)) (hr : Room (k + 1) X.A) (hb : Binds X.K fd ["self", "lacks"] []) (gC : X.mg "TooMuch" = some (.ref (tmA X.K))) (hg : Gl X "TooMuch") (he : PE X e (mE X.K T c W f))
    (hs : starEach [e] X.env = (false, eval e X.env) :: starEach [] X.env := by rfl) :
    PS X (.Raise (some (.Call (.Name "TooMuch" p) [e] [] pos)) none pos') (mS X.K T c W (raiseTM f)) := by
  refine ps_mono (L2N.ps_raise hc tk (pmk_tm tm.o tm.i tm.t F hr hb (L2N.passes_call L2N_takes0 fun _ _ _ _ z => z.elim) hg gC (pa_cons he pa_nil hs) (by decide) hs (by rfl))) fun Dn σ H ⟨G, ρ, jj, pp⟩ => ?_
  refine ⟨G, ρ, jj, ?_⟩
  unfold raiseTM at pp
  cases z : f ρ with
  | stuck => rw [z] at pp; exact pp.elim
  | exn x ρ' => rw [z] at pp; exact fun cls dx G' H' l j' i => pp cls dx σ G' H' l j' i
  | ok d ρ' =>
    rw [z] at pp
    intro v G' H' l j' dv
    cases d with
    | int n =>
      have dv : Dq X.K G' v (.int n) := dv
      cases dv
      refine ⟨by show (1 : Nat) ≤ 1000; decide, fun a hna => ⟨a, n, rfl, upd_same, fun dx h1 h2 => ⟨rfl, dx, _, upd_same, by rw [upd_ne h2, upd_same], ?_, ?_⟩⟩⟩
      · rw [upd_ne h2] at h1; exact h1
      · have hd : H' dx = none := by rw [upd_ne h2] at h1; exact h1
        rw [made_eq hd hna h2]
        exact pp _ _ σ _ _ (l.trans (Le.upd (j'.fresh hd))) (j'.grow hd) ⟨rfl, dx, rfl, upd_same⟩
    | _ => exact pp.elim
end
def toldX3 (ns : List Str) (e : Exn) : Res D := match e.lacks with
  | none => if e.cls ∈ ns then .ok (.tuple [.str "refused", .str e.cls]) else .stuck
  | some n => if e.cls = "TooMuch" then .ok (.tuple [.str "refused", .str "TooMuch", .int n]) else .stuck
def toldK3 (ns : List Str) (o : Out D) : Out D := match o with
  | .ok d ρ => .ok d ρ
  | .exn e ρ => lift (toldX3 ns e) ρ
  | .stuck => .stuck
def toldE3 (ns : List Str) (f : MM D) : MM D := fun ρ => toldK3 ns (f ρ)
section
variable {ns : List Str} {f : MM D} {ρ : MSt} {x : D} {cn : Str} {n : Int}
@[simp] theorem toldE3_ap : toldE3 ns f ρ = toldK3 ns (f ρ) := rfl
@[simp] theorem toldK3_ok : toldK3 ns (.ok x ρ) = .ok x ρ := rfl
@[simp] theorem toldK3_too : toldK3 ns (.exn ⟨"TooMuch", some n⟩ ρ) = .ok (.tuple [.str "refused", .str "TooMuch", .int n]) ρ := rfl
def raiseTMK : Out D → Out Fl
  | .ok (.int n) ρ' => .exn ⟨"TooMuch", some n⟩ ρ'
  | .ok _ _ => .stuck
  | .exn e ρ' => .exn e ρ'
  | .stuck => .stuck
@[simp] theorem raiseTM_ap : raiseTM f ρ = raiseTMK (f ρ) := rfl
@[simp] theorem raiseTMK_ok : raiseTMK (.ok (.int n) ρ) = .exn ⟨"TooMuch", some n⟩ ρ := rfl
end
/-- what the def that names refusals asks of a class -/
structure ExG (K : Fg) (x : Str) : Prop where
  c : ExcC K (He.ga K x)
  k : ∀ y ∈ CL, PySem.W.kitOne K (.ref (He.ga K x)) (.ref (He.ga K y)) = some (decide (x = y))
  v : PySem.W.kitOne K (.ref (He.ga K x)) (.type "ValueError") = some true
  m : x ∈ CL
theorem exG_of {K : Fg} {mg : Str → Option Value} {ns : List Str} {x : Str} (U : ToldF K mg ns) (tm : TmF K) (h : x ∈ ns ∨ x = "TooMuch") : ExG K x := by
  rcases h with h | h
  · have e := U.x x h
    exact ⟨e.c, e.k, e.v, e.m⟩
  · subst h
    exact ⟨tm.c, tm.k, tm.v, by decide +kernel⟩
end Mi
set_option Elab.async false
set_option linter.all false
set_option maxRecDepth 100000
set_option maxHeartbeats 4000000
namespace Mi
open L2 PySem PySem.Spec PyProof.Rows
section
variable {prog : Program} {w : World} {A : Around} {R : Result → Shared → Prop} {s : Shared} {kx vx t0 i0 t1 i1 : Expr} {f0 f1 : List Expr} {scope : Scope} {pos : Pos} {it : Value} {D : Addr} {env : Env}
abbrev nb (prog : Program) (w : World) (A : Around) (env : Env) (R : Result → Shared → Prop) : Value → Shared → Prop := notedBy (model prog w) A env fun e s' => R (.error e) s'
end
end Mi
set_option Elab.async false
set_option linter.all false
set_option maxRecDepth 100000
set_option maxHeartbeats 4000000
set_option Elab.async false
set_option linter.all false
set_option maxRecDepth 100000
set_option maxHeartbeats 4000000
set_option Elab.async false
set_option linter.all false
set_option maxRecDepth 100000
set_option maxHeartbeats 4000000
namespace Mi
open PySem PySem.Spec PyProof.Rows L2
section
variable {X : Cx} {T : Tb} {c : Gh} {W : WX}
def dMinT : List D → Res D
  | [.tuple (x :: xs)] => if mmOk (x :: xs) = true then .ok (minF x xs) else .stuck
  | _ => .stuck
@[simp] theorem dMinT_2 {i j : Int} : dMinT [.tuple [.int i, .int j]] = .ok (.int (min i j)) := by
  have ok : mmOk [.int i, .int j] = true := rfl
  show (if mmOk [.int i, .int j] = true then Res.ok (minF (.int i) [.int j]) else .stuck) = _
  rw [if_pos ok]
  show Res.ok (if PySem.W.dataLt (.int j) (.int i) = true then Mi.D.int j else Mi.D.int i) = _
  rw [PySem.W.dataLt_int]
  by_cases h : j < i
  · rw [if_pos (by simpa using h), show min i j = j from by omega]
  · rw [if_neg (by simpa using h), show min i j = i from by omega]
end
end Mi
set_option Elab.async false
set_option linter.all false
set_option maxRecDepth 100000
set_option maxHeartbeats 4000000
set_option Elab.async false
set_option linter.all false
set_option maxRecDepth 100000
set_option maxHeartbeats 4000000
set_option Elab.async false
set_option linter.all false
set_option maxRecDepth 100000
set_option maxHeartbeats 4000000
set_option Elab.async false
set_option linter.all false
set_option maxRecDepth 100000
set_option maxHeartbeats 4000000
namespace Mi
open PySem L2 PyProof.Rows
section
variable {X : Cx} {pins : List (Addr × Obj)} {σ : St} {H : Hp} {s : Shared}
/-- an object that stands is tracked from now on -/
theorem inv_track {a : Addr} {u : HO} (I : Inv X pins σ H s) (hn : H a = none) (n0 : X.s_0.heap.get? a = none) (nL : a ≠ X.env.locals) (nC : ∀ x c, X.env.cells.lookup x = some c → c ≠ a) (nP : ∀ p ∈ X.pn ++ pins, p.1 ≠ a) (new : ObjOk X.prog X.w (upd H a u) s.heap a u) :
    Inv X pins σ (upd H a u) s := by
  have ne0 : ∀ b o, X.s_0.heap.get? b = some o → b ≠ a := fun b o e z => by
    rw [z, n0] at e
    cases e
  refine ⟨I.ok, I.os, I.bare, ⟨I.base.keep, I.base.slot, fun b o e n h => ?_, I.base.there, fun b xs e => ?_, fun b o xs e => ?_, fun b ps e => ?_⟩, I.loc, I.cell, ?_, fun x c e => ?_, fun p hp => ?_, I.hok.laidN (fun _ _ e => e) hn new, I.len⟩
  · rw [upd_ne (ne0 b o e)]
    exact I.base.free b o e n h
  · have q := I.base.tups b xs e
    rw [upd_ne (ne_of_none q hn)]
    exact q
  · have q := I.base.frzs b o xs e
    rw [upd_ne (ne_of_none q hn)]
    exact q
  · obtain ⟨more, q⟩ := I.base.tbls b ps e
    exact ⟨more, by rw [upd_ne (ne_of_none q hn)]; exact q⟩
  · rw [upd_ne nL.symm]
    exact I.free
  · rw [upd_ne (nC x c e)]
    exact I.freeC x c e
  · obtain ⟨e, n, r⟩ := I.pin p hp
    exact ⟨e, by rw [upd_ne (nP p hp)]; exact n, r⟩
end
theorem xcO_ok {P : Program} {w : World} {H : Hp} {h : Heap} {a : Addr} {cls : Value} {d : Option Addr} {oe : Obj} {vs : Array Value} (e : h.get? a = some oe) (z : L2N.Zn cls d oe) (hd : oe.data = .fields vs) : ObjOk P w H h a (XcO cls d a) :=
  ⟨⟨oe, vs, e, z.1, z.2.1, hd⟩, ⟨oe, e⟩, fun _ _ ⟨o, v, q, r⟩ k => ⟨o, v, k o q, r⟩⟩
/-- caught and returned -/
def wRet (K : Fg) (c : Value) (Wout : WX) (D : Ends) : WX := fun cls d σ H => ∃ b, PySem.W.exmOne K cls c = some b ∧ (b = true → ∀ a, H a = none → D.rt (.ref a) (upd H a (XcO cls d a))) ∧ (b = false → Wout cls d σ H)
section
variable {X : Cx} {n x : Str} {c : Value} {i : Nat} {body : List Stmt} {pos pos' np p5 p6 : Pos} {tb : WX → TS} {Wout : WX}
theorem ps_try_ret (hs : X.stack = X.env :: X.outer) (hf : X.env.frame = some X.env.locals) (hex : X.ex = []) (hN : X.N.Nodup) (hi : X.N[i]? = some n) (hln : X.env.kindOf n = some .local) (hc : Names X x c) (tk : L2N.Takes X Wout) (hdb : (n == ("__debug__" : Str)) = false) (hdc : (n == ("__classdict__" : Str)) = false)
    (hb : ∀ (W : WX) (pn : List (Addr × Obj)) (xe : Value → Shared → Prop), L2N.Takes (X.tr pn xe) W → PassesOwn (model X.prog X.w) X.A X.env xe → PSs (X.tr pn xe) body (tb W)) :
    PS X (.Try body [.ExceptHandler (some (.Name x np)) (some n) [.Return (some (.Name n p5)) p6] pos'] [] [] pos) (fun D σ H => tb (wRet X.K c Wout D) D σ H) := by
  refine ⟨fun pins s σ H D I h => ?_⟩
  have ok := I.ok
  have hfr : X.A.frames = some (X.env :: X.outer) := by rw [ok.frames, hs]
  have hloc : Loc X.env.scope n := .inl hln
  refine wpAny_Try_except ?_
  refine wpAny_mono ((hb (wRet X.K c Wout D) (X.pn ++ pins) (fun e s1 => wpAny (model X.prog X.w) X.A (noteFrame e X.env) (fun _ s2 => wpAny (model X.prog X.w) X.A (setFlight e none) (fun _ s3 => wpAny (model X.prog X.w) X.A (handleBy e X.env [.ExceptHandler (some (.Name x np)) (some n) [.Return (some (.Name n p5)) p6] pos']) (SP X pins D) X.xe s3) X.xe s2) X.xe s1)
    (fun u s' xx => ?_) PassesOwn.looking).run [] s σ H D (I.toTry _) h) (fun f s1 hsp => ?_) (fun e s1 he => he)
  · obtain ⟨a, B, sI, pins', σ', H', cls, d, rfl, J', nbB, up, sky, na, os, ag, w⟩ := xx
    have J : Inv X pins σ' H' sI := J'.ofTry ok
    have sky' : Sky B (X.env :: X.outer) a (L2N.Zn cls d) X.env.locals s'.heap := by rw [← hs]; exact sky
    show wpAny (model X.prog X.w) X.A (noteFrame (.ref a) X.env) _ _ _
    refine L2N.Sky.land L2N.Zn.steady hfr hf sky' fun h3 fl3 up3 => ?_
    have J3 : Inv X pins σ' H' { s' with heap := h3 } := J.landed nbB fl3.1 (up.trans up3) os ag
    obtain ⟨oe3, vs3, he3, hz3, hd3⟩ := fl3.there
    have nfr : a ∉ frs (X.env :: X.outer) := fun hm => by
      obtain ⟨_, o', e', hnf⟩ := fl3.2.2.1.mem hm
      rw [he3] at e'; cases e'
      exact hnf _ hd3
    have nL : a ≠ X.env.locals := fun z => nfr (List.mem_filterMap.mpr ⟨X.env, List.mem_cons_self, by rw [hf, z]⟩)
    have nF : a ∉ X.fs := fun hm => by
      obtain ⟨e, he, q⟩ := List.mem_filterMap.mp hm
      exact nfr (List.mem_filterMap.mpr ⟨e, List.mem_cons_of_mem _ he, q⟩)
    -- it is new
    have nsI : ∀ o, sI.heap.get? a = some o → False := fun o e => by
      have z := nbB a o e (by rw [hs]; exact nfr)
      rw [fl3.2.1] at z
      cases z
    have n0 : X.s_0.heap.get? a = none := by
      cases q : X.s_0.heap.get? a with
      | none => rfl
      | some o =>
        obtain ⟨o', q'⟩ := J.base.there a o q (by rw [hex]; exact fun z => nomatch z)
        exact (nsI o' q').elim
    have nC : ∀ y e, X.env.cells.lookup y = some e → e ≠ a := fun y e l z => by
      obtain ⟨v, o, q, _⟩ := J.cell y e l
      rw [z] at q
      exact nsI o q
    have nP : ∀ p ∈ X.pn ++ pins, p.1 ≠ a := fun p hp z => by
      have q := (J.pin p hp).1
      rw [z] at q
      exact nsI _ q
    have S3 := J3.suite he3 hd3 na nL nF
    obtain ⟨b, hb1, hyes, hno⟩ := w
    refine wpAny_handleBy_cons (codeAny_handlers_test ?_) (by intro q; cases q)
    have LT : PySem.W.Looks (model X.prog X.w) h3 (typeOf (.ref a)) cls := fun A Q E s k q => wpAny_typeOf_ref (k _ _ he3) (by rw [hz3.1]; exact q)
    have LM := PySem.W.exm_one (M := model X.prog X.w) (J3.kIn) LT hb1
    have test : ∀ {Q : Value → Shared → Prop} {E : Value → Shared → Prop}, Q c { s' with heap := h3 } → wpAny (model X.prog X.w) (X.A.mark (some (.ref a))) (eval (.Name x np) X.env) Q E { s' with heap := h3 } := fun {Q E} q => by
      obtain ⟨hg, hdbg, hm | ⟨hm, hv, hnn⟩⟩ := hc
      · exact ld_glob (X := X.suite a ((a, oe3) :: (X.pn ++ pins))) S3 hg hm q hdbg
      · exact ld_blt (X := X.suite a ((a, oe3) :: (X.pn ++ pins))) S3 hg hm hv q hnn hdbg
    refine test (LM.here ?_)
    cases b with
    | true =>
      refine codeAny_handlers_suite_as ?_
      refine HandSPX.lands_againZ fl3 fun h4 fl4 up4 => ?_
      have J4 : Inv X pins σ' H' { s' with heap := h4 } := J.landed nbB fl4.1 ((up.trans up3).trans up4) os ag
      obtain ⟨oe4, vs4, he4, hz4, hd4⟩ := fl4.there
      have S4 := J4.suite he4 hd4 na nL nF
      refine store_ok (X := X.suite a ((a, oe4) :: (X.pn ++ pins))) (v := .ref a) S4 hN hi hloc rfl (fun s5 S5 => ?_) (.inr hln)
      have vr : PE (X.suite a ((a, oe4) :: (X.pn ++ pins))) (.Name n p5) (tVar i) := pe_var (X := X.suite a ((a, oe4) :: (X.pn ++ pins))) hi (.inl hln) hdb hdc
      have li : i < σ'.length := by
        have e1 : σ'.length = X.N.length := J.len
        rw [e1]
        exact (List.getElem?_eq_some_iff.mp hi).1
      have rn := (pss_one (ps_ret (pos := p6) vr)).run [] s5 (σ'.set i (some (.ref a))) H' { nx := fun _ _ => False, rt := fun v H6 => v = .ref a ∧ H6 = H' } S5 ⟨.ref a, List.getElem?_set_self li, rfl, rfl⟩
      refine wpAny_mono rn (fun f s6 hsp => ?_) (fun _ _ z => False.elim z)
      cases f with
      | next => obtain ⟨σ6, H6, S6, q6⟩ := hsp; exact q6.elim
      | brk => obtain ⟨σ6, H6, S6, q6⟩ := hsp; exact q6.elim
      | cont => obtain ⟨σ6, H6, S6, q6⟩ := hsp; exact q6.elim
      | ret u =>
        obtain ⟨v6, σ6, H6, S6, r6, e6, eH⟩ := hsp
        subst e6
        subst eH
        have T6 : Inv X ((a, oe4) :: pins) σ6 H6 s6 := ⟨ok, S6.os, S6.bare, S6.base, S6.loc, S6.cell, S6.free, S6.freeC, fun p hp => S6.pin p (by
          have hp : p ∈ X.pn ++ (a, oe4) :: pins := hp
          show p ∈ ((a, oe4) :: (X.pn ++ pins)) ++ []
          rcases List.mem_append.mp hp with z | z
          · exact List.mem_append_left _ (List.mem_cons_of_mem _ (List.mem_append_left _ z))
          · rcases List.mem_cons.mp z with z | z
            · rw [z]; exact List.mem_append_left _ List.mem_cons_self
            · exact List.mem_append_left _ (List.mem_cons_of_mem _ (List.mem_append_right _ z))), S6.hok, S6.len⟩
        refine gone_ok T6 hN hi hln fun s7 J7 => ?_
        have p7 := J7.pin (a, oe4) (List.mem_append_right _ List.mem_cons_self)
        have K7 : Inv X pins (σ6.set i none) H6 s7 := ⟨ok, J7.os, J7.bare, J7.base, J7.loc, J7.cell, J7.free, J7.freeC, fun p hp => J7.pin p (by
          have hp : p ∈ X.pn ++ pins := hp
          show p ∈ X.pn ++ (a, oe4) :: pins
          rcases List.mem_append.mp hp with z | z
          · exact List.mem_append_left _ z
          · exact List.mem_append_right _ (List.mem_cons_of_mem _ z)), J7.hok, J7.len⟩
        exact ⟨.ref a, _, _, inv_track K7 na n0 nL nC nP (xcO_ok p7.1 hz4 hd4), r6, hyes rfl a na⟩
    | false =>
      show wpAny _ X.A (handleBy (.ref a) X.env []) _ _ _
      refine wpAny_handleBy_nil ?_
      obtain ⟨k1, k2, k3, oe, vs, T, oT, ts', he, hz, hd, h1, hr⟩ := id fl3
      unfold PySem.passOn
      refine wpAny_bind (wpAny_field he hd h1 ?_)
      rw [if_neg (show ¬ ((Value.ref T == Value.none) = true) from by simp)]
      have fin : wpAny (model X.prog X.w) X.A (setFlight (.ref a) X.env.frame) (fun _ s4 => wpAny (model X.prog X.w) X.A (throw (.ref a) : Sem Flow) (SP X pins D) X.xe s4) X.xe { s' with heap := h3 } := by
        rw [hf]
        refine HandSPX.setFlight_upZ fl3 fun h4 hh4 up4 => wpAny_throw (tk _ _ ?_)
        exact ⟨a, B, sI, pins, σ', H', cls, d, rfl, J, nbB, (up.trans up3).trans up4, .inr (.inr (by rw [hs]; exact hh4)), na, os, ag, hno rfl⟩
      first
        | exact wpAny_bind (wpAny_pure (wpAny_bind fin))
        | exact wpAny_bind fin
  · cases f with
    | next => obtain ⟨σ', H', J', q⟩ := hsp; exact wpAny_execs_nil ⟨σ', H', J'.ofTry ok, q⟩
    | brk => obtain ⟨σ', H', J', q⟩ := hsp; exact ⟨σ', H', J'.ofTry ok, q⟩
    | cont => obtain ⟨σ', H', J', q⟩ := hsp; exact ⟨σ', H', J'.ofTry ok, q⟩
    | ret u => obtain ⟨v, σ', H', J', r, q⟩ := hsp; exact ⟨v, σ', H', J'.ofTry ok, r, q⟩
end
end Mi
set_option Elab.async false
set_option linter.all false
set_option maxRecDepth 100000
set_option maxHeartbeats 4000000
namespace Mi
open PySem L2
section
variable {X : Cx}
def TTmet (K : Fg) (c : Value) : (XK → Hp → VK → Prop) → Hp → VK → Prop := fun tl H Q =>
  tl (fun cls d H' => PySem.W.exmOne K cls c = some true ∧ ∀ a, H' a = none → Q (.ref a) (upd H' a (XcO cls d a))) H (fun _ H' => Q .non H')
theorem met_givesN {sg : Scope} {g CS : Addr} {cdg : Value} {k j : Nat} {q : Str} {p1 p2 p3 p4 p5 p6 p7 p8 p9 p10 : Pos} (hgC : sg.names.lookup ("CastError" : Str) = some .globalImplicit) (hle : sg.names.lookup ("_law_e" : Str) = some .local) (hmC : X.mg "CastError" = some (.ref CS)) :
    GivesN X ["_law_deed", "_law_e"] "_law_met" sg g cdg [.Try [.Expr (.Call (.Name "_law_deed" p1) [] [] p2) p3] [.ExceptHandler (some (.Name "CastError" p4)) (some "_law_e") [.Return (some (.Name "_law_e" p5)) p6] p7] [] [] p8, .Return (some (.Constant .none j p9)) p10] "_law_deed" q k (TTmet X.K (.ref CS)) := by
  intro f0 c' s H Q tl hroom act hc h
  refine ⟨_, pss_cons (ps_try_ret (X := (cxOf C8.CX0 X.prog X.w X.K X.mg X.base ["_law_deed", "_law_e"] "_law_met" sg g cdg X.A X.stack s H C8.E0).nox) (n := "_law_e") (i := 1) (c := .ref CS) (Wout := fun _ _ _ _ => False)
      (tb := fun W D σ H => ∃ Ech : XK, (∀ cls d σ' H', Ech cls d H' → W cls d σ' H') ∧ σ[0]? = some (some (.ref f0)) ∧ H c' = some (LamX.CodeO c' q) ∧ tl Ech H (fun _ H' => D.nx σ H'))
      rfl rfl rfl (by show (["_law_deed", "_law_e"] : List Str).Nodup; decide) rfl hle ⟨hgC, by decide, .inl hmC⟩ L2N_takes0 (by decide) (by decide) (fun W pn xe tk _ => ?_)) (pss_one (ps_ret pe_non)), ?_⟩
  · refine ⟨fun pins s' σ H' D I h' => ?_⟩
    obtain ⟨Ech, hW, h1, h2, h3⟩ := h'
    have hp := act W pn xe Ech p1 p2 tk hW
    exact (pss_one (ps_expr (pos := p3) hp)).run pins s' σ H' D I ⟨h1, h2, h3⟩
  · exact ⟨fun cls d H' => PySem.W.exmOne X.K cls (.ref CS) = some true ∧ ∀ a, H' a = none → Q (.ref a) (upd H' a (XcO cls d a)), fun cls d σ' H' ⟨e1, e2⟩ => ⟨true, e1, fun _ a na => e2 a na, fun z => (nomatch z)⟩, rfl, hc, h⟩
end
/-- the refusals that a law may keep -/
def metOk (ns : List Str) (e : Exn) : Bool := match e.lacks with
  | none => decide (e.cls ∈ ns)
  | some _ => decide (e.cls = "TooMuch")
def metK (ns : List Str) (o : Out D) : Out D := match o with
  | .ok _ ρ => .ok .none ρ
  | .exn e ρ => if metOk ns e = true then .ok (.exc e) ρ else .stuck
  | .stuck => .stuck
def metE (ns : List Str) (f : MM D) : MM D := fun ρ => metK ns (f ρ)
section
variable {K : Fg} {T : Tb} {c : Gh} {W : WX}
theorem met_to {c2 : Value} {ns : List Str} {f : MM D} (hx : ∀ x ∈ ns, PySem.W.exmOne K (.ref (He.ga K x)) c2 = some true) (ht : PySem.W.exmOne K (.ref (He.ga K "TooMuch")) c2 = some true) (σ : St) (H : Hp) (Q : VK) (h : mE K T c W (metE ns f) σ H Q) :
    tLamT T (TTmet K c2) (fun E => mE K T c (fun cls d _ H => E cls d H) f) σ H Q := by
  obtain ⟨G, ρ, j, p⟩ := h
  refine ⟨j.tb, fun H1 eN eT T1 => ?_⟩
  have j1 : J K T c G H1 σ ρ := j.after ⟨Le.refl G, fun a o e => eN a o (j.sub a o e) (fun ps z => j.nt a ps (by rw [e, z])), fun _ e _ => e, eN, eT, T1, j.nt, rfl⟩
  refine ⟨G, ρ, j1, ?_⟩
  have p2 : pX K T c W (relD K) σ G Q (metK ns (f ρ)) := p
  cases z : f ρ with
  | ok d ρ' =>
    rw [z] at p2
    exact fun v G' H' l j' dv => p2 .non G' H' l j' .non
  | stuck => rw [z] at p2; exact p2.elim
  | exn e ρ' =>
    rw [z] at p2
    unfold metK at p2
    intro cls dx G' H' l j' i
    by_cases hm : metOk ns e = true
    case neg => simp only [if_neg hm] at p2; exact p2.elim
    simp only [if_pos hm] at p2
    obtain ⟨i1, i2⟩ := i
    have hc : PySem.W.exmOne K (.ref (He.ga K e.cls)) c2 = some true := by
      unfold metOk at hm
      cases q : e.lacks with
      | none =>
        simp only [q] at hm
        exact hx _ (of_decide_eq_true hm)
      | some n =>
        simp only [q] at hm
        rw [of_decide_eq_true hm]
        exact ht
    refine ⟨by rw [i1]; exact hc, fun a na => ?_⟩
    have hG := j'.fresh na
    refine p2 (.ref a) _ _ (l.trans (Le.upd hG)) (j'.grow na (fun ps z => by unfold XcO at z; cases z)) (.exc ⟨dx, ?_, ?_⟩)
    · rw [i1]
      exact upd_same
    · cases q : e.lacks with
      | none => simp only [q] at i2; exact i2
      | some n =>
        simp only [q] at i2
        obtain ⟨dd, e1, e2⟩ := i2
        exact ⟨dd, e1, by show upd G'.hp a _ dd = _; rw [upd_ne (ne_of_none e2 hG)]; exact e2⟩
end
section
variable {X : Cx} {T : Tb} {c : Gh} {W : WX}
theorem me_met {ns : List Str} {st : Stmt} {g : Addr} {fdg fdM : FuncData} {k j : Nat} {params : Arguments} {body : Expr} {scope : Scope} {fm : MM D} {p lpos pos : Pos} {p1 p2 p3 p4 p5 p6 p7 p8 p9 p10 : Pos}
    (U : ToldF X.K X.mg ns) (ht : PySem.W.exmOne X.K (.ref (He.ga X.K "TooMuch")) (.ref (He.ga X.K "CastError")) = some true) (Fg : Fun X.K "_law_met" "_law_met" st g fdg) (hmg : X.mg "_law_met" = some (.ref g)) (hbg : Binds X.K fdg ["_law_deed"] []) (Sg : FnScope ["_law_deed", "_law_e"] ["_law_deed"] (defScope st))
    (hbody0 : defBody st = [.Try [.Expr (.Call (.Name "_law_deed" p1) [] [] p2) p3] [.ExceptHandler (some (.Name "CastError" p4)) (some "_law_e") [.Return (some (.Name "_law_e" p5)) p6] p7] [] [] p8, .Return (some (.Constant .none j p9)) p10])
    (hl2 : (defScope st).names.lookup ("CastError" : Str) = some .globalImplicit) (hl4 : (defScope st).names.lookup ("_law_e" : Str) = some .local) (hl5 : Vis (defScope st) "_law_deed")
    (M : MkrF X.K X.mg X.base T fdM (X.env.qual ++ "<lambda>")) (hcd : X.env.code = fdM.code) (hr : Room (k + 2) X.A) (hgl : Gl X "_law_met") (L : LamX.lamSB X.env.scope scope = true) (hdef : defaultsOf params X.env = ([], []))
    (hbind : ∀ (q : Str) (cl : List (Str × Addr)) (pm cv ctv : Value), bindArgs (PySem.W.kla_fn "<lambda>" q params body scope cl pm cv ctv) ⟨[], []⟩ = pure [])
    (hbody : ∀ (A : Around) (outer : List Env) (s : Shared) (H : Hp) (E : XK) (f c' : Addr), Room k (A.deeper (LamX.lamEnv X scope s.heap.objs.size f c')) → PE (lamN X A outer s H E scope f c') body (mE X.K T c (fun cls d _ H => E cls d H) fm)) :
    PE X (.Call (.Name "_law_met" p) [.Lambda params body scope lpos] [] pos) (mE X.K T c W (metE ns fm)) := by
  obtain ⟨oc, od, kV, doc, pm, an, cdv, ct, osl, rfl, lk, hcd'⟩ := Fg.ex
  obtain ⟨cM, PM, e1, TB, mT, hu⟩ := M
  rw [hbody0] at lk hbg
  exact pe_mono (pe_lamcallN (T := T.tabs) (k := k) (Ng := ["_law_deed", "_law_e"]) (a := "_law_deed") (t := fun E => mE X.K T c (fun cls d _ H => E cls d H) fm) hgl hmg Fg.kp lk hcd' hbg Sg rfl hl5 (met_givesN hl2 hl4 U.ce) TB (by rw [hcd, e1]) mT hu hr (LamX.lamS_by L) hdef hbind hbody) (met_to (fun x hx => (U.x x hx).e) ht)
end
def rIsK (K : Fg) : List V → Hp → VK → Prop := fun xs H Q => ∃ (a D : Addr) (d : Option Addr) (c : V) (cv : Value) (b : Bool), xs = [.ref a, c] ∧ (∀ u, RelV c u → u = cv) ∧ ExcC K D ∧ H a = some (XcO (.ref D) d a) ∧ PySem.W.kitOne K (.ref D) cv = some b ∧ DictIn d H ∧ Q (.bl b) H
section
variable {X : Cx} {T : Tb} {c : Gh} {W : WX}
theorem call_isK : CallR X (.builtin "isinstance") (rIsK X.K) := by
  intro pins s σ H xs us Q I r h
  obtain ⟨a, D, d, c, cv, b, rfl, hcv, C, ha, e, hd, q⟩ := h
  obtain ⟨u, v, rfl, rx, rt⟩ := Vals.two r
  cases rx
  have ec := hcv _ rt
  subst ec
  obtain ⟨⟨oe, vs, hget, hcls, hdict, hv⟩, _, _⟩ := I.hok a _ ha
  obtain ⟨cdD, hcD, _⟩ := PySem.W.any_some C.hd
  have hcl : (PySem.W.clsIn X.K D).isSome = true := by rw [hcD]; rfl
  have J : ∃ od, PySem.W.InstAt s.heap a oe D od := by
    cases d with
    | none => exact ⟨none, hget, hcls, by unfold PySem.W.notCls; rw [hv] <;> rfl, by rw [hdict]; trivial⟩
    | some dd =>
      obtain ⟨fs, ex⟩ := hd dd rfl
      have hx : ObjOk X.prog X.w H s.heap dd (.xd fs) := I.hok dd _ ex
      obtain ⟨mA, hns, _⟩ := hx
      obtain ⟨od, ho, _⟩ := lookIn_ns hns
      exact ⟨some od, hget, hcls, by unfold PySem.W.notCls; rw [hv] <;> rfl, by rw [hdict]; exact ho⟩
  obtain ⟨od, J⟩ := J
  exact PySem.W.kia_one (PySem.W.kitx_exc hcl C.hg C.hk C.hs C.ha C.hn C.ht C.hm) I.kIn J e (fun z => nomatch z) fun tk => ⟨.bl b, H, I.kept (t' := tk) fun _ _ z => z, rfl, q⟩
/-- what is known of all classes of refusals -/
structure KepF (K : Fg) (mg : Str → Option Value) : Prop where
  x : ∀ x ∈ CL, ExG K x
  g : ∀ x ∈ CL, mg x = some (.ref (He.ga K x))
  tm : XfC K (tmA K)
  no : PySem.W.findIn K (.ref (tmA K)) "lacks" = some none
  ct : PySem.W.exmOne K (.ref (He.ga K "TooMuch")) (.ref (He.ga K "CastError")) = some true
theorem kepF_of {K : Fg} {mg : Str → Option Value} {ns : List Str} (U : ToldF K mg ns) (tm : TmF K) (hn : ∀ x ∈ CL, x ∈ ns ∨ x = "TooMuch") (ct : PySem.W.exmOne K (.ref (He.ga K "TooMuch")) (.ref (He.ga K "CastError")) = some true) : KepF K mg :=
  ⟨fun x hx => exG_of U tm (hn x hx), U.g, tm.x, tm.no, ct⟩
def isxD (y : Str) : D → Res D
  | .exc e => if e.cls ∈ CL ∧ y ∈ CL then .ok (.bool (decide (e.cls = y))) else .stuck
  | _ => .stuck
def isvD : D → Res D
  | .exc e => if e.cls ∈ CL then .ok (.bool true) else .stuck
  | _ => .stuck
def isxE (y : Str) (f : MM D) : MM D := MM.bind f fun d => lift (isxD y d)
def isvE (f : MM D) : MM D := MM.bind f fun d => lift (isvD d)
theorem exc_dict {K : Fg} {T : Tb} {G : Wd} {H : Hp} {σ : St} {ρ : MSt} {a : Addr} {e : Exn} (j : J K T c G H σ ρ) (h : ExcAt K G a e) : ∃ d, H a = some (XcO (.ref (He.ga K e.cls)) d a) ∧ DictIn d H ∧ ∀ n, e.lacks = some n → ∃ dd, d = some dd ∧ H dd = some (.xd [(("lacks" : Str), V.int n)]) := by
  obtain ⟨d, h1, h2⟩ := h
  cases q : e.lacks with
  | none =>
    simp only [q] at h2
    subst h2
    exact ⟨none, j.sub _ _ h1, dictIn_none, fun n z => by cases z⟩
  | some n =>
    simp only [q] at h2
    obtain ⟨dd, rfl, e2⟩ := h2
    have x := j.sub _ _ e2
    exact ⟨some dd, j.sub _ _ h1, fun d2 z => by cases z; exact ⟨_, x⟩, fun n' z => by cases z; exact ⟨dd, rfl, x⟩⟩
theorem me_isx {e : Expr} {f : MM D} {y : Str} {p2 p3 pos : Pos} (U : KepF X.K X.mg) (he0 : PE X e (mE X.K T c W f)) (hg : Gl X "isinstance") (hm : X.mg "isinstance" = none) (hy : y ∈ CL) (hgC : Gl X y) (hdc : (y == ("__debug__" : Str)) = false := by decide)
    (he : starEach [e, .Name y p2] X.env = (false, eval e X.env) :: starEach [.Name y p2] X.env := by rfl) (he2 : starEach [.Name y p2] X.env = (false, eval (.Name y p2) X.env) :: starEach [] X.env := by rfl) (hpl : (backTo pos (starEach [.Name y p2] X.env)).any (·.1) = false := by rfl) :
    PE X (.Call (.Name "isinstance" p3) [e, .Name y p2] [] pos) (mE X.K T c W (isxE y f)) := by
  refine pe_mono (pe_callB call_isK hg hm bt_isinstance (pa_cons he0 (pa_cons (pe_glob (v := V.ref (He.ga X.K y)) hgC (U.g y hy) rfl hdc) pa_nil he2) he) (by decide) (by decide) he hpl) fun σ H Q ⟨G, ρ, j, p⟩ => ?_
  refine pX_bind j p fun d v ρ1 G1 H1 l1 j1 r1 p1 => ?_
  cases d with
  | exc x =>
    have r1 : Dq X.K G1 v (.exc x) := r1
    cases r1 with
    | exc hx =>
      have p1 : pX X.K T c W (relD X.K) σ G1 Q (lift (if x.cls ∈ CL ∧ y ∈ CL then .ok (.bool (decide (x.cls = y))) else .stuck) ρ1) := p1
      by_cases m : x.cls ∈ CL ∧ y ∈ CL
      · rw [if_pos m] at p1
        obtain ⟨d, h1, h2, _⟩ := exc_dict j1 hx
        exact ⟨_, _, d, .ref (He.ga X.K y), .ref (He.ga X.K y), decide (x.cls = y), rfl, fun u r => r, (U.x _ m.1).c, h1, (U.x _ m.1).k y hy, h2, p1.here j1 (.bl _)⟩
      · rw [if_neg m] at p1
        exact p1.elim
  | _ => exact p1.elim
theorem me_isv {e : Expr} {f : MM D} {p2 p3 pos : Pos} (U : KepF X.K X.mg) (he0 : PE X e (mE X.K T c W f)) (hg : Gl X "isinstance") (hm : X.mg "isinstance" = none) (hgC : Gl X "ValueError") (hmC : X.mg "ValueError" = none)
    (he : starEach [e, .Name "ValueError" p2] X.env = (false, eval e X.env) :: starEach [.Name "ValueError" p2] X.env := by rfl) (he2 : starEach [.Name "ValueError" p2] X.env = (false, eval (.Name "ValueError" p2) X.env) :: starEach [] X.env := by rfl) (hpl : (backTo pos (starEach [.Name "ValueError" p2] X.env)).any (·.1) = false := by rfl) :
    PE X (.Call (.Name "isinstance" p3) [e, .Name "ValueError" p2] [] pos) (mE X.K T c W (isvE f)) := by
  refine pe_mono (pe_callB call_isK hg hm bt_isinstance (pa_cons he0 (pa_cons (pe_bltn (v := V.ty "ValueError") (u := .type "ValueError") hgC hmC (by decide +kernel) rfl) pa_nil he2) he) (by decide) (by decide) he hpl) fun σ H Q ⟨G, ρ, j, p⟩ => ?_
  refine pX_bind j p fun d v ρ1 G1 H1 l1 j1 r1 p1 => ?_
  cases d with
  | exc x =>
    have r1 : Dq X.K G1 v (.exc x) := r1
    cases r1 with
    | exc hx =>
      have p1 : pX X.K T c W (relD X.K) σ G1 Q (lift (if x.cls ∈ CL then .ok (.bool true) else .stuck) ρ1) := p1
      by_cases m : x.cls ∈ CL
      · rw [if_pos m] at p1
        obtain ⟨d, h1, h2, _⟩ := exc_dict j1 hx
        exact ⟨_, _, d, .ty "ValueError", .type "ValueError", true, rfl, fun u r => r, (U.x _ m).c, h1, (U.x _ m).v, h2, p1.here j1 (.bl _)⟩
      · rw [if_neg m] at p1
        exact p1.elim
  | _ => exact p1.elim
def lackD : D → Res D
  | .exc e => (match e.lacks with
    | some n => if e.cls = "TooMuch" then .ok (.int n) else .stuck
    | none => .stuck)
  | _ => .stuck
def lackE (f : MM D) : MM D := MM.bind f fun d => lift (lackD d)
theorem me_lacks {e : Expr} {f : MM D} {pos : Pos} (U : KepF X.K X.mg) (he : PE X e (mE X.K T c W f)) (hb : attributeBase e "lacks" X.env (eval e X.env) = eval e X.env := by rfl) : PE X (.Attribute e "lacks" pos) (mE X.K T c W (lackE f)) := by
  refine ⟨fun pins s σ H Q I ⟨G, ρ, j, p⟩ => ?_⟩
  have h : mE X.K T c W f σ H (fun v H1 => ∃ (a dd : Addr) (n : Int), v = .ref a ∧ H1 a = some (XcO (.ref (tmA X.K)) (some dd) a) ∧ H1 dd = some (.xd [(("lacks" : Str), V.int n)]) ∧ Q (.int n) H1) := by
    refine pX_bind j p fun d v ρ1 G1 H1 l1 j1 r1 p1 => ?_
    cases d with
    | exc x =>
      have r1 : Dq X.K G1 v (.exc x) := r1
      cases r1 with
      | exc hx =>
        obtain ⟨d, h1, h2, h3⟩ := exc_dict j1 hx
        unfold lackD at p1
        cases q : x.lacks with
        | none => simp only [q] at p1; exact p1.elim
        | some n =>
          simp only [q] at p1
          by_cases m : x.cls = "TooMuch"
          · rw [if_pos m] at p1
            obtain ⟨dd, rfl, e2⟩ := h3 n q
            rw [m] at h1
            exact ⟨_, dd, n, rfl, h1, e2, p1.here j1 (.int n)⟩
          · rw [if_neg m] at p1
            exact p1.elim
    | _ => exact p1.elim
  refine attr_of hb (thn (he.run pins s σ H _ I h) fun u s1 hh => ?_)
  obtain ⟨x, H1, I1, rx, a, dd, n, rfl, ea, ed, q⟩ := hh
  obtain rfl : u = Value.ref a := rx
  obtain ⟨⟨oe, vs, hget, hcls, hdict, hv⟩, _, _⟩ := I1.hok a _ ea
  have hx : ObjOk X.prog X.w H1 s1.heap dd (.xd [(("lacks" : Str), V.int n)]) := I1.hok dd _ ed
  obtain ⟨mA, hns, hr⟩ := hx
  obtain ⟨od, ho, hl⟩ := lookIn_ns hns
  obtain ⟨u, hu, ru⟩ := RelO.some_of (v := V.int n) (o := mA "lacks") (hr "lacks")
  have J : PySem.W.InstAt s1.heap a oe (tmA X.K) (some od) := ⟨hget, hcls, by unfold PySem.W.notCls; rw [hv] <;> rfl, by rw [hdict]; exact ho⟩
  exact HandSPX.exc_get I1.kIn J U.tm.ga U.tm.gg U.tm.exC (PySem.W.findObj_own U.tm.hdC U.no rfl (by rw [hl, hu])) (handed_of ru) ⟨V.int n, H1, I1.tok _, ru, q⟩
end
end Mi
set_option Elab.async false
set_option linter.all false
set_option maxRecDepth 100000
set_option maxHeartbeats 4000000
namespace Mi
open PySem PySem.Spec PyProof.Rows L2
section
variable {X : Cx} {T : Tb} {c : Gh} {W : WX}
theorem mul_fits {x : Str} {n : Int} (h0 : 0 ≤ n) (h1 : n ≤ 1000) (hx : x.length ≤ 1000) : MulOk x n := by
  refine ⟨?_, fun hn _ => ?_, fun hn _ => ?_⟩
  · rw [decide_eq_false (by omega), decide_eq_false (by omega)] <;> rfl
  · have a : (1000 : Int) ≤ (2 ^ 63 - 1) / n := (Int.le_ediv_iff_mul_le (by omega)).mpr (by omega)
    omega
  · have a : x.length * n.toNat ≤ 1000 * 1000 := Nat.mul_le_mul hx (by omega)
    show decide (x.length * n.toNat > sizeLine) = false
    rw [sizeLine_eq]
    exact decide_eq_false (by omega)
def rMulS : R2 := fun x y H Q => ∃ (z : Str) (n : Int), x = .str z ∧ y = .int n ∧ 0 ≤ n ∧ n ≤ 1000 ∧ z.length ≤ 1000 ∧ Q (.str (Txt.mul z n)) H
theorem op_mulS : OpR X (binaryOp .Mult) rMulS := by
  intro pins s σ H x y v u Q I rx ry h
  obtain ⟨z, n, rfl, rfl, h0, h1, h2, q⟩ := h
  obtain ⟨t, rfl⟩ := rx
  obtain ⟨t', rfl⟩ := ry
  exact SB.mul (mul_fits h0 h1 h2) fun t' k => ⟨.str _, H, I.tok _, ⟨_, rfl⟩, q⟩
def dMulS : D → D → Res D
  | .str x, .int n => if 0 ≤ n ∧ n ≤ 1000 ∧ x.length ≤ 1000 then .ok (.str (Txt.mul x n)) else .stuck
  | _, _ => .stuck
theorem o_mulS : Op2 X T c W (binaryOp .Mult) dMulS := by
  refine ⟨_, op_mulS, fun σ ρ G H x y d e Q j dx dy p => ?_⟩
  cases dx with
  | str z =>
    cases dy with
    | int n =>
      have p : pX X.K T c W (relD X.K) σ G Q (lift (if 0 ≤ n ∧ n ≤ 1000 ∧ z.length ≤ 1000 then .ok (.str (Txt.mul z n)) else .stuck) ρ) := p
      by_cases h : 0 ≤ n ∧ n ≤ 1000 ∧ z.length ≤ 1000
      · rw [if_pos h] at p
        exact ⟨z, n, rfl, rfl, h.1, h.2.1, h.2.2, p.here j (.str _)⟩
      · rw [if_neg h] at p
        exact p.elim
    | _ => exact p.elim
  | _ => cases dy <;> exact p.elim
end
end Mi
set_option Elab.async false
set_option linter.all false
set_option maxRecDepth 100000
set_option maxHeartbeats 4000000
namespace Mi
open PySem L2
structure Fx (K : Fg) (mg : Str → Option Value) where
  d__law_cell : DefF K mg "_law_cell" (top 85) ["_law_script", "_law_k"]
  d__law_rounds : DefF K mg "_law_rounds" (top 88) ["_law_script", "_law_high"]
  d_is_word : DefF K mg "is_word" (top 22) ["thing"]
  d_need_word : DefF K mg "need_word" (top 32) ["thing"]
  d_Foundry_need_new : DefM K "Foundry" "need_new" "Foundry.need_new" (inn (top 56) 2) ["self", "kind", "name"]
  mt_Foundry_need_new : Meth K (He.ga K "Foundry") "need_new" d_Foundry_need_new.f
  d_rise : DefF K mg "rise" (top 24) ["rows"]
  d_is_tuple : DefF K mg "is_tuple" (top 23) ["thing", "many"]
  d_is_whole : DefF K mg "is_whole" (top 21) ["thing", "low", "high"]
  d_is_stuff : DefF K mg "is_stuff" (top 25) ["thing"]
  d_need_stuff : DefF K mg "need_stuff" (top 29) ["thing"]
  d_Lot___init__ : DefM K "Lot" "__init__" "Lot.__init__" (inn (top 52) 0) ["self", "weight", "stuff", "price", "origin", "ways"]
  mk_Lot : Mk K (He.ga K "Lot") d_Lot___init__.f
  d_Lot_copy : DefM K "Lot" "copy" "Lot.copy" (inn (top 52) 1) ["self"]
  mt_Lot_copy : Meth K (He.ga K "Lot") "copy" d_Lot_copy.f
  d_Casting___init__ : DefM K "Casting" "__init__" "Casting.__init__" (inn (top 53) 0) ["self", "pot", "weight", "standing"]
  mk_Casting : Mk K (He.ga K "Casting") d_Casting___init__.f
  d_Foundry_remember : DefM K "Foundry" "remember" "Foundry.remember" (inn (top 56) 1) ["self", "deed"]
  mt_Foundry_remember : Meth K (He.ga K "Foundry") "remember" d_Foundry_remember.f
  d_Foundry_buy : DefM K "Foundry" "buy" "Foundry.buy" (inn (top 56) 3) ["self", "name", "weight", "stuff", "price"]
  mt_Foundry_buy : Meth K (He.ga K "Foundry") "buy" d_Foundry_buy.f
  d_Foundry___init__ : DefM K "Foundry" "__init__" "Foundry.__init__" (inn (top 56) 0) ["self"]
  mk_Foundry : Mk K (He.ga K "Foundry") d_Foundry___init__.f
  d__law_met : DefF K mg "_law_met" (top 89) ["_law_deed"]
  d__law_drawn : DefF K mg "_law_drawn" (top 86) ["_law_cell_here", "_law_k"]
  d__law_roll : DefF K mg "_law_roll" (top 87) ["_law_dice", "_law_many"]
  d_need_left : DefF K mg "need_left" (top 54) ["have", "weight"]
  d_Foundry_need_lots : DefM K "Foundry" "need_lots" "Foundry.need_lots" (inn (top 56) 4) ["self", "charge"]
  mt_Foundry_need_lots : Meth K (He.ga K "Foundry") "need_lots" d_Foundry_need_lots.f
  d_is_charge : DefF K mg "is_charge" (top 44) ["thing"]
  d_Foundry_melt : DefM K "Foundry" "melt" "Foundry.melt" (inn (top 56) 5) ["self", "name", "charge"]
  mt_Foundry_melt : Meth K (He.ga K "Foundry") "melt" d_Foundry_melt.f
  d_stuff_text : DefF K mg "stuff_text" (top 81) ["stuff"]
  d_is_wish : DefF K mg "is_wish" (top 26) ["thing"]
  d_need_wish : DefF K mg "need_wish" (top 30) ["thing"]
  d_meets : DefF K mg "meets" (top 38) ["one", "other"]
  d_is_weighed : DefF K mg "is_weighed" (top 27) ["thing"]
  d_is_load : DefF K mg "is_load" (top 28) ["thing"]
  d_need_load : DefF K mg "need_load" (top 31) ["thing"]
  d_weight_of : DefF K mg "weight_of" (top 36) ["load"]
  d_is_lot : DefF K mg "is_lot" (top 41) ["thing"]
  d_is_lots : DefF K mg "is_lots" (top 42) ["thing"]
  d_need_lots : DefF K mg "need_lots" (top 43) ["thing"]
  d_need_weight : DefF K mg "need_weight" (top 46) ["weight"]
  d_cheapest : DefF K mg "cheapest" (top 50) ["lots", "wish", "weight"]
  d_need_charge : DefF K mg "need_charge" (top 45) ["lots", "charge"]
  d_price_of : DefF K mg "price_of" (top 48) ["lots", "charge"]
  d_is_int : DefF K mg "is_int" (top 58) ["thing"]
  d_need_paper : DefF K mg "need_paper" (top 59) ["wish", "paper"]
  d_bound : DefF K mg "bound" (top 62) ["lots", "wish", "weight", "paper"]
  d_are_unlike : DefF K mg "are_unlike" (top 64) ["rows"]
  d_is_form : DefF K mg "is_form" (top 72) ["thing"]
  d_need_forms : DefF K mg "need_forms" (top 73) ["forms"]
  d_apart : DefF K mg "apart" (top 77) ["forms"]
  d_Foundry_pour : DefM K "Foundry" "pour" "Foundry.pour" (inn (top 56) 6) ["self", "name", "melt", "weight"]
  mt_Foundry_pour : Meth K (He.ga K "Foundry") "pour" d_Foundry_pour.f
  d_Foundry_undo : DefM K "Foundry" "undo" "Foundry.undo" (inn (top 56) 13) ["self"]
  mt_Foundry_undo : Meth K (He.ga K "Foundry") "undo" d_Foundry_undo.f
  d_need_castings : DefF K mg "need_castings" (top 67) ["flasks", "castings"]
  d_best_end : DefF K mg "best_end" (top 70) ["flasks", "castings"]
  d_words_in : DefF K mg "words_in" (top 82) ["text"]
  d_number_in : DefF K mg "number_in" (top 80) ["text", "long"]
  d_read_wish : DefF K mg "read_wish" (top 83) ["text"]
  d__law_alone : DefF K mg "_law_alone" (top 90) ["_law_e", "_law_own"]
  d_law : DefF K mg "law" (top 91) ["_law_script"]
  d_TooMuch___init__ : DefM K "TooMuch" "__init__" "TooMuch.__init__" (inn (top 3) 0) ["self", "lacks"]
  k_Foundry : Cls K (He.ga K "Foundry")
  g_Foundry : mg "Foundry" = some (.ref (He.ga K "Foundry"))
  k_Lot : Cls K (He.ga K "Lot")
  g_Lot : mg "Lot" = some (.ref (He.ga K "Lot"))
  k_Casting : Cls K (He.ga K "Casting")
  g_Casting : mg "Casting" = some (.ref (He.ga K "Casting"))
  na_Foundry_named : NoAttr K (He.ga K "Foundry") "named"
  na_Lot_weight : NoAttr K (He.ga K "Lot") "weight"
  na_Lot_left : NoAttr K (He.ga K "Lot") "left"
  na_Lot_stuff : NoAttr K (He.ga K "Lot") "stuff"
  na_Lot_price : NoAttr K (He.ga K "Lot") "price"
  na_Lot_origin : NoAttr K (He.ga K "Lot") "origin"
  na_Lot_ways : NoAttr K (He.ga K "Lot") "ways"
  na_Casting_pot : NoAttr K (He.ga K "Casting") "pot"
  na_Casting_weight : NoAttr K (He.ga K "Casting") "weight"
  na_Casting_standing : NoAttr K (He.ga K "Casting") "standing"
  na_Foundry_deeds : NoAttr K (He.ga K "Foundry") "deeds"
  na_Foundry_store : NoAttr K (He.ga K "Foundry") "store"
  na_Foundry_pots : NoAttr K (He.ga K "Foundry") "pots"
  na_Foundry_cast : NoAttr K (He.ga K "Foundry") "cast"
  na_Foundry_past : NoAttr K (He.ga K "Foundry") "past"
  n_len : mg "len" = none
  n_range : mg "range" = none
  n_max : mg "max" = none
  n_min : mg "min" = none
  n_isinstance : mg "isinstance" = none
  n_str : mg "str" = none
  n_all : mg "all" = none
  n_zip : mg "zip" = none
  n_tuple : mg "tuple" = none
  n_int : mg "int" = none
  n_bool : mg "bool" = none
  n_sum : mg "sum" = none
  n_dict : mg "dict" = none
  n_list : mg "list" = none
  n_set : mg "set" = none
  n_ValueError : mg "ValueError" = none
  n_enumerate : mg "enumerate" = none
  c_SMALL : ∃ t, mg "SMALL" = some (.str "abcdefghijklmnopqrstuvwxyz" t)
  c_HEAVIEST : ∃ t, mg "HEAVIEST" = some (.int 9999 t)
  c_MOST_WEIGHT : ∃ t, mg "MOST_WEIGHT" = some (.int 60 t)
  c_FIGURES : ∃ t, mg "FIGURES" = some (.str "0123456789" t)
structure Zx {K : Fg} {mg : Str → Option Value} (Y : Fx K mg) (base : Heap) (T : Tb) : Prop where
  U : ToldF K mg nsX
  tm : TmF K
  kp : KepF K mg
  mk_law : MkrF K mg base T Y.d_law.fd (qlam "law")
section
variable {P : Program} {w : World} {K : Fg} {mg : Str → Option Value} {base : Heap} {T : Tb}
theorem sc_TooMuch___init__ : FnScope ["self", "lacks"] ["self", "lacks"] (defScope (inn (top 3) 0)) := ⟨rfl, rfl, rfl, by decide +kernel, rfl, by decide +kernel, by decide +kernel⟩
theorem ok_TooMuch___init__ (Y : Fx K mg) (Z : Zx Y base T) (hT : T.td = tdO P w) : FnOk P w K mg base (L2N.CX P w) 1 (tmI K) Y.d_TooMuch___init__.fd ["self", "lacks"] (spTM K) := by
  have h : FnOk P w K mg base (L2N.CX P w) 1 Y.d_TooMuch___init__.f Y.d_TooMuch___init__.fd ["self", "lacks"] (spTM K) :=
    okN Y.d_TooMuch___init__.F sc_TooMuch___init__ (fun vs H Q E ⟨a, n, h, _⟩ => by rw [h]; rfl) fun cdv hcd A outer s H vs Q E hr h => ⟨_, pss_cons (ps_expr (pe_ceinit Z.tm rfl Z.U.ce (pa_cons (pv 0) (pa_cons pe_str pa_nil)))) (pss_one (ps_ost (pv 0) (pv 1))), tm_reads Z.tm h⟩
  rw [Y.d_TooMuch___init__.e] at h
  exact h
theorem sc__law_met : FnScope ["_law_deed", "_law_e"] ["_law_deed"] (defScope (top 89)) := ⟨rfl, rfl, rfl, by decide +kernel, rfl, by decide +kernel, by decide +kernel⟩
theorem sc__law_cell : FnScope ["_law_script", "_law_k"] ["_law_script", "_law_k"] (defScope (top 85)) := ⟨rfl, rfl, rfl, by decide +kernel, rfl, by decide +kernel, by decide +kernel⟩
theorem ok__law_cell (Y : Fx K mg) (Z : Zx Y base T) (hT : T.td = tdO P w) : FnOk P w K mg base (L2N.CX P w) 1 Y.d__law_cell.f Y.d__law_cell.fd ["_law_script", "_law_k"] (spCell K) :=
  okN Y.d__law_cell.F sc__law_cell (fun vs H Q E ⟨a, k, ns, h, _⟩ => by rw [h]; rfl) fun cdv hcd A outer s H vs Q E hr h => ⟨_, pss_cons (ps_if (pt_cmpR (op_eqD hr.units) (pv 0) (pe_lst pa_nil) (nomark _)) (pss_one (ps_ret (pe_op op_mul (pv 1) pe_int))) pss_nil)
    (pss_one (ps_ret (pe_op op_add (pe_ix ix_list (pv 0) (pe_op op_mod (pv 1) (pe_callB call_len_seq rfl Y.n_len bt_len (pa_cons (pv 0) pa_nil))) (fun _ _ => rfl)) (pe_op op_mul (pe_op op_fdiv (pv 1) (pe_callB call_len_seq rfl Y.n_len bt_len (pa_cons (pv 0) pa_nil))) pe_int)))), cell_reads h⟩
theorem sc__law_rounds : FnScope ["_law_script", "_law_high", "_law_k"] ["_law_script", "_law_high"] (defScope (top 88)) := ⟨rfl, rfl, rfl, by decide +kernel, rfl, by decide +kernel, by decide +kernel⟩
theorem ok__law_rounds (Y : Fx K mg) (Z : Zx Y base T) (hT : T.td = tdO P w) : FnOk P w K mg base (L2N.CX P w) 2 Y.d__law_rounds.f Y.d__law_rounds.fd ["_law_script", "_law_high"] (spRounds K) :=
  okN Y.d__law_rounds.F sc__law_rounds (fun vs H Q E ⟨a, k, ns, h, _⟩ => by rw [h]; rfl) fun cdv hcd A outer s H vs Q E hr h => ⟨_, pss_one (ps_ret (pe_lc (own := [("_law_k", 2)]) rfl sc__law_rounds.nd (pi_range1 rfl Y.n_range (pa_cons (pe_callB (call_max2 rfl) rfl Y.n_max bt_max (pa_cons pe_int (pa_cons (pe_callB (call_min2 rfl) rfl Y.n_min bt_min (pa_cons (pv 1) (pa_cons (pe_callB call_len_seq rfl Y.n_len bt_len (pa_cons (pv 0) pa_nil)) pa_nil))) pa_nil))) pa_nil)) (blk_of [("_law_k", 2)] rfl)
    (fun s H C cl fp => pg_name (i := 2) sc__law_rounds.nd rfl (by first | exact Or.inl rfl | exact Or.inr rfl)) (fun s H C cl fp => pts_nil) (fun s H C cl fp => pe_lst (pa_cons (pe_callS (ok__law_cell Y Z hT) (hr.mono (by decide)) rfl Y.d__law_cell.g Y.d__law_cell.F.kp Y.d__law_cell.b (fun σ => L2N.passAt takes0 σ) (pa_cons (pv 0) (pa_cons (pv 2) pa_nil))) (pa_cons pe_int pa_nil))))), rounds_reads h⟩
def c_is_word_1 : MM D := (op2 dIn (var 1) (MM.pure (.str "abcdefghijklmnopqrstuvwxyz")))
def b_is_word : MM Fl := (retS (andV (isiE isStr (var 0)) (andV (chainV dLe dLe (MM.pure (.int 1)) (callE dLen (consA (var 0) (MM.pure []))) (MM.pure (.int 8))) (callE dAll (consA (MM.bind (iterA (var 0)) (compL [1] (setD 1) (MM.pure true) c_is_word_1)) (MM.pure []))))))
def m_is_word : List D → Res D := runF 2 1 b_is_word
theorem sc_is_word : FnScope ["thing", "sign"] ["thing"] (defScope (top 22)) := ⟨rfl, rfl, rfl, by decide +kernel, rfl, by decide +kernel, by decide +kernel⟩
theorem ok_is_word (Y : Fx K mg) (Z : Zx Y base T) (hT : T.td = tdO P w) : FnOk P w K mg base (L2N.CX P w) 1 Y.d_is_word.f Y.d_is_word.fd ["thing"] (spF K T m_is_word) :=
  have nd := sc_is_word.nd
  fn_def Y.d_is_word.F sc_is_word fun cdv hcd A outer s H E c hr =>
    (ms_one (ms_ret (me_and (me_isi kit_str rfl Y.n_isinstance rfl Y.n_str bt_str (mv 0) bt_isinstance) (me_and (me_chain o_le o_le me_int (me_callB b_len rfl Y.n_len bt_len (ma_cons (mv 0) ma_nil)) me_int) (me_one (me_callB (b_all rfl) rfl Y.n_all bt_all (ma_cons (me_lc rfl nd (mi_all (mv 0)) (blk_of [("sign", 1)] rfl) rfl (fun c s H C cl fp => (mgn 1 nd)) (fun c s H C cl fp => mts_nil) (fun c s H C cl fp => (me_cmp (o_in (hu_of hr)) (mv 1) (me_gstr rfl Y.c_SMALL) (by rfl)))) ma_nil)))))))
def b_need_word : MM Fl := (ifS (notT (tst (callE m_is_word (consA (var 0) (MM.pure []))))) (raiseS "BadWord") (MM.pure .nx))
def m_need_word : List D → Res D := runF 1 1 b_need_word
theorem sc_need_word : FnScope ["thing"] ["thing"] (defScope (top 32)) := ⟨rfl, rfl, rfl, by decide +kernel, rfl, by decide +kernel, by decide +kernel⟩
theorem ok_need_word (Y : Fx K mg) (Z : Zx Y base T) (hT : T.td = tdO P w) : FnOk P w K mg base (L2N.CX P w) 2 Y.d_need_word.f Y.d_need_word.fd ["thing"] (spF K T m_need_word) :=
  have nd := sc_need_word.nd
  fn_def Y.d_need_word.F sc_need_word fun cdv hcd A outer s H E c hr =>
    (ms_one (ms_if (mt_not (mt_val (me_call (ok_is_word Y Z hT) (hr.mono (by decide)) rfl Y.d_is_word.g Y.d_is_word.F.kp Y.d_is_word.b (L2N.takes_of rfl rfl rfl rfl) (ma_cons (mv 0) ma_nil)))) (ms_one (ms_raise rfl (L2N.takes_of rfl rfl rfl rfl) (Z.U.x "BadWord" (by decide +kernel)).o (Z.U.g "BadWord" (by decide +kernel)) rfl)) ms_nil))
def b_Foundry_need_new : MM Fl := (seqS (exprS (callE m_need_word (consA (var 2) (MM.pure [])))) (ifS (opTM (inM false) (var 2) (op2M ixM (attrE "Foundry" "named" (var 0)) (var 1))) (raiseS "Taken") (MM.pure .nx)))
def m_Foundry_need_new : Sto → List D → SRes := runS 3 3 b_Foundry_need_new
theorem sc_Foundry_need_new : FnScope ["self", "kind", "name"] ["self", "kind", "name"] (defScope (inn (top 56) 2)) := ⟨rfl, rfl, rfl, by decide +kernel, rfl, by decide +kernel, by decide +kernel⟩
theorem ok_Foundry_need_new (Y : Fx K mg) (Z : Zx Y base T) (hT : T.td = tdO P w) : FnOk P w K mg base (L2N.CX P w) 3 Y.d_Foundry_need_new.f Y.d_Foundry_need_new.fd ["self", "kind", "name"] (spS K T m_Foundry_need_new) :=
  have nd := sc_Foundry_need_new.nd
  fn_defS Y.d_Foundry_need_new.F sc_Foundry_need_new fun cdv hcd A outer s H E c hr =>
    (ms_seq (ms_expr (me_call (ok_need_word Y Z hT) (hr.mono (by decide)) rfl Y.d_need_word.g Y.d_need_word.F.kp Y.d_need_word.b (L2N.takes_of rfl rfl rfl rfl) (ma_cons (mv 2) ma_nil))) (ms_one (ms_if (mt_cmpM (o_inM (hu9 hr) hT) (mv 2) (me_ixM (hu9 hr) hT (me_attr Y.k_Foundry Y.na_Foundry_named (mv 0)) (mv 1) (fun _ _ => rfl)) (by rfl)) (ms_one (ms_raise rfl (L2N.takes_of rfl rfl rfl rfl) (Z.U.x "Taken" (by decide +kernel)).o (Z.U.g "Taken" (by decide +kernel)) rfl)) ms_nil)))
def c_rise_1 : MM D := (op2 dLt (op2 dIx (var 1) (MM.pure (.int 0))) (op2 dIx (var 2) (MM.pure (.int 0))))
def b_rise : MM Fl := (retS (callE dAll (consA (MM.bind (MM.bind (consA (var 0) (consA (sliceE (var 0) (partS (MM.pure (.int 1))) partN) (MM.pure []))) fun ds => lift (zip2 ds)) (compL [1, 2] (setT [1, 2]) (MM.pure true) c_rise_1)) (MM.pure []))))
def m_rise : List D → Res D := runF 3 1 b_rise
theorem sc_rise : FnScope ["rows", "one", "other"] ["rows"] (defScope (top 24)) := ⟨rfl, rfl, rfl, by decide +kernel, rfl, by decide +kernel, by decide +kernel⟩
theorem ok_rise (Y : Fx K mg) (Z : Zx Y base T) (hT : T.td = tdO P w) : FnOk P w K mg base (L2N.CX P w) 1 Y.d_rise.f Y.d_rise.fd ["rows"] (spF K T m_rise) :=
  have nd := sc_rise.nd
  fn_def Y.d_rise.F sc_rise fun cdv hcd A outer s H E c hr =>
    (ms_one (ms_ret (me_callB (b_all rfl) rfl Y.n_all bt_all (ma_cons (me_lc rfl nd (mi_zip rfl Y.n_zip (ma_cons (mv 0) (ma_cons (me_slice (mv 0) (mo_some me_int) mo_none) ma_nil))) (blk_of [("one", 1), ("other", 2)] rfl) rfl (fun c s H C cl fp => (mg_tup rfl (mgc 1 nd (mgc 2 nd mgs_nil)))) (fun c s H C cl fp => mts_nil) (fun c s H C cl fp => (me_cmp o_lt (me_ix (hu_of hr) (mv 1) me_int (fun _ _ => rfl)) (me_ix (hu_of hr) (mv 2) me_int (fun _ _ => rfl)) (nomark _)))) ma_nil))))
def b_is_tuple : MM Fl := (retS (andV (isiE isTup (var 0)) (andV (op2 dEq (callE dLen (consA (var 0) (MM.pure []))) (var 1)) (callE m_is_word (consA (op2 dIx (var 0) (MM.pure (.int 0))) (MM.pure []))))))
def m_is_tuple : List D → Res D := runF 2 2 b_is_tuple
theorem sc_is_tuple : FnScope ["thing", "many"] ["thing", "many"] (defScope (top 23)) := ⟨rfl, rfl, rfl, by decide +kernel, rfl, by decide +kernel, by decide +kernel⟩
theorem ok_is_tuple (Y : Fx K mg) (Z : Zx Y base T) (hT : T.td = tdO P w) : FnOk P w K mg base (L2N.CX P w) 2 Y.d_is_tuple.f Y.d_is_tuple.fd ["thing", "many"] (spF K T m_is_tuple) :=
  have nd := sc_is_tuple.nd
  fn_def Y.d_is_tuple.F sc_is_tuple fun cdv hcd A outer s H E c hr =>
    (ms_one (ms_ret (me_and (me_isi kit_tup rfl Y.n_isinstance rfl Y.n_tuple bt_tuple (mv 0) bt_isinstance) (me_and (me_cmp (o_eq hr.units) (me_callB b_len rfl Y.n_len bt_len (ma_cons (mv 0) ma_nil)) (mv 1) (nomark _)) (me_one (me_call (ok_is_word Y Z hT) (hr.mono (by decide)) rfl Y.d_is_word.g Y.d_is_word.F.kp Y.d_is_word.b (L2N.takes_of rfl rfl rfl rfl) (ma_cons (me_ix (hu_of hr) (mv 0) me_int (fun _ _ => rfl)) ma_nil)))))))
def b_is_whole : MM Fl := (retS (andV (isiE isInt (var 0)) (andV (notV (isiE isBool (var 0))) (chainV dLe dLe (var 1) (var 0) (var 2)))))
def m_is_whole : List D → Res D := runF 3 3 b_is_whole
theorem sc_is_whole : FnScope ["thing", "low", "high"] ["thing", "low", "high"] (defScope (top 21)) := ⟨rfl, rfl, rfl, by decide +kernel, rfl, by decide +kernel, by decide +kernel⟩
theorem ok_is_whole (Y : Fx K mg) (Z : Zx Y base T) (hT : T.td = tdO P w) : FnOk P w K mg base (L2N.CX P w) 1 Y.d_is_whole.f Y.d_is_whole.fd ["thing", "low", "high"] (spF K T m_is_whole) :=
  have nd := sc_is_whole.nd
  fn_def Y.d_is_whole.F sc_is_whole fun cdv hcd A outer s H E c hr =>
    (ms_one (ms_ret (me_and (me_isi kit_int rfl Y.n_isinstance rfl Y.n_int bt_int (mv 0) bt_isinstance) (me_and (me_not (me_isi kit_bool rfl Y.n_isinstance rfl Y.n_bool bt_bool (mv 0) bt_isinstance)) (me_one (me_chain o_le o_le (mv 1) (mv 0) (mv 2)))))))
def c_is_stuff_1 : MM D := (callE m_is_tuple (consA (var 1) (consA (MM.pure (.int 2)) (MM.pure []))))
def c_is_stuff_2 : MM D := (callE m_is_whole (consA (var 3) (consA (MM.pure (.int 1)) (consA (MM.pure (.int 1000)) (MM.pure [])))))
def c_is_stuff_3 : MM D := (var 3)
def b_is_stuff : MM Fl := (seqS (ifS (orT (notT (tst (isiE isTup (var 0)))) (orT (opT dGt (callE dLen (consA (var 0) (MM.pure []))) (MM.pure (.int 6))) (notT (tst (callE dAll (consA (MM.bind (iterA (var 0)) (compL [1] (setD 1) (MM.pure true) c_is_stuff_1)) (MM.pure []))))))) (retS (MM.pure (.bool false))) (MM.pure .nx)) (seqS (ifS (orT (notT (tst (callE dAll (consA (MM.bind (iterA (var 0)) (compL [2, 3] (setT [2, 3]) (MM.pure true) c_is_stuff_2)) (MM.pure []))))) (notT (tst (callE m_rise (consA (var 0) (MM.pure [])))))) (retS (MM.pure (.bool false))) (MM.pure .nx)) (retS (op2 dLe (callE dSum (consA (MM.bind (iterA (var 0)) (compL [2, 3] (setT [2, 3]) (MM.pure true) c_is_stuff_3)) (MM.pure []))) (MM.pure (.int 1000))))))
def m_is_stuff : List D → Res D := runF 4 1 b_is_stuff
theorem sc_is_stuff : FnScope ["thing", "one", "element", "much"] ["thing"] (defScope (top 25)) := ⟨rfl, rfl, rfl, by decide +kernel, rfl, by decide +kernel, by decide +kernel⟩
theorem ok_is_stuff (Y : Fx K mg) (Z : Zx Y base T) (hT : T.td = tdO P w) : FnOk P w K mg base (L2N.CX P w) 3 Y.d_is_stuff.f Y.d_is_stuff.fd ["thing"] (spF K T m_is_stuff) :=
  have nd := sc_is_stuff.nd
  fn_def Y.d_is_stuff.F sc_is_stuff fun cdv hcd A outer s H E c hr =>
    (ms_seq (ms_if (PW.pt (mw_or (mt_not (mt_val (me_isi kit_tup rfl Y.n_isinstance rfl Y.n_tuple bt_tuple (mv 0) bt_isinstance))) (mw_or (mt_cmp o_gt (me_callB b_len rfl Y.n_len bt_len (ma_cons (mv 0) ma_nil)) me_int (nomark _)) (mw_or1 (mt_not (mt_val (me_callB (b_all rfl) rfl Y.n_all bt_all (ma_cons (me_lc rfl nd (mi_all (mv 0)) (blk_of [("one", 1)] rfl) rfl (fun c s H C cl fp => (mgn 1 nd)) (fun c s H C cl fp => mts_nil) (fun c s H C cl fp => (me_call (ok_is_tuple Y Z hT) (hr.mono (by decide)) rfl Y.d_is_tuple.g Y.d_is_tuple.F.kp Y.d_is_tuple.b takes0 (ma_cons (mv 1) (ma_cons me_int ma_nil))))) ma_nil)))))))) (ms_one (ms_ret me_bl)) ms_nil) (ms_seq (ms_if (PW.pt (mw_or (mt_not (mt_val (me_callB (b_all rfl) rfl Y.n_all bt_all (ma_cons (me_lc rfl nd (mi_all (mv 0)) (blk_of [("element", 2), ("much", 3)] rfl) rfl (fun c s H C cl fp => (mg_tupD rfl (mgc 2 nd (mgc 3 nd mgs_nil)))) (fun c s H C cl fp => mts_nil) (fun c s H C cl fp => (me_call (ok_is_whole Y Z hT) (hr.mono (by decide)) rfl Y.d_is_whole.g Y.d_is_whole.F.kp Y.d_is_whole.b takes0 (ma_cons (mv 3) (ma_cons me_int (ma_cons me_int ma_nil)))))) ma_nil)))) (mw_or1 (mt_not (mt_val (me_call (ok_rise Y Z hT) (hr.mono (by decide)) rfl Y.d_rise.g Y.d_rise.F.kp Y.d_rise.b (L2N.takes_of rfl rfl rfl rfl) (ma_cons (mv 0) ma_nil))))))) (ms_one (ms_ret me_bl)) ms_nil) (ms_one (ms_ret (me_cmp o_le (me_callB (b_sum rfl) rfl Y.n_sum bt_sum (ma_cons (me_lc rfl nd (mi_all (mv 0)) (blk_of [("element", 2), ("much", 3)] rfl) rfl (fun c s H C cl fp => (mg_tupD rfl (mgc 2 nd (mgc 3 nd mgs_nil)))) (fun c s H C cl fp => mts_nil) (fun c s H C cl fp => (mv 3))) ma_nil)) me_int (nomark _))))))
def b_need_stuff : MM Fl := (ifS (notT (tst (callE m_is_stuff (consA (var 0) (MM.pure []))))) (raiseS "BadStuff") (MM.pure .nx))
def m_need_stuff : List D → Res D := runF 1 1 b_need_stuff
theorem sc_need_stuff : FnScope ["thing"] ["thing"] (defScope (top 29)) := ⟨rfl, rfl, rfl, by decide +kernel, rfl, by decide +kernel, by decide +kernel⟩
theorem ok_need_stuff (Y : Fx K mg) (Z : Zx Y base T) (hT : T.td = tdO P w) : FnOk P w K mg base (L2N.CX P w) 4 Y.d_need_stuff.f Y.d_need_stuff.fd ["thing"] (spF K T m_need_stuff) :=
  have nd := sc_need_stuff.nd
  fn_def Y.d_need_stuff.F sc_need_stuff fun cdv hcd A outer s H E c hr =>
    (ms_one (ms_if (mt_not (mt_val (me_call (ok_is_stuff Y Z hT) (hr.mono (by decide)) rfl Y.d_is_stuff.g Y.d_is_stuff.F.kp Y.d_is_stuff.b (L2N.takes_of rfl rfl rfl rfl) (ma_cons (mv 0) ma_nil)))) (ms_one (ms_raise rfl (L2N.takes_of rfl rfl rfl rfl) (Z.U.x "BadStuff" (by decide +kernel)).o (Z.U.g "BadStuff" (by decide +kernel)) rfl)) ms_nil))
def b_Lot___init__ : MM Fl := (seqS (fldS "Lot" "weight" (var 1) (var 0)) (seqS (fldS "Lot" "left" (var 1) (var 0)) (seqS (fldS "Lot" "stuff" (var 2) (var 0)) (seqS (fldS "Lot" "price" (var 3) (var 0)) (seqS (fldS "Lot" "origin" (var 4) (var 0)) (fldS "Lot" "ways" (var 5) (var 0)))))))
def m_Lot___init__ : Sto → List D → SRes := runS 6 6 b_Lot___init__
theorem sc_Lot___init__ : FnScope ["self", "weight", "stuff", "price", "origin", "ways"] ["self", "weight", "stuff", "price", "origin", "ways"] (defScope (inn (top 52) 0)) := ⟨rfl, rfl, rfl, by decide +kernel, rfl, by decide +kernel, by decide +kernel⟩
theorem ok_Lot___init__ (Y : Fx K mg) (Z : Zx Y base T) (hT : T.td = tdO P w) : FnOk P w K mg base (L2N.CX P w) 1 Y.d_Lot___init__.f Y.d_Lot___init__.fd ["self", "weight", "stuff", "price", "origin", "ways"] (spS K T m_Lot___init__) :=
  have nd := sc_Lot___init__.nd
  fn_defS Y.d_Lot___init__.F sc_Lot___init__ fun cdv hcd A outer s H E c hr =>
    (ms_seq (ms_fld Y.k_Lot Y.na_Lot_weight (mv 0) (mv 1)) (ms_seq (ms_fld Y.k_Lot Y.na_Lot_left (mv 0) (mv 1)) (ms_seq (ms_fld Y.k_Lot Y.na_Lot_stuff (mv 0) (mv 2)) (ms_seq (ms_fld Y.k_Lot Y.na_Lot_price (mv 0) (mv 3)) (ms_seq (ms_fld Y.k_Lot Y.na_Lot_origin (mv 0) (mv 4)) (ms_one (ms_fld Y.k_Lot Y.na_Lot_ways (mv 0) (mv 5))))))))
def b_Lot_copy : MM Fl := (seqS (asgS (makeE "Lot" m_Lot___init__ (consA (attrE "Lot" "weight" (var 0)) (consA (attrE "Lot" "stuff" (var 0)) (consA (attrE "Lot" "price" (var 0)) (consA (attrE "Lot" "origin" (var 0)) (consA (attrE "Lot" "ways" (var 0)) (MM.pure []))))))) (setD 1)) (seqS (fldS "Lot" "left" (attrE "Lot" "left" (var 0)) (var 1)) (retS (var 1))))
def m_Lot_copy : Sto → List D → SRes := runS 2 1 b_Lot_copy
theorem sc_Lot_copy : FnScope ["self", "found"] ["self"] (defScope (inn (top 52) 1)) := ⟨rfl, rfl, rfl, by decide +kernel, rfl, by decide +kernel, by decide +kernel⟩
theorem ok_Lot_copy (Y : Fx K mg) (Z : Zx Y base T) (hT : T.td = tdO P w) : FnOk P w K mg base (L2N.CX P w) 3 Y.d_Lot_copy.f Y.d_Lot_copy.fd ["self"] (spS K T m_Lot_copy) :=
  have nd := sc_Lot_copy.nd
  fn_defS Y.d_Lot_copy.F sc_Lot_copy fun cdv hcd A outer s H E c hr =>
    (ms_seq (ms_set (i := 1) nd rfl (by first | exact Or.inl rfl | exact Or.inr rfl) (me_make Y.mk_Lot (ok_Lot___init__ Y Z hT) (hr.mono (by decide)) rfl Y.g_Lot Y.d_Lot___init__.b (ma_cons (me_attr Y.k_Lot Y.na_Lot_weight (mv 0)) (ma_cons (me_attr Y.k_Lot Y.na_Lot_stuff (mv 0)) (ma_cons (me_attr Y.k_Lot Y.na_Lot_price (mv 0)) (ma_cons (me_attr Y.k_Lot Y.na_Lot_origin (mv 0)) (ma_cons (me_attr Y.k_Lot Y.na_Lot_ways (mv 0)) ma_nil))))))) (ms_seq (ms_fld Y.k_Lot Y.na_Lot_left (mv 1) (me_attr Y.k_Lot Y.na_Lot_left (mv 0))) (ms_one (ms_ret (mv 1)))))
def b_Casting___init__ : MM Fl := (seqS (fldS "Casting" "pot" (var 1) (var 0)) (seqS (fldS "Casting" "weight" (var 2) (var 0)) (fldS "Casting" "standing" (var 3) (var 0))))
def m_Casting___init__ : Sto → List D → SRes := runS 4 4 b_Casting___init__
theorem sc_Casting___init__ : FnScope ["self", "pot", "weight", "standing"] ["self", "pot", "weight", "standing"] (defScope (inn (top 53) 0)) := ⟨rfl, rfl, rfl, by decide +kernel, rfl, by decide +kernel, by decide +kernel⟩
theorem ok_Casting___init__ (Y : Fx K mg) (Z : Zx Y base T) (hT : T.td = tdO P w) : FnOk P w K mg base (L2N.CX P w) 1 Y.d_Casting___init__.f Y.d_Casting___init__.fd ["self", "pot", "weight", "standing"] (spS K T m_Casting___init__) :=
  have nd := sc_Casting___init__.nd
  fn_defS Y.d_Casting___init__.F sc_Casting___init__ fun cdv hcd A outer s H E c hr =>
    (ms_seq (ms_fld Y.k_Casting Y.na_Casting_pot (mv 0) (mv 1)) (ms_seq (ms_fld Y.k_Casting Y.na_Casting_weight (mv 0) (mv 2)) (ms_one (ms_fld Y.k_Casting Y.na_Casting_standing (mv 0) (mv 3)))))
def c_Foundry_remember_1 : MM D := (var 6)
def c_Foundry_remember_2 : MM D := (cellE (copyO (consA (op2M ixM (attrE "Foundry" "named" (var 0)) (var 6)) (MM.pure []))))
def c_Foundry_remember_3 : MM D := (var 7)
def c_Foundry_remember_4 : MM D := (methE "Lot" "copy" m_Lot_copy (op2M ixM (attrE "Foundry" "store" (var 0)) (var 7)) (MM.pure []))
def c_Foundry_remember_5 : MM D := (var 7)
def c_Foundry_remember_6 : MM D := (methE "Lot" "copy" m_Lot_copy (op2M ixM (attrE "Foundry" "pots" (var 0)) (var 7)) (MM.pure []))
def c_Foundry_remember_7 : MM D := (var 7)
def c_Foundry_remember_8 : MM D := (makeE "Casting" m_Casting___init__ (consA (attrE "Casting" "pot" (var 8)) (consA (attrE "Casting" "weight" (var 8)) (consA (attrE "Casting" "standing" (var 8)) (MM.pure [])))))
def b_Foundry_remember : MM Fl := (seqS (exprS (appC (attrE "Foundry" "deeds" (var 0)) (var 1))) (seqS (lockS (pickE (attrE "Foundry" "named" (var 0))) (newO (MM.bind (iterM (attrE "Foundry" "named" (var 0))) (compO [6] (setD 6) (MM.pure true) c_Foundry_remember_1 c_Foundry_remember_2)) 2)) (fun ρ => (seqS (lockS (pickE (attrE "Foundry" "store" (var 0))) (newO (MM.bind (iterM (attrE "Foundry" "store" (var 0))) (compO [7] (setD 7) (MM.pure true) c_Foundry_remember_3 c_Foundry_remember_4)) 3)) (fun ρ => (seqS (lockS (pickE (attrE "Foundry" "pots" (var 0))) (newO (MM.bind (iterM (attrE "Foundry" "pots" (var 0))) (compO [7] (setD 7) (MM.pure true) c_Foundry_remember_5 c_Foundry_remember_6)) 4)) (fun ρ => (seqS (lockS (pickE (attrE "Foundry" "cast" (var 0))) (newO (MM.bind (iterI (attrE "Foundry" "cast" (var 0))) (compO [7, 8] (setT [7, 8]) (MM.pure true) c_Foundry_remember_7 c_Foundry_remember_8)) 5)) (fun ρ => (exprS (appC (attrE "Foundry" "past" (var 0)) (MM.bind (consA (var 3) (consA (var 4) (consA (var 5) (consA (var 2) (MM.pure []))))) fun xs => lift (mkT xs)))) (celS 5 ρ))) (celS 4 ρ))) (celS 3 ρ))) (celS 2 ρ))))
def m_Foundry_remember : Sto → List D → SRes := runS 9 2 b_Foundry_remember
theorem sc_Foundry_remember : FnScope ["self", "deed", "used", "store", "pots", "cast", "kind", "name", "one"] ["self", "deed"] (defScope (inn (top 56) 1)) := ⟨rfl, rfl, rfl, by decide +kernel, rfl, by decide +kernel, by decide +kernel⟩
theorem ok_Foundry_remember (Y : Fx K mg) (Z : Zx Y base T) (hT : T.td = tdO P w) : FnOk P w K mg base (L2N.CX P w) 4 Y.d_Foundry_remember.f Y.d_Foundry_remember.fd ["self", "deed"] (spS K T m_Foundry_remember) :=
  have nd := sc_Foundry_remember.nd
  fn_defS Y.d_Foundry_remember.F sc_Foundry_remember fun cdv hcd A outer s H E c hr =>
    (ms_seq (ms_expr (me_appC (me_attr Y.k_Foundry Y.na_Foundry_deeds (mv 0)) (mv 1))) (ms_seq (ms_lock (pickE (attrE "Foundry" "named" (var 0))) fun c => (ms_setDc (i := 2) rfl nd rfl rfl (swD_true rfl rfl rfl rfl) (mi_allM (me_attr Y.k_Foundry Y.na_Foundry_named (mv 0))) (blk_of [("kind", 6)] rfl) rfl (fun c s H C cl fp => (mgn 6 nd)) (fun c s H C cl fp => mts_nil) (fun c s H C cl fp => (mv 6)) (fun c s H C cl fp => (me_cellE (mo_copy rfl Y.n_dict (ma_cons (me_ixM (hu9 hr) hT (me_attr Y.k_Foundry Y.na_Foundry_named (mv 0)) (mv 6) (fun _ _ => rfl)) ma_nil)))))) (ms_celS 2 (ms_seq (ms_lock (pickE (attrE "Foundry" "store" (var 0))) fun c => (ms_setDc (i := 3) rfl nd rfl rfl (swD_true rfl rfl rfl rfl) (mi_allM (me_attr Y.k_Foundry Y.na_Foundry_store (mv 0))) (blk_of [("name", 7)] rfl) rfl (fun c s H C cl fp => (mgn 7 nd)) (fun c s H C cl fp => mts_nil) (fun c s H C cl fp => (mv 7)) (fun c s H C cl fp => (me_meth0 (me_ixM (hu9 hr) hT (me_attr Y.k_Foundry Y.na_Foundry_store (mv 0)) (mv 7) (fun _ _ => rfl)) Y.k_Lot Y.mt_Lot_copy (ok_Lot_copy Y Z hT) (hr.mono (by decide)) Y.d_Lot_copy.b takes0)))) (ms_celS 3 (ms_seq (ms_lock (pickE (attrE "Foundry" "pots" (var 0))) fun c => (ms_setDc (i := 4) rfl nd rfl rfl (swD_true rfl rfl rfl rfl) (mi_allM (me_attr Y.k_Foundry Y.na_Foundry_pots (mv 0))) (blk_of [("name", 7)] rfl) rfl (fun c s H C cl fp => (mgn 7 nd)) (fun c s H C cl fp => mts_nil) (fun c s H C cl fp => (mv 7)) (fun c s H C cl fp => (me_meth0 (me_ixM (hu9 hr) hT (me_attr Y.k_Foundry Y.na_Foundry_pots (mv 0)) (mv 7) (fun _ _ => rfl)) Y.k_Lot Y.mt_Lot_copy (ok_Lot_copy Y Z hT) (hr.mono (by decide)) Y.d_Lot_copy.b takes0)))) (ms_celS 4 (ms_seq (ms_lock (pickE (attrE "Foundry" "cast" (var 0))) fun c => (ms_setDc (i := 5) rfl nd rfl rfl (swD_true rfl rfl rfl rfl) (mi_items (me_attr Y.k_Foundry Y.na_Foundry_cast (mv 0))) (blk_of [("name", 7), ("one", 8)] rfl) rfl (fun c s H C cl fp => (mg_tup rfl (mgc 7 nd (mgc 8 nd mgs_nil)))) (fun c s H C cl fp => mts_nil) (fun c s H C cl fp => (mv 7)) (fun c s H C cl fp => (me_make Y.mk_Casting (ok_Casting___init__ Y Z hT) (hr.mono (by decide)) rfl Y.g_Casting Y.d_Casting___init__.b (ma_cons (me_attr Y.k_Casting Y.na_Casting_pot (mv 8)) (ma_cons (me_attr Y.k_Casting Y.na_Casting_weight (mv 8)) (ma_cons (me_attr Y.k_Casting Y.na_Casting_standing (mv 8)) ma_nil))))))) (ms_celS 5 (ms_one (ms_expr (me_appC (me_attr Y.k_Foundry Y.na_Foundry_past (mv 0)) (me_tup (ma_cons (mv 3) (ma_cons (mv 4) (ma_cons (mv 5) (ma_cons (mv 2) ma_nil)))))))))))))))))
def b_Foundry_buy : MM Fl := (seqS (exprS (methE "Foundry" "need_new" m_Foundry_need_new (var 0) (consA (MM.pure (.str "lot")) (consA (var 1) (MM.pure []))))) (seqS (ifS (notT (tst (callE m_is_whole (consA (var 2) (consA (MM.pure (.int 1)) (consA (MM.pure (.int 9999)) (MM.pure []))))))) (raiseS "BadNumber") (MM.pure .nx)) (seqS (exprS (callE m_need_stuff (consA (var 3) (MM.pure [])))) (seqS (ifS (notT (tst (callE m_is_whole (consA (var 4) (consA (MM.pure (.int 0)) (consA (MM.pure (.int 999)) (MM.pure []))))))) (raiseS "BadNumber") (MM.pure .nx)) (seqS (exprS (methE "Foundry" "remember" m_Foundry_remember (var 0) (consA (MM.bind (consA (MM.pure (.str "buy")) (consA (var 1) (consA (var 2) (consA (var 3) (consA (var 4) (MM.pure [])))))) fun xs => lift (mkT xs)) (MM.pure [])))) (seqS (dputS (makeE "Lot" m_Lot___init__ (consA (var 2) (consA (var 3) (consA (var 4) (consA (dispE (consP (var 1) (MM.bind (consA (MM.pure (.int 1)) (consA (MM.pure (.int 1)) (MM.pure []))) fun xs => lift (mkT xs)) (MM.pure []))) (consA (MM.pure (.dict [])) (MM.pure []))))))) (attrE "Foundry" "store" (var 0)) (var 1)) (dputS (MM.pure (.bool true)) (op2M ixM (attrE "Foundry" "named" (var 0)) (MM.pure (.str "lot"))) (var 1))))))))
def m_Foundry_buy : Sto → List D → SRes := runS 5 5 b_Foundry_buy
theorem sc_Foundry_buy : FnScope ["self", "name", "weight", "stuff", "price"] ["self", "name", "weight", "stuff", "price"] (defScope (inn (top 56) 3)) := ⟨rfl, rfl, rfl, by decide +kernel, rfl, by decide +kernel, by decide +kernel⟩
theorem ok_Foundry_buy (Y : Fx K mg) (Z : Zx Y base T) (hT : T.td = tdO P w) : FnOk P w K mg base (L2N.CX P w) 5 Y.d_Foundry_buy.f Y.d_Foundry_buy.fd ["self", "name", "weight", "stuff", "price"] (spS K T m_Foundry_buy) :=
  have nd := sc_Foundry_buy.nd
  fn_defS Y.d_Foundry_buy.F sc_Foundry_buy fun cdv hcd A outer s H E c hr =>
    (ms_seq (ms_expr (me_meth (mv 0) Y.k_Foundry Y.mt_Foundry_need_new (ok_Foundry_need_new Y Z hT) (hr.mono (by decide)) Y.d_Foundry_need_new.b (L2N.takes_of rfl rfl rfl rfl) (ma_cons me_str (ma_cons (mv 1) ma_nil)))) (ms_seq (ms_if (mt_not (mt_val (me_call (ok_is_whole Y Z hT) (hr.mono (by decide)) rfl Y.d_is_whole.g Y.d_is_whole.F.kp Y.d_is_whole.b (L2N.takes_of rfl rfl rfl rfl) (ma_cons (mv 2) (ma_cons me_int (ma_cons me_int ma_nil)))))) (ms_one (ms_raise rfl (L2N.takes_of rfl rfl rfl rfl) (Z.U.x "BadNumber" (by decide +kernel)).o (Z.U.g "BadNumber" (by decide +kernel)) rfl)) ms_nil) (ms_seq (ms_expr (me_call (ok_need_stuff Y Z hT) (hr.mono (by decide)) rfl Y.d_need_stuff.g Y.d_need_stuff.F.kp Y.d_need_stuff.b (L2N.takes_of rfl rfl rfl rfl) (ma_cons (mv 3) ma_nil))) (ms_seq (ms_if (mt_not (mt_val (me_call (ok_is_whole Y Z hT) (hr.mono (by decide)) rfl Y.d_is_whole.g Y.d_is_whole.F.kp Y.d_is_whole.b (L2N.takes_of rfl rfl rfl rfl) (ma_cons (mv 4) (ma_cons me_int (ma_cons me_int ma_nil)))))) (ms_one (ms_raise rfl (L2N.takes_of rfl rfl rfl rfl) (Z.U.x "BadNumber" (by decide +kernel)).o (Z.U.g "BadNumber" (by decide +kernel)) rfl)) ms_nil) (ms_seq (ms_expr (me_meth (mv 0) Y.k_Foundry Y.mt_Foundry_remember (ok_Foundry_remember Y Z hT) (hr.mono (by decide)) Y.d_Foundry_remember.b (L2N.takes_of rfl rfl rfl rfl) (ma_cons (me_tup (ma_cons me_str (ma_cons (mv 1) (ma_cons (mv 2) (ma_cons (mv 3) (ma_cons (mv 4) ma_nil)))))) ma_nil))) (ms_seq (ms_dput (hu_of hr) (me_attr Y.k_Foundry Y.na_Foundry_store (mv 0)) (mv 1) (me_make Y.mk_Lot (ok_Lot___init__ Y Z hT) (hr.mono (by decide)) rfl Y.g_Lot Y.d_Lot___init__.b (ma_cons (mv 2) (ma_cons (mv 3) (ma_cons (mv 4) (ma_cons (me_disp (mp_cons (fun c => (mv 1)) (fun c => (me_tup (ma_cons me_int (ma_cons me_int ma_nil)))) mp_nil) rfl rfl (by simp) (by simp)) (ma_cons me_dnew ma_nil))))))) (ms_one (ms_dput (hu_of hr) (me_ixM (hu9 hr) hT (me_attr Y.k_Foundry Y.na_Foundry_named (mv 0)) me_str (fun _ _ => rfl)) (mv 1) me_bl))))))))
def b_Foundry___init__ : MM Fl := (seqS (fldS "Foundry" "store" (newC (.dic [])) (var 0)) (seqS (fldS "Foundry" "pots" (newC (.dic [])) (var 0)) (seqS (fldS "Foundry" "cast" (newC (.dic [])) (var 0)) (seqS (fldS "Foundry" "named" (cellE (dispO (consP (MM.pure (.str "lot")) (newC (.dic [])) (consP (MM.pure (.str "melt")) (newC (.dic [])) (consP (MM.pure (.str "casting")) (newC (.dic [])) (MM.pure [])))))) (var 0)) (seqS (fldS "Foundry" "past" (newLst (MM.pure [])) (var 0)) (fldS "Foundry" "deeds" (newLst (MM.pure [])) (var 0)))))))
def m_Foundry___init__ : Sto → List D → SRes := runS 1 1 b_Foundry___init__
theorem sc_Foundry___init__ : FnScope ["self"] ["self"] (defScope (inn (top 56) 0)) := ⟨rfl, rfl, rfl, by decide +kernel, rfl, by decide +kernel, by decide +kernel⟩
theorem ok_Foundry___init__ (Y : Fx K mg) (Z : Zx Y base T) (hT : T.td = tdO P w) : FnOk P w K mg base (L2N.CX P w) 1 Y.d_Foundry___init__.f Y.d_Foundry___init__.fd ["self"] (spS K T m_Foundry___init__) :=
  have nd := sc_Foundry___init__.nd
  fn_defS Y.d_Foundry___init__.F sc_Foundry___init__ fun cdv hcd A outer s H E c hr =>
    (ms_seq (ms_fld Y.k_Foundry Y.na_Foundry_store (mv 0) me_newDic) (ms_seq (ms_fld Y.k_Foundry Y.na_Foundry_pots (mv 0) me_newDic) (ms_seq (ms_fld Y.k_Foundry Y.na_Foundry_cast (mv 0) me_newDic) (ms_seq (ms_fld Y.k_Foundry Y.na_Foundry_named (mv 0) (me_cellE (mo_disp (mp_cons (fun c => me_str) (fun c => me_newDic) (mp_cons (fun c => me_str) (fun c => me_newDic) (mp_cons (fun c => me_str) (fun c => me_newDic) mp_nil))) rfl rfl (by simp) (by simp)))) (ms_seq (ms_fld Y.k_Foundry Y.na_Foundry_past (mv 0) (me_newLst ma_nil)) (ms_one (ms_fld Y.k_Foundry Y.na_Foundry_deeds (mv 0) (me_newLst ma_nil))))))))
def b__law_drawn : MM Fl := (seqS (asgS (op2 dMod (op2 dAdd (op2 dMul (var 0) (MM.pure (.int 6364136223846793005))) (op2 dMul (op2 dAdd (var 1) (MM.pure (.int 1))) (MM.pure (.int 1442695040888963407)))) (MM.pure (.int 340282366920938463463374607431768211507))) (setD 2)) (seqS (asgS (op2 dMod (op2 dMul (var 2) (var 2)) (MM.pure (.int 340282366920938463463374607431768211297))) (setD 2)) (seqS (asgS (op2 dMul (op2 dMul (op2 dAdd (op2 dMod (var 2) (MM.pure (.int 18446744073709551557))) (MM.pure (.int 1))) (op2 dAdd (op2 dFdiv (var 2) (MM.pure (.int 18446744073709551557))) (MM.pure (.int 1)))) (var 2)) (setD 2)) (retS (op2 dMod (var 2) (MM.pure (.int 340282366920938463463374607431768211507)))))))
def m__law_drawn : List D → Res D := runF 3 2 b__law_drawn
theorem sc__law_drawn : FnScope ["_law_cell_here", "_law_k", "_law_more"] ["_law_cell_here", "_law_k"] (defScope (top 86)) := ⟨rfl, rfl, rfl, by decide +kernel, rfl, by decide +kernel, by decide +kernel⟩
theorem ok__law_drawn (Y : Fx K mg) (Z : Zx Y base T) (hT : T.td = tdO P w) : FnOk P w K mg base (L2N.CX P w) 1 Y.d__law_drawn.f Y.d__law_drawn.fd ["_law_cell_here", "_law_k"] (spF K T m__law_drawn) :=
  have nd := sc__law_drawn.nd
  fn_def Y.d__law_drawn.F sc__law_drawn fun cdv hcd A outer s H E c hr =>
    (ms_seq (ms_set (i := 2) nd rfl (by first | exact Or.inl rfl | exact Or.inr rfl) (me_op o_mod (me_op o_add (me_op o_mul (mv 0) me_int) (me_op o_mul (me_op o_add (mv 1) me_int) me_int)) me_int)) (ms_seq (ms_set (i := 2) nd rfl (by first | exact Or.inl rfl | exact Or.inr rfl) (me_op o_mod (me_op o_mul (mv 2) (mv 2)) me_int)) (ms_seq (ms_set (i := 2) nd rfl (by first | exact Or.inl rfl | exact Or.inr rfl) (me_op o_mul (me_op o_mul (me_op o_add (me_op o_mod (mv 2) me_int) me_int) (me_op o_add (me_op o_fdiv (mv 2) me_int) me_int)) (mv 2))) (ms_one (ms_ret (me_op o_mod (mv 2) me_int))))))
def b__law_roll : MM Fl := (seqS (ifS (opT dGe (borrow (op2 dIx (var 0) (MM.pure (.int 0)))) (op2 dPow (MM.pure (.int 10)) (MM.pure (.int 18)))) (seqS (asgS (op2 dMod (borrow (op2 dIx (var 0) (MM.pure (.int 0)))) (var 1)) (setD 2)) (seqS (dsetS 0 0 (op2 dFdiv (borrow (op2 dIx (var 0) (MM.pure (.int 0)))) (var 1))) (retS (var 2)))) (MM.pure .nx)) (seqS (dsetS 0 1 (op2 dAdd (borrow (op2 dIx (var 0) (MM.pure (.int 1)))) (MM.pure (.int 1)))) (retS (op2 dMod (op2 dFdiv (callE m__law_drawn (consA (borrow (op2 dIx (var 0) (MM.pure (.int 0)))) (consA (borrow (op2 dIx (var 0) (MM.pure (.int 1)))) (MM.pure [])))) (MM.pure (.int 8))) (var 1)))))
def m__law_roll : List D → List D → Res (D × List D) := runO 3 2 b__law_roll
theorem sc__law_roll : FnScope ["_law_dice", "_law_many", "_law_told"] ["_law_dice", "_law_many"] (defScope (top 87)) := ⟨rfl, rfl, rfl, by decide +kernel, rfl, by decide +kernel, by decide +kernel⟩
theorem ok__law_roll (Y : Fx K mg) (Z : Zx Y base T) (hT : T.td = tdO P w) : FnOk P w K mg base (L2N.CX P w) 2 Y.d__law_roll.f Y.d__law_roll.fd ["_law_dice", "_law_many"] (spO K T m__law_roll) :=
  have nd := sc__law_roll.nd
  fn_defO Y.d__law_roll.F sc__law_roll fun cdv hcd A outer s H E c hr =>
    (ms_seq (ms_if (mt_cmp o_ge (me_borrow fun c => (me_ix (hu_of hr) (mv 0) me_int (fun _ _ => rfl))) (me_op o_pow me_int me_int) (nomark _)) (ms_seq (ms_set (i := 2) nd rfl (by first | exact Or.inl rfl | exact Or.inr rfl) (me_op o_mod (me_borrow fun c => (me_ix (hu_of hr) (mv 0) me_int (fun _ _ => rfl))) (mv 1))) (ms_seq (ms_dset (i := 0) (k := 0) rfl (by first | exact Or.inl rfl | exact Or.inr (Or.inl rfl) | exact Or.inr (Or.inr rfl)) (me_op o_fdiv (me_borrow fun c => (me_ix (hu_of hr) (mv 0) me_int (fun _ _ => rfl))) (mv 1))) (ms_one (ms_ret (mv 2))))) ms_nil) (ms_seq (ms_dset (i := 0) (k := 1) rfl (by first | exact Or.inl rfl | exact Or.inr (Or.inl rfl) | exact Or.inr (Or.inr rfl)) (me_op o_add (me_borrow fun c => (me_ix (hu_of hr) (mv 0) me_int (fun _ _ => rfl))) me_int)) (ms_one (ms_ret (me_op o_mod (me_op o_fdiv (me_call (ok__law_drawn Y Z hT) (hr.mono (by decide)) rfl Y.d__law_drawn.g Y.d__law_drawn.F.kp Y.d__law_drawn.b (L2N.takes_of rfl rfl rfl rfl) (ma_cons (me_borrow fun c => (me_ix (hu_of hr) (mv 0) me_int (fun _ _ => rfl))) (ma_cons (me_borrow fun c => (me_ix (hu_of hr) (mv 0) me_int (fun _ _ => rfl))) ma_nil))) me_int) (mv 1))))))
def b_need_left : MM Fl := (ifS (opT dGt (var 1) (var 0)) (raiseTM (op2 dSub (var 1) (var 0))) (MM.pure .nx))
def m_need_left : List D → Res D := runF 2 2 b_need_left
theorem sc_need_left : FnScope ["have", "weight"] ["have", "weight"] (defScope (top 54)) := ⟨rfl, rfl, rfl, by decide +kernel, rfl, by decide +kernel, by decide +kernel⟩
theorem ok_need_left (Y : Fx K mg) (Z : Zx Y base T) (hT : T.td = tdO P w) : FnOk P w K mg base (L2N.CX P w) 3 Y.d_need_left.f Y.d_need_left.fd ["have", "weight"] (spF K T m_need_left) :=
  have nd := sc_need_left.nd
  fn_def Y.d_need_left.F sc_need_left fun cdv hcd A outer s H E c hr =>
    (ms_one (ms_if (mt_cmp o_gt (mv 1) (mv 0) (nomark _)) (ms_one (ms_raiseTM rfl (L2N.takes_of rfl rfl rfl rfl) Z.tm (ok_TooMuch___init__ Y Z hT) (hr.mono (by decide)) Y.d_TooMuch___init__.b (Z.U.g "TooMuch" (by decide +kernel)) rfl (me_op o_sub (mv 1) (mv 0)))) ms_nil))
def b_Foundry_need_lots_1 : MM Fl := (seqS (ifS (opTM (inM true) (var 2) (attrE "Foundry" "store" (var 0))) (raiseS "NoName") (MM.pure .nx)) (exprS (callE m_need_left (consA (attrE "Lot" "left" (op2M ixM (attrE "Foundry" "store" (var 0)) (var 2))) (consA (var 3) (MM.pure []))))))
def b_Foundry_need_lots : MM Fl := (MM.bind (iterA (var 1)) (forD (setT [2, 3]) b_Foundry_need_lots_1))
def m_Foundry_need_lots : Sto → List D → SRes := runS 4 2 b_Foundry_need_lots
theorem sc_Foundry_need_lots : FnScope ["self", "charge", "name", "weight"] ["self", "charge"] (defScope (inn (top 56) 4)) := ⟨rfl, rfl, rfl, by decide +kernel, rfl, by decide +kernel, by decide +kernel⟩
theorem ok_Foundry_need_lots (Y : Fx K mg) (Z : Zx Y base T) (hT : T.td = tdO P w) : FnOk P w K mg base (L2N.CX P w) 4 Y.d_Foundry_need_lots.f Y.d_Foundry_need_lots.fd ["self", "charge"] (spS K T m_Foundry_need_lots) :=
  have nd := sc_Foundry_need_lots.nd
  fn_defS Y.d_Foundry_need_lots.F sc_Foundry_need_lots fun cdv hcd A outer s H E c hr =>
    (ms_one (ms_for (passes_of rfl) rfl (mi_all (mv 1)) (mg_tupD rfl (mgc 2 nd (mgc 3 nd mgs_nil))) (ms_seq (ms_if (mt_cmpM (o_notInM (hu9 hr) hT) (mv 2) (me_attr Y.k_Foundry Y.na_Foundry_store (mv 0)) (by rfl)) (ms_one (ms_raise rfl (L2N.takes_of rfl rfl rfl rfl) (Z.U.x "NoName" (by decide +kernel)).o (Z.U.g "NoName" (by decide +kernel)) rfl)) ms_nil) (ms_one (ms_expr (me_call (ok_need_left Y Z hT) (hr.mono (by decide)) rfl Y.d_need_left.g Y.d_need_left.F.kp Y.d_need_left.b (L2N.takes_of rfl rfl rfl rfl) (ma_cons (me_attr Y.k_Lot Y.na_Lot_left (me_ixM (hu9 hr) hT (me_attr Y.k_Foundry Y.na_Foundry_store (mv 0)) (mv 2) (fun _ _ => rfl))) (ma_cons (mv 3) ma_nil))))))))
def c_is_charge_1 : MM D := (callE m_is_tuple (consA (var 1) (consA (MM.pure (.int 2)) (MM.pure []))))
def c_is_charge_2 : MM D := (callE m_is_whole (consA (var 3) (consA (MM.pure (.int 1)) (consA (MM.pure (.int 9999)) (MM.pure [])))))
def b_is_charge : MM Fl := (seqS (ifS (orT (notT (tst (isiE isTup (var 0)))) (orT (notT (tst (callE dAll (consA (MM.bind (iterA (var 0)) (compL [1] (setD 1) (MM.pure true) c_is_charge_1)) (MM.pure []))))) (notT (tst (callE m_rise (consA (var 0) (MM.pure []))))))) (retS (MM.pure (.bool false))) (MM.pure .nx)) (retS (andV (op2 dNe (var 0) (MM.bind (MM.pure []) fun xs => lift (mkT xs))) (callE dAll (consA (MM.bind (iterA (var 0)) (compL [2, 3] (setT [2, 3]) (MM.pure true) c_is_charge_2)) (MM.pure []))))))
def m_is_charge : List D → Res D := runF 4 1 b_is_charge
theorem sc_is_charge : FnScope ["thing", "one", "name", "weight"] ["thing"] (defScope (top 44)) := ⟨rfl, rfl, rfl, by decide +kernel, rfl, by decide +kernel, by decide +kernel⟩
theorem ok_is_charge (Y : Fx K mg) (Z : Zx Y base T) (hT : T.td = tdO P w) : FnOk P w K mg base (L2N.CX P w) 3 Y.d_is_charge.f Y.d_is_charge.fd ["thing"] (spF K T m_is_charge) :=
  have nd := sc_is_charge.nd
  fn_def Y.d_is_charge.F sc_is_charge fun cdv hcd A outer s H E c hr =>
    (ms_seq (ms_if (PW.pt (mw_or (mt_not (mt_val (me_isi kit_tup rfl Y.n_isinstance rfl Y.n_tuple bt_tuple (mv 0) bt_isinstance))) (mw_or (mt_not (mt_val (me_callB (b_all rfl) rfl Y.n_all bt_all (ma_cons (me_lc rfl nd (mi_all (mv 0)) (blk_of [("one", 1)] rfl) rfl (fun c s H C cl fp => (mgn 1 nd)) (fun c s H C cl fp => mts_nil) (fun c s H C cl fp => (me_call (ok_is_tuple Y Z hT) (hr.mono (by decide)) rfl Y.d_is_tuple.g Y.d_is_tuple.F.kp Y.d_is_tuple.b takes0 (ma_cons (mv 1) (ma_cons me_int ma_nil))))) ma_nil)))) (mw_or1 (mt_not (mt_val (me_call (ok_rise Y Z hT) (hr.mono (by decide)) rfl Y.d_rise.g Y.d_rise.F.kp Y.d_rise.b (L2N.takes_of rfl rfl rfl rfl) (ma_cons (mv 0) ma_nil)))))))) (ms_one (ms_ret me_bl)) ms_nil) (ms_one (ms_ret (me_and (me_cmp (o_ne hr.units) (mv 0) (me_tup ma_nil) (nomark _)) (me_one (me_callB (b_all rfl) rfl Y.n_all bt_all (ma_cons (me_lc rfl nd (mi_all (mv 0)) (blk_of [("name", 2), ("weight", 3)] rfl) rfl (fun c s H C cl fp => (mg_tupD rfl (mgc 2 nd (mgc 3 nd mgs_nil)))) (fun c s H C cl fp => mts_nil) (fun c s H C cl fp => (me_call (ok_is_whole Y Z hT) (hr.mono (by decide)) rfl Y.d_is_whole.g Y.d_is_whole.F.kp Y.d_is_whole.b takes0 (ma_cons (mv 3) (ma_cons me_int (ma_cons (me_gint rfl Y.c_HEAVIEST) ma_nil)))))) ma_nil)))))))
def b_Foundry_melt : MM Fl := (seqS (exprS (methE "Foundry" "need_new" m_Foundry_need_new (var 0) (consA (MM.pure (.str "melt")) (consA (var 1) (MM.pure []))))) (seqS (ifS (notT (tst (callE m_is_charge (consA (var 2) (MM.pure []))))) (raiseS "BadCharge") (MM.pure .nx)) (seqS (exprS (methE "Foundry" "need_lots" m_Foundry_need_lots (var 0) (consA (var 2) (MM.pure [])))) stuck)))
def m_Foundry_melt : Sto → List D → SRes := runS 7 3 b_Foundry_melt
theorem sc_Foundry_melt : FnScope ["self", "name", "charge", "rows", "ways", "lot", "weight"] ["self", "name", "charge"] (defScope (inn (top 56) 5)) := ⟨rfl, rfl, rfl, by decide +kernel, rfl, by decide +kernel, by decide +kernel⟩
theorem ok_Foundry_melt (Y : Fx K mg) (Z : Zx Y base T) (hT : T.td = tdO P w) : FnOk P w K mg base (L2N.CX P w) 5 Y.d_Foundry_melt.f Y.d_Foundry_melt.fd ["self", "name", "charge"] (spS K T m_Foundry_melt) :=
  have nd := sc_Foundry_melt.nd
  fn_defS Y.d_Foundry_melt.F sc_Foundry_melt fun cdv hcd A outer s H E c hr =>
    (ms_seq (ms_expr (me_meth (mv 0) Y.k_Foundry Y.mt_Foundry_need_new (ok_Foundry_need_new Y Z hT) (hr.mono (by decide)) Y.d_Foundry_need_new.b (L2N.takes_of rfl rfl rfl rfl) (ma_cons me_str (ma_cons (mv 1) ma_nil)))) (ms_seq (ms_if (mt_not (mt_val (me_call (ok_is_charge Y Z hT) (hr.mono (by decide)) rfl Y.d_is_charge.g Y.d_is_charge.F.kp Y.d_is_charge.b (L2N.takes_of rfl rfl rfl rfl) (ma_cons (mv 2) ma_nil)))) (ms_one (ms_raise rfl (L2N.takes_of rfl rfl rfl rfl) (Z.U.x "BadCharge" (by decide +kernel)).o (Z.U.g "BadCharge" (by decide +kernel)) rfl)) ms_nil) (ms_seq (ms_expr (me_meth (mv 0) Y.k_Foundry Y.mt_Foundry_need_lots (ok_Foundry_need_lots Y Z hT) (hr.mono (by decide)) Y.d_Foundry_need_lots.b (L2N.takes_of rfl rfl rfl rfl) (ma_cons (mv 2) ma_nil))) mss_never)))
def b_stuff_text : MM Fl := (seqS (exprS (callE m_need_stuff (consA (var 0) (MM.pure [])))) stuck)
def m_stuff_text : List D → Res D := runF 3 1 b_stuff_text
theorem sc_stuff_text : FnScope ["stuff", "element", "much"] ["stuff"] (defScope (top 81)) := ⟨rfl, rfl, rfl, by decide +kernel, rfl, by decide +kernel, by decide +kernel⟩
theorem ok_stuff_text (Y : Fx K mg) (Z : Zx Y base T) (hT : T.td = tdO P w) : FnOk P w K mg base (L2N.CX P w) 5 Y.d_stuff_text.f Y.d_stuff_text.fd ["stuff"] (spF K T m_stuff_text) :=
  have nd := sc_stuff_text.nd
  fn_def Y.d_stuff_text.F sc_stuff_text fun cdv hcd A outer s H E c hr =>
    (ms_seq (ms_expr (me_call (ok_need_stuff Y Z hT) (hr.mono (by decide)) rfl Y.d_need_stuff.g Y.d_need_stuff.F.kp Y.d_need_stuff.b (L2N.takes_of rfl rfl rfl rfl) (ma_cons (mv 0) ma_nil))) mss_never)
def c_is_wish_1 : MM D := (callE m_is_tuple (consA (var 1) (consA (MM.pure (.int 3)) (MM.pure []))))
def c_is_wish_2 : MM D := (andV (callE m_is_whole (consA (var 3) (consA (MM.pure (.int 0)) (consA (MM.pure (.int 1000)) (MM.pure []))))) (callE m_is_whole (consA (var 4) (consA (var 3) (consA (MM.pure (.int 1000)) (MM.pure []))))))
def b_is_wish : MM Fl := (seqS (ifS (orT (notT (tst (isiE isTup (var 0)))) (orT (opT dGt (callE dLen (consA (var 0) (MM.pure []))) (MM.pure (.int 6))) (notT (tst (callE dAll (consA (MM.bind (iterA (var 0)) (compL [1] (setD 1) (MM.pure true) c_is_wish_1)) (MM.pure []))))))) (retS (MM.pure (.bool false))) (MM.pure .nx)) (seqS (ifS (notT (tst (callE m_rise (consA (var 0) (MM.pure []))))) (retS (MM.pure (.bool false))) (MM.pure .nx)) (retS (callE dAll (consA (MM.bind (iterA (var 0)) (compL [2, 3, 4] (setT [2, 3, 4]) (MM.pure true) c_is_wish_2)) (MM.pure []))))))
def m_is_wish : List D → Res D := runF 5 1 b_is_wish
theorem sc_is_wish : FnScope ["thing", "one", "element", "low", "high"] ["thing"] (defScope (top 26)) := ⟨rfl, rfl, rfl, by decide +kernel, rfl, by decide +kernel, by decide +kernel⟩
theorem ok_is_wish (Y : Fx K mg) (Z : Zx Y base T) (hT : T.td = tdO P w) : FnOk P w K mg base (L2N.CX P w) 3 Y.d_is_wish.f Y.d_is_wish.fd ["thing"] (spF K T m_is_wish) :=
  have nd := sc_is_wish.nd
  fn_def Y.d_is_wish.F sc_is_wish fun cdv hcd A outer s H E c hr =>
    (ms_seq (ms_if (PW.pt (mw_or (mt_not (mt_val (me_isi kit_tup rfl Y.n_isinstance rfl Y.n_tuple bt_tuple (mv 0) bt_isinstance))) (mw_or (mt_cmp o_gt (me_callB b_len rfl Y.n_len bt_len (ma_cons (mv 0) ma_nil)) me_int (nomark _)) (mw_or1 (mt_not (mt_val (me_callB (b_all rfl) rfl Y.n_all bt_all (ma_cons (me_lc rfl nd (mi_all (mv 0)) (blk_of [("one", 1)] rfl) rfl (fun c s H C cl fp => (mgn 1 nd)) (fun c s H C cl fp => mts_nil) (fun c s H C cl fp => (me_call (ok_is_tuple Y Z hT) (hr.mono (by decide)) rfl Y.d_is_tuple.g Y.d_is_tuple.F.kp Y.d_is_tuple.b takes0 (ma_cons (mv 1) (ma_cons me_int ma_nil))))) ma_nil)))))))) (ms_one (ms_ret me_bl)) ms_nil) (ms_seq (ms_if (mt_not (mt_val (me_call (ok_rise Y Z hT) (hr.mono (by decide)) rfl Y.d_rise.g Y.d_rise.F.kp Y.d_rise.b (L2N.takes_of rfl rfl rfl rfl) (ma_cons (mv 0) ma_nil)))) (ms_one (ms_ret me_bl)) ms_nil) (ms_one (ms_ret (me_callB (b_all rfl) rfl Y.n_all bt_all (ma_cons (me_lc rfl nd (mi_all (mv 0)) (blk_of [("element", 2), ("low", 3), ("high", 4)] rfl) rfl (fun c s H C cl fp => (mg_tupD rfl (mgc 2 nd (mgc 3 nd (mgc 4 nd mgs_nil))))) (fun c s H C cl fp => mts_nil) (fun c s H C cl fp => (me_and (me_call (ok_is_whole Y Z hT) (hr.mono (by decide)) rfl Y.d_is_whole.g Y.d_is_whole.F.kp Y.d_is_whole.b takes0 (ma_cons (mv 3) (ma_cons me_int (ma_cons me_int ma_nil)))) (me_one (me_call (ok_is_whole Y Z hT) (hr.mono (by decide)) rfl Y.d_is_whole.g Y.d_is_whole.F.kp Y.d_is_whole.b takes0 (ma_cons (mv 4) (ma_cons (mv 3) (ma_cons me_int ma_nil)))))))) ma_nil))))))
def b_need_wish : MM Fl := (ifS (notT (tst (callE m_is_wish (consA (var 0) (MM.pure []))))) (raiseS "BadWish") (MM.pure .nx))
def m_need_wish : List D → Res D := runF 1 1 b_need_wish
theorem sc_need_wish : FnScope ["thing"] ["thing"] (defScope (top 30)) := ⟨rfl, rfl, rfl, by decide +kernel, rfl, by decide +kernel, by decide +kernel⟩
theorem ok_need_wish (Y : Fx K mg) (Z : Zx Y base T) (hT : T.td = tdO P w) : FnOk P w K mg base (L2N.CX P w) 4 Y.d_need_wish.f Y.d_need_wish.fd ["thing"] (spF K T m_need_wish) :=
  have nd := sc_need_wish.nd
  fn_def Y.d_need_wish.F sc_need_wish fun cdv hcd A outer s H E c hr =>
    (ms_one (ms_if (mt_not (mt_val (me_call (ok_is_wish Y Z hT) (hr.mono (by decide)) rfl Y.d_is_wish.g Y.d_is_wish.F.kp Y.d_is_wish.b (L2N.takes_of rfl rfl rfl rfl) (ma_cons (mv 0) ma_nil)))) (ms_one (ms_raise rfl (L2N.takes_of rfl rfl rfl rfl) (Z.U.x "BadWish" (by decide +kernel)).o (Z.U.g "BadWish" (by decide +kernel)) rfl)) ms_nil))
def b_meets : MM Fl := (seqS (exprS (callE m_need_wish (consA (var 0) (MM.pure [])))) stuck)
def m_meets : List D → Res D := runF 3 2 b_meets
theorem sc_meets : FnScope ["one", "other", "found"] ["one", "other"] (defScope (top 38)) := ⟨rfl, rfl, rfl, by decide +kernel, rfl, by decide +kernel, by decide +kernel⟩
theorem ok_meets (Y : Fx K mg) (Z : Zx Y base T) (hT : T.td = tdO P w) : FnOk P w K mg base (L2N.CX P w) 5 Y.d_meets.f Y.d_meets.fd ["one", "other"] (spF K T m_meets) :=
  have nd := sc_meets.nd
  fn_def Y.d_meets.F sc_meets fun cdv hcd A outer s H E c hr =>
    (ms_seq (ms_expr (me_call (ok_need_wish Y Z hT) (hr.mono (by decide)) rfl Y.d_need_wish.g Y.d_need_wish.F.kp Y.d_need_wish.b (L2N.takes_of rfl rfl rfl rfl) (ma_cons (mv 0) ma_nil))) mss_never)
def b_is_weighed : MM Fl := (seqS (ifS (orT (notT (tst (isiE isTup (var 0)))) (opT dNe (callE dLen (consA (var 0) (MM.pure []))) (MM.pure (.int 2)))) (retS (MM.pure (.bool false))) (MM.pure .nx)) (retS (andV (callE m_is_whole (consA (op2 dIx (var 0) (MM.pure (.int 0))) (consA (MM.pure (.int 1)) (consA (MM.pure (.int 9999)) (MM.pure []))))) (callE m_is_stuff (consA (op2 dIx (var 0) (MM.pure (.int 1))) (MM.pure []))))))
def m_is_weighed : List D → Res D := runF 1 1 b_is_weighed
theorem sc_is_weighed : FnScope ["thing"] ["thing"] (defScope (top 27)) := ⟨rfl, rfl, rfl, by decide +kernel, rfl, by decide +kernel, by decide +kernel⟩
theorem ok_is_weighed (Y : Fx K mg) (Z : Zx Y base T) (hT : T.td = tdO P w) : FnOk P w K mg base (L2N.CX P w) 4 Y.d_is_weighed.f Y.d_is_weighed.fd ["thing"] (spF K T m_is_weighed) :=
  have nd := sc_is_weighed.nd
  fn_def Y.d_is_weighed.F sc_is_weighed fun cdv hcd A outer s H E c hr =>
    (ms_seq (ms_if (PW.pt (mw_or (mt_not (mt_val (me_isi kit_tup rfl Y.n_isinstance rfl Y.n_tuple bt_tuple (mv 0) bt_isinstance))) (mw_or1 (mt_cmp (o_ne hr.units) (me_callB b_len rfl Y.n_len bt_len (ma_cons (mv 0) ma_nil)) me_int (nomark _))))) (ms_one (ms_ret me_bl)) ms_nil) (ms_one (ms_ret (me_and (me_call (ok_is_whole Y Z hT) (hr.mono (by decide)) rfl Y.d_is_whole.g Y.d_is_whole.F.kp Y.d_is_whole.b (L2N.takes_of rfl rfl rfl rfl) (ma_cons (me_ix (hu_of hr) (mv 0) me_int (fun _ _ => rfl)) (ma_cons me_int (ma_cons (me_gint rfl Y.c_HEAVIEST) ma_nil)))) (me_one (me_call (ok_is_stuff Y Z hT) (hr.mono (by decide)) rfl Y.d_is_stuff.g Y.d_is_stuff.F.kp Y.d_is_stuff.b (L2N.takes_of rfl rfl rfl rfl) (ma_cons (me_ix (hu_of hr) (mv 0) me_int (fun _ _ => rfl)) ma_nil)))))))
def c_is_load_1 : MM D := (callE m_is_weighed (consA (var 1) (MM.pure [])))
def b_is_load : MM Fl := (retS (andV (isiE isLst (var 0)) (andV (chainV dLe dLe (MM.pure (.int 1)) (callE dLen (consA (var 0) (MM.pure []))) (MM.pure (.int 12))) (callE dAll (consA (MM.bind (iterA (var 0)) (compL [1] (setD 1) (MM.pure true) c_is_load_1)) (MM.pure []))))))
def m_is_load : List D → Res D := runF 2 1 b_is_load
theorem sc_is_load : FnScope ["thing", "one"] ["thing"] (defScope (top 28)) := ⟨rfl, rfl, rfl, by decide +kernel, rfl, by decide +kernel, by decide +kernel⟩
theorem ok_is_load (Y : Fx K mg) (Z : Zx Y base T) (hT : T.td = tdO P w) : FnOk P w K mg base (L2N.CX P w) 5 Y.d_is_load.f Y.d_is_load.fd ["thing"] (spF K T m_is_load) :=
  have nd := sc_is_load.nd
  fn_def Y.d_is_load.F sc_is_load fun cdv hcd A outer s H E c hr =>
    (ms_one (ms_ret (me_and (me_isi kit_lst rfl Y.n_isinstance rfl Y.n_list bt_list (mv 0) bt_isinstance) (me_and (me_chain o_le o_le me_int (me_callB b_len rfl Y.n_len bt_len (ma_cons (mv 0) ma_nil)) me_int) (me_one (me_callB (b_all rfl) rfl Y.n_all bt_all (ma_cons (me_lc rfl nd (mi_all (mv 0)) (blk_of [("one", 1)] rfl) rfl (fun c s H C cl fp => (mgn 1 nd)) (fun c s H C cl fp => mts_nil) (fun c s H C cl fp => (me_call (ok_is_weighed Y Z hT) (hr.mono (by decide)) rfl Y.d_is_weighed.g Y.d_is_weighed.F.kp Y.d_is_weighed.b takes0 (ma_cons (mv 1) ma_nil)))) ma_nil)))))))
def b_need_load : MM Fl := (ifS (notT (tst (callE m_is_load (consA (var 0) (MM.pure []))))) (raiseS "BadLoad") (MM.pure .nx))
def m_need_load : List D → Res D := runF 1 1 b_need_load
theorem sc_need_load : FnScope ["thing"] ["thing"] (defScope (top 31)) := ⟨rfl, rfl, rfl, by decide +kernel, rfl, by decide +kernel, by decide +kernel⟩
theorem ok_need_load (Y : Fx K mg) (Z : Zx Y base T) (hT : T.td = tdO P w) : FnOk P w K mg base (L2N.CX P w) 6 Y.d_need_load.f Y.d_need_load.fd ["thing"] (spF K T m_need_load) :=
  have nd := sc_need_load.nd
  fn_def Y.d_need_load.F sc_need_load fun cdv hcd A outer s H E c hr =>
    (ms_one (ms_if (mt_not (mt_val (me_call (ok_is_load Y Z hT) (hr.mono (by decide)) rfl Y.d_is_load.g Y.d_is_load.F.kp Y.d_is_load.b (L2N.takes_of rfl rfl rfl rfl) (ma_cons (mv 0) ma_nil)))) (ms_one (ms_raise rfl (L2N.takes_of rfl rfl rfl rfl) (Z.U.x "BadLoad" (by decide +kernel)).o (Z.U.g "BadLoad" (by decide +kernel)) rfl)) ms_nil))
def b_weight_of : MM Fl := (seqS (exprS (callE m_need_load (consA (var 0) (MM.pure [])))) stuck)
def m_weight_of : List D → Res D := runF 1 1 b_weight_of
theorem sc_weight_of : FnScope ["load"] ["load"] (defScope (top 36)) := ⟨rfl, rfl, rfl, by decide +kernel, rfl, by decide +kernel, by decide +kernel⟩
theorem ok_weight_of (Y : Fx K mg) (Z : Zx Y base T) (hT : T.td = tdO P w) : FnOk P w K mg base (L2N.CX P w) 7 Y.d_weight_of.f Y.d_weight_of.fd ["load"] (spF K T m_weight_of) :=
  have nd := sc_weight_of.nd
  fn_def Y.d_weight_of.F sc_weight_of fun cdv hcd A outer s H E c hr =>
    (ms_seq (ms_expr (me_call (ok_need_load Y Z hT) (hr.mono (by decide)) rfl Y.d_need_load.g Y.d_need_load.F.kp Y.d_need_load.b (L2N.takes_of rfl rfl rfl rfl) (ma_cons (mv 0) ma_nil))) mss_never)
def b_is_lot : MM Fl := (seqS (ifS (orT (notT (tst (isiE isTup (var 0)))) (opT dNe (callE dLen (consA (var 0) (MM.pure []))) (MM.pure (.int 3)))) (retS (MM.pure (.bool false))) (MM.pure .nx)) (retS (andV (callE m_is_whole (consA (op2 dIx (var 0) (MM.pure (.int 0))) (consA (MM.pure (.int 1)) (consA (MM.pure (.int 60)) (MM.pure []))))) (andV (callE m_is_stuff (consA (op2 dIx (var 0) (MM.pure (.int 1))) (MM.pure []))) (callE m_is_whole (consA (op2 dIx (var 0) (MM.pure (.int 2))) (consA (MM.pure (.int 0)) (consA (MM.pure (.int 999)) (MM.pure [])))))))))
def m_is_lot : List D → Res D := runF 1 1 b_is_lot
theorem sc_is_lot : FnScope ["thing"] ["thing"] (defScope (top 41)) := ⟨rfl, rfl, rfl, by decide +kernel, rfl, by decide +kernel, by decide +kernel⟩
theorem ok_is_lot (Y : Fx K mg) (Z : Zx Y base T) (hT : T.td = tdO P w) : FnOk P w K mg base (L2N.CX P w) 4 Y.d_is_lot.f Y.d_is_lot.fd ["thing"] (spF K T m_is_lot) :=
  have nd := sc_is_lot.nd
  fn_def Y.d_is_lot.F sc_is_lot fun cdv hcd A outer s H E c hr =>
    (ms_seq (ms_if (PW.pt (mw_or (mt_not (mt_val (me_isi kit_tup rfl Y.n_isinstance rfl Y.n_tuple bt_tuple (mv 0) bt_isinstance))) (mw_or1 (mt_cmp (o_ne hr.units) (me_callB b_len rfl Y.n_len bt_len (ma_cons (mv 0) ma_nil)) me_int (nomark _))))) (ms_one (ms_ret me_bl)) ms_nil) (ms_one (ms_ret (me_and (me_call (ok_is_whole Y Z hT) (hr.mono (by decide)) rfl Y.d_is_whole.g Y.d_is_whole.F.kp Y.d_is_whole.b (L2N.takes_of rfl rfl rfl rfl) (ma_cons (me_ix (hu_of hr) (mv 0) me_int (fun _ _ => rfl)) (ma_cons me_int (ma_cons (me_gint rfl Y.c_MOST_WEIGHT) ma_nil)))) (me_and (me_call (ok_is_stuff Y Z hT) (hr.mono (by decide)) rfl Y.d_is_stuff.g Y.d_is_stuff.F.kp Y.d_is_stuff.b (L2N.takes_of rfl rfl rfl rfl) (ma_cons (me_ix (hu_of hr) (mv 0) me_int (fun _ _ => rfl)) ma_nil)) (me_one (me_call (ok_is_whole Y Z hT) (hr.mono (by decide)) rfl Y.d_is_whole.g Y.d_is_whole.F.kp Y.d_is_whole.b (L2N.takes_of rfl rfl rfl rfl) (ma_cons (me_ix (hu_of hr) (mv 0) me_int (fun _ _ => rfl)) (ma_cons me_int (ma_cons me_int ma_nil))))))))))
def c_is_lots_1 : MM D := (andV (callE m_is_word (consA (var 1) (MM.pure []))) (callE m_is_lot (consA (op2 dIx (var 0) (var 1)) (MM.pure []))))
def b_is_lots : MM Fl := (seqS (ifS (orT (notT (tst (isiE isDic (var 0)))) (notT (tst (chainV dLe dLe (MM.pure (.int 1)) (callE dLen (consA (var 0) (MM.pure []))) (MM.pure (.int 6)))))) (retS (MM.pure (.bool false))) (MM.pure .nx)) (retS (callE dAll (consA (MM.bind (iterA (var 0)) (compL [1] (setD 1) (MM.pure true) c_is_lots_1)) (MM.pure [])))))
def m_is_lots : List D → Res D := runF 2 1 b_is_lots
theorem sc_is_lots : FnScope ["thing", "name"] ["thing"] (defScope (top 42)) := ⟨rfl, rfl, rfl, by decide +kernel, rfl, by decide +kernel, by decide +kernel⟩
theorem ok_is_lots (Y : Fx K mg) (Z : Zx Y base T) (hT : T.td = tdO P w) : FnOk P w K mg base (L2N.CX P w) 5 Y.d_is_lots.f Y.d_is_lots.fd ["thing"] (spF K T m_is_lots) :=
  have nd := sc_is_lots.nd
  fn_def Y.d_is_lots.F sc_is_lots fun cdv hcd A outer s H E c hr =>
    (ms_seq (ms_if (PW.pt (mw_or (mt_not (mt_val (me_isi kit_dic rfl Y.n_isinstance rfl Y.n_dict bt_dict (mv 0) bt_isinstance))) (mw_or1 (mt_not (mt_chain o_le o_le me_int (me_callB b_len rfl Y.n_len bt_len (ma_cons (mv 0) ma_nil)) me_int))))) (ms_one (ms_ret me_bl)) ms_nil) (ms_one (ms_ret (me_callB (b_all rfl) rfl Y.n_all bt_all (ma_cons (me_lc rfl nd (mi_all (mv 0)) (blk_of [("name", 1)] rfl) rfl (fun c s H C cl fp => (mgn 1 nd)) (fun c s H C cl fp => mts_nil) (fun c s H C cl fp => (me_and (me_call (ok_is_word Y Z hT) (hr.mono (by decide)) rfl Y.d_is_word.g Y.d_is_word.F.kp Y.d_is_word.b takes0 (ma_cons (mv 1) ma_nil)) (me_one (me_call (ok_is_lot Y Z hT) (hr.mono (by decide)) rfl Y.d_is_lot.g Y.d_is_lot.F.kp Y.d_is_lot.b takes0 (ma_cons (me_ix (hu_of hr) (mv 0) (mv 1) (fun _ _ => rfl)) ma_nil)))))) ma_nil)))))
def b_need_lots : MM Fl := (ifS (notT (tst (callE m_is_lots (consA (var 0) (MM.pure []))))) (raiseS "BadLots") (MM.pure .nx))
def m_need_lots : List D → Res D := runF 1 1 b_need_lots
theorem sc_need_lots : FnScope ["thing"] ["thing"] (defScope (top 43)) := ⟨rfl, rfl, rfl, by decide +kernel, rfl, by decide +kernel, by decide +kernel⟩
theorem ok_need_lots (Y : Fx K mg) (Z : Zx Y base T) (hT : T.td = tdO P w) : FnOk P w K mg base (L2N.CX P w) 6 Y.d_need_lots.f Y.d_need_lots.fd ["thing"] (spF K T m_need_lots) :=
  have nd := sc_need_lots.nd
  fn_def Y.d_need_lots.F sc_need_lots fun cdv hcd A outer s H E c hr =>
    (ms_one (ms_if (mt_not (mt_val (me_call (ok_is_lots Y Z hT) (hr.mono (by decide)) rfl Y.d_is_lots.g Y.d_is_lots.F.kp Y.d_is_lots.b (L2N.takes_of rfl rfl rfl rfl) (ma_cons (mv 0) ma_nil)))) (ms_one (ms_raise rfl (L2N.takes_of rfl rfl rfl rfl) (Z.U.x "BadLots" (by decide +kernel)).o (Z.U.g "BadLots" (by decide +kernel)) rfl)) ms_nil))
def b_need_weight : MM Fl := (ifS (notT (tst (callE m_is_whole (consA (var 0) (consA (MM.pure (.int 1)) (consA (MM.pure (.int 60)) (MM.pure []))))))) (raiseS "BadNumber") (MM.pure .nx))
def m_need_weight : List D → Res D := runF 1 1 b_need_weight
theorem sc_need_weight : FnScope ["weight"] ["weight"] (defScope (top 46)) := ⟨rfl, rfl, rfl, by decide +kernel, rfl, by decide +kernel, by decide +kernel⟩
theorem ok_need_weight (Y : Fx K mg) (Z : Zx Y base T) (hT : T.td = tdO P w) : FnOk P w K mg base (L2N.CX P w) 2 Y.d_need_weight.f Y.d_need_weight.fd ["weight"] (spF K T m_need_weight) :=
  have nd := sc_need_weight.nd
  fn_def Y.d_need_weight.F sc_need_weight fun cdv hcd A outer s H E c hr =>
    (ms_one (ms_if (mt_not (mt_val (me_call (ok_is_whole Y Z hT) (hr.mono (by decide)) rfl Y.d_is_whole.g Y.d_is_whole.F.kp Y.d_is_whole.b (L2N.takes_of rfl rfl rfl rfl) (ma_cons (mv 0) (ma_cons me_int (ma_cons (me_gint rfl Y.c_MOST_WEIGHT) ma_nil)))))) (ms_one (ms_raise rfl (L2N.takes_of rfl rfl rfl rfl) (Z.U.x "BadNumber" (by decide +kernel)).o (Z.U.g "BadNumber" (by decide +kernel)) rfl)) ms_nil))
def b_cheapest : MM Fl := (seqS (exprS (callE m_need_lots (consA (var 0) (MM.pure [])))) (seqS (exprS (callE m_need_wish (consA (var 1) (MM.pure [])))) (seqS (exprS (callE m_need_weight (consA (var 2) (MM.pure [])))) stuck)))
def m_cheapest : List D → Res D := runF 3 3 b_cheapest
theorem sc_cheapest : FnScope ["lots", "wish", "weight"] ["lots", "wish", "weight"] (defScope (top 50)) := ⟨rfl, rfl, rfl, by decide +kernel, rfl, by decide +kernel, by decide +kernel⟩
theorem ok_cheapest (Y : Fx K mg) (Z : Zx Y base T) (hT : T.td = tdO P w) : FnOk P w K mg base (L2N.CX P w) 7 Y.d_cheapest.f Y.d_cheapest.fd ["lots", "wish", "weight"] (spF K T m_cheapest) :=
  have nd := sc_cheapest.nd
  fn_def Y.d_cheapest.F sc_cheapest fun cdv hcd A outer s H E c hr =>
    (ms_seq (ms_expr (me_call (ok_need_lots Y Z hT) (hr.mono (by decide)) rfl Y.d_need_lots.g Y.d_need_lots.F.kp Y.d_need_lots.b (L2N.takes_of rfl rfl rfl rfl) (ma_cons (mv 0) ma_nil))) (ms_seq (ms_expr (me_call (ok_need_wish Y Z hT) (hr.mono (by decide)) rfl Y.d_need_wish.g Y.d_need_wish.F.kp Y.d_need_wish.b (L2N.takes_of rfl rfl rfl rfl) (ma_cons (mv 1) ma_nil))) (ms_seq (ms_expr (me_call (ok_need_weight Y Z hT) (hr.mono (by decide)) rfl Y.d_need_weight.g Y.d_need_weight.F.kp Y.d_need_weight.b (L2N.takes_of rfl rfl rfl rfl) (ma_cons (mv 2) ma_nil))) mss_never)))
def c_need_charge_1 : MM D := (andV (op2 dIn (var 2) (var 0)) (op2 dLe (var 3) (op2 dIx (op2 dIx (var 0) (var 2)) (MM.pure (.int 0)))))
def b_need_charge : MM Fl := (seqS (ifS (notT (tst (callE m_is_charge (consA (var 1) (MM.pure []))))) (raiseS "BadCharge") (MM.pure .nx)) (ifS (notT (tst (callE dAll (consA (MM.bind (iterA (var 1)) (compL [2, 3] (setT [2, 3]) (MM.pure true) c_need_charge_1)) (MM.pure []))))) (raiseS "BadCharge") (MM.pure .nx)))
def m_need_charge : List D → Res D := runF 4 2 b_need_charge
theorem sc_need_charge : FnScope ["lots", "charge", "name", "weight"] ["lots", "charge"] (defScope (top 45)) := ⟨rfl, rfl, rfl, by decide +kernel, rfl, by decide +kernel, by decide +kernel⟩
theorem ok_need_charge (Y : Fx K mg) (Z : Zx Y base T) (hT : T.td = tdO P w) : FnOk P w K mg base (L2N.CX P w) 4 Y.d_need_charge.f Y.d_need_charge.fd ["lots", "charge"] (spF K T m_need_charge) :=
  have nd := sc_need_charge.nd
  fn_def Y.d_need_charge.F sc_need_charge fun cdv hcd A outer s H E c hr =>
    (ms_seq (ms_if (mt_not (mt_val (me_call (ok_is_charge Y Z hT) (hr.mono (by decide)) rfl Y.d_is_charge.g Y.d_is_charge.F.kp Y.d_is_charge.b (L2N.takes_of rfl rfl rfl rfl) (ma_cons (mv 1) ma_nil)))) (ms_one (ms_raise rfl (L2N.takes_of rfl rfl rfl rfl) (Z.U.x "BadCharge" (by decide +kernel)).o (Z.U.g "BadCharge" (by decide +kernel)) rfl)) ms_nil) (ms_one (ms_if (mt_not (mt_val (me_callB (b_all rfl) rfl Y.n_all bt_all (ma_cons (me_lc rfl nd (mi_all (mv 1)) (blk_of [("name", 2), ("weight", 3)] rfl) rfl (fun c s H C cl fp => (mg_tupD rfl (mgc 2 nd (mgc 3 nd mgs_nil)))) (fun c s H C cl fp => mts_nil) (fun c s H C cl fp => (me_and (me_cmp (o_in (hu_of hr)) (mv 2) (mv 0) (by rfl)) (me_one (me_cmp o_le (mv 3) (me_ix (hu_of hr) (me_ix (hu_of hr) (mv 0) (mv 2) (fun _ _ => rfl)) me_int (fun _ _ => rfl)) (nomark _)))))) ma_nil)))) (ms_one (ms_raise rfl (L2N.takes_of rfl rfl rfl rfl) (Z.U.x "BadCharge" (by decide +kernel)).o (Z.U.g "BadCharge" (by decide +kernel)) rfl)) ms_nil)))
def b_price_of : MM Fl := (seqS (exprS (callE m_need_lots (consA (var 0) (MM.pure [])))) (seqS (exprS (callE m_need_charge (consA (var 0) (consA (var 1) (MM.pure []))))) stuck))
def m_price_of : List D → Res D := runF 2 2 b_price_of
theorem sc_price_of : FnScope ["lots", "charge"] ["lots", "charge"] (defScope (top 48)) := ⟨rfl, rfl, rfl, by decide +kernel, rfl, by decide +kernel, by decide +kernel⟩
theorem ok_price_of (Y : Fx K mg) (Z : Zx Y base T) (hT : T.td = tdO P w) : FnOk P w K mg base (L2N.CX P w) 7 Y.d_price_of.f Y.d_price_of.fd ["lots", "charge"] (spF K T m_price_of) :=
  have nd := sc_price_of.nd
  fn_def Y.d_price_of.F sc_price_of fun cdv hcd A outer s H E c hr =>
    (ms_seq (ms_expr (me_call (ok_need_lots Y Z hT) (hr.mono (by decide)) rfl Y.d_need_lots.g Y.d_need_lots.F.kp Y.d_need_lots.b (L2N.takes_of rfl rfl rfl rfl) (ma_cons (mv 0) ma_nil))) (ms_seq (ms_expr (me_call (ok_need_charge Y Z hT) (hr.mono (by decide)) rfl Y.d_need_charge.g Y.d_need_charge.F.kp Y.d_need_charge.b (L2N.takes_of rfl rfl rfl rfl) (ma_cons (mv 0) (ma_cons (mv 1) ma_nil)))) mss_never))
def b_is_int : MM Fl := (retS (andV (isiE isInt (var 0)) (notV (isiE isBool (var 0)))))
def m_is_int : List D → Res D := runF 1 1 b_is_int
theorem sc_is_int : FnScope ["thing"] ["thing"] (defScope (top 58)) := ⟨rfl, rfl, rfl, by decide +kernel, rfl, by decide +kernel, by decide +kernel⟩
theorem ok_is_int (Y : Fx K mg) (Z : Zx Y base T) (hT : T.td = tdO P w) : FnOk P w K mg base (L2N.CX P w) 1 Y.d_is_int.f Y.d_is_int.fd ["thing"] (spF K T m_is_int) :=
  have nd := sc_is_int.nd
  fn_def Y.d_is_int.F sc_is_int fun cdv hcd A outer s H E c hr =>
    (ms_one (ms_ret (me_and (me_isi kit_int rfl Y.n_isinstance rfl Y.n_int bt_int (mv 0) bt_isinstance) (me_one (me_not (me_isi kit_bool rfl Y.n_isinstance rfl Y.n_bool bt_bool (mv 0) bt_isinstance))))))
def c_need_paper_1 : MM D := (var 3)
def c_need_paper_2 : MM D := (andV (op2 dIn (var 3) (var 2)) (callE m_is_int (consA (op2 dIx (op2 dIx (var 1) (MM.pure (.int 1))) (var 3)) (MM.pure []))))
def b_need_paper : MM Fl := (seqS (ifS (orT (notT (tst (isiE isTup (var 1)))) (orT (opT dNe (callE dLen (consA (var 1) (MM.pure []))) (MM.pure (.int 2))) (orT (notT (tst (callE m_is_int (consA (op2 dIx (var 1) (MM.pure (.int 0))) (MM.pure []))))) (notT (tst (isiE isDic (op2 dIx (var 1) (MM.pure (.int 1))))))))) (raiseS "BadPaper") (MM.pure .nx)) (seqS (asgS (MM.bind (iterA (var 0)) (compL [3, 4, 5] (setT [3, 4, 5]) (MM.pure true) c_need_paper_1)) (setD 2)) (ifS (notT (tst (callE dAll (consA (MM.bind (iterA (op2 dIx (var 1) (MM.pure (.int 1)))) (compL [3] (setD 3) (MM.pure true) c_need_paper_2)) (MM.pure []))))) (raiseS "BadPaper") (MM.pure .nx))))
def m_need_paper : List D → Res D := runF 6 2 b_need_paper
theorem sc_need_paper : FnScope ["wish", "paper", "wished", "element", "low", "high"] ["wish", "paper"] (defScope (top 59)) := ⟨rfl, rfl, rfl, by decide +kernel, rfl, by decide +kernel, by decide +kernel⟩
theorem ok_need_paper (Y : Fx K mg) (Z : Zx Y base T) (hT : T.td = tdO P w) : FnOk P w K mg base (L2N.CX P w) 2 Y.d_need_paper.f Y.d_need_paper.fd ["wish", "paper"] (spF K T m_need_paper) :=
  have nd := sc_need_paper.nd
  fn_def Y.d_need_paper.F sc_need_paper fun cdv hcd A outer s H E c hr =>
    (ms_seq (ms_if (PW.pt (mw_or (mt_not (mt_val (me_isi kit_tup rfl Y.n_isinstance rfl Y.n_tuple bt_tuple (mv 1) bt_isinstance))) (mw_or (mt_cmp (o_ne hr.units) (me_callB b_len rfl Y.n_len bt_len (ma_cons (mv 1) ma_nil)) me_int (nomark _)) (mw_or (mt_not (mt_val (me_call (ok_is_int Y Z hT) (hr.mono (by decide)) rfl Y.d_is_int.g Y.d_is_int.F.kp Y.d_is_int.b (L2N.takes_of rfl rfl rfl rfl) (ma_cons (me_ix (hu_of hr) (mv 1) me_int (fun _ _ => rfl)) ma_nil)))) (mw_or1 (mt_not (mt_val (me_isi kit_dic rfl Y.n_isinstance rfl Y.n_dict bt_dict (me_ix (hu_of hr) (mv 1) me_int (fun _ _ => rfl)) bt_isinstance)))))))) (ms_one (ms_raise rfl (L2N.takes_of rfl rfl rfl rfl) (Z.U.x "BadPaper" (by decide +kernel)).o (Z.U.g "BadPaper" (by decide +kernel)) rfl)) ms_nil) (ms_seq (ms_set (i := 2) nd rfl (by first | exact Or.inl rfl | exact Or.inr rfl) (me_lc rfl nd (mi_all (mv 0)) (blk_of [("element", 3), ("low", 4), ("high", 5)] rfl) rfl (fun c s H C cl fp => (mg_tupD rfl (mgc 3 nd (mgc 4 nd (mgc 5 nd mgs_nil))))) (fun c s H C cl fp => mts_nil) (fun c s H C cl fp => (mv 3)))) (ms_one (ms_if (mt_not (mt_val (me_callB (b_all rfl) rfl Y.n_all bt_all (ma_cons (me_lc rfl nd (mi_all (me_ix (hu_of hr) (mv 1) me_int (fun _ _ => rfl))) (blk_of [("element", 3)] rfl) rfl (fun c s H C cl fp => (mgn 3 nd)) (fun c s H C cl fp => mts_nil) (fun c s H C cl fp => (me_and (me_cmp (o_in (hu_of hr)) (mv 3) (mv 2) (by rfl)) (me_one (me_call (ok_is_int Y Z hT) (hr.mono (by decide)) rfl Y.d_is_int.g Y.d_is_int.F.kp Y.d_is_int.b takes0 (ma_cons (me_ix (hu_of hr) (me_ix (hu_of hr) (mv 1) me_int (fun _ _ => rfl)) (mv 3) (fun _ _ => rfl)) ma_nil)))))) ma_nil)))) (ms_one (ms_raise rfl (L2N.takes_of rfl rfl rfl rfl) (Z.U.x "BadPaper" (by decide +kernel)).o (Z.U.g "BadPaper" (by decide +kernel)) rfl)) ms_nil))))
def b_bound : MM Fl := (seqS (exprS (callE m_need_lots (consA (var 0) (MM.pure [])))) (seqS (exprS (callE m_need_wish (consA (var 1) (MM.pure [])))) (seqS (exprS (callE m_need_weight (consA (var 2) (MM.pure [])))) (seqS (exprS (callE m_need_paper (consA (var 1) (consA (var 3) (MM.pure []))))) stuck))))
def m_bound : List D → Res D := runF 4 4 b_bound
theorem sc_bound : FnScope ["lots", "wish", "weight", "paper"] ["lots", "wish", "weight", "paper"] (defScope (top 62)) := ⟨rfl, rfl, rfl, by decide +kernel, rfl, by decide +kernel, by decide +kernel⟩
theorem ok_bound (Y : Fx K mg) (Z : Zx Y base T) (hT : T.td = tdO P w) : FnOk P w K mg base (L2N.CX P w) 7 Y.d_bound.f Y.d_bound.fd ["lots", "wish", "weight", "paper"] (spF K T m_bound) :=
  have nd := sc_bound.nd
  fn_def Y.d_bound.F sc_bound fun cdv hcd A outer s H E c hr =>
    (ms_seq (ms_expr (me_call (ok_need_lots Y Z hT) (hr.mono (by decide)) rfl Y.d_need_lots.g Y.d_need_lots.F.kp Y.d_need_lots.b (L2N.takes_of rfl rfl rfl rfl) (ma_cons (mv 0) ma_nil))) (ms_seq (ms_expr (me_call (ok_need_wish Y Z hT) (hr.mono (by decide)) rfl Y.d_need_wish.g Y.d_need_wish.F.kp Y.d_need_wish.b (L2N.takes_of rfl rfl rfl rfl) (ma_cons (mv 1) ma_nil))) (ms_seq (ms_expr (me_call (ok_need_weight Y Z hT) (hr.mono (by decide)) rfl Y.d_need_weight.g Y.d_need_weight.F.kp Y.d_need_weight.b (L2N.takes_of rfl rfl rfl rfl) (ma_cons (mv 2) ma_nil))) (ms_seq (ms_expr (me_call (ok_need_paper Y Z hT) (hr.mono (by decide)) rfl Y.d_need_paper.g Y.d_need_paper.F.kp Y.d_need_paper.b (L2N.takes_of rfl rfl rfl rfl) (ma_cons (mv 1) (ma_cons (mv 3) ma_nil)))) mss_never))))
def c_are_unlike_1 : MM D := (op2 dIx (var 1) (MM.pure (.int 0)))
def b_are_unlike : MM Fl := (retS (op2 dEq (lenSetE (MM.bind (iterA (var 0)) (compL [1] (setD 1) (MM.pure true) c_are_unlike_1))) (callE dLen (consA (var 0) (MM.pure [])))))
def m_are_unlike : List D → Res D := runF 2 1 b_are_unlike
theorem sc_are_unlike : FnScope ["rows", "row"] ["rows"] (defScope (top 64)) := ⟨rfl, rfl, rfl, by decide +kernel, rfl, by decide +kernel, by decide +kernel⟩
theorem ok_are_unlike (Y : Fx K mg) (Z : Zx Y base T) (hT : T.td = tdO P w) : FnOk P w K mg base (L2N.CX P w) 1 Y.d_are_unlike.f Y.d_are_unlike.fd ["rows"] (spF K T m_are_unlike) :=
  have nd := sc_are_unlike.nd
  fn_def Y.d_are_unlike.F sc_are_unlike fun cdv hcd A outer s H E c hr =>
    (ms_one (ms_ret (me_cmp (o_eq hr.units) (me_lenset rfl rfl Y.n_len rfl Y.n_set (me_lc rfl nd (mi_all (mv 0)) (blk_of [("row", 1)] rfl) rfl (fun c s H C cl fp => (mgn 1 nd)) (fun c s H C cl fp => mts_nil) (fun c s H C cl fp => (me_ix (hu_of hr) (mv 1) me_int (fun _ _ => rfl))))) (me_callB b_len rfl Y.n_len bt_len (ma_cons (mv 0) ma_nil)) (nomark _))))
def b_is_form : MM Fl := (retS (andV (callE m_is_tuple (consA (var 0) (consA (MM.pure (.int 3)) (MM.pure [])))) (andV (callE m_is_whole (consA (op2 dIx (var 0) (MM.pure (.int 1))) (consA (MM.pure (.int 1)) (consA (MM.pure (.int 999)) (MM.pure []))))) (callE m_is_wish (consA (op2 dIx (var 0) (MM.pure (.int 2))) (MM.pure []))))))
def m_is_form : List D → Res D := runF 1 1 b_is_form
theorem sc_is_form : FnScope ["thing"] ["thing"] (defScope (top 72)) := ⟨rfl, rfl, rfl, by decide +kernel, rfl, by decide +kernel, by decide +kernel⟩
theorem ok_is_form (Y : Fx K mg) (Z : Zx Y base T) (hT : T.td = tdO P w) : FnOk P w K mg base (L2N.CX P w) 4 Y.d_is_form.f Y.d_is_form.fd ["thing"] (spF K T m_is_form) :=
  have nd := sc_is_form.nd
  fn_def Y.d_is_form.F sc_is_form fun cdv hcd A outer s H E c hr =>
    (ms_one (ms_ret (me_and (me_call (ok_is_tuple Y Z hT) (hr.mono (by decide)) rfl Y.d_is_tuple.g Y.d_is_tuple.F.kp Y.d_is_tuple.b (L2N.takes_of rfl rfl rfl rfl) (ma_cons (mv 0) (ma_cons me_int ma_nil))) (me_and (me_call (ok_is_whole Y Z hT) (hr.mono (by decide)) rfl Y.d_is_whole.g Y.d_is_whole.F.kp Y.d_is_whole.b (L2N.takes_of rfl rfl rfl rfl) (ma_cons (me_ix (hu_of hr) (mv 0) me_int (fun _ _ => rfl)) (ma_cons me_int (ma_cons me_int ma_nil)))) (me_one (me_call (ok_is_wish Y Z hT) (hr.mono (by decide)) rfl Y.d_is_wish.g Y.d_is_wish.F.kp Y.d_is_wish.b (L2N.takes_of rfl rfl rfl rfl) (ma_cons (me_ix (hu_of hr) (mv 0) me_int (fun _ _ => rfl)) ma_nil)))))))
def c_need_forms_1 : MM D := (callE m_is_form (consA (var 1) (MM.pure [])))
def b_need_forms : MM Fl := (seqS (ifS (orT (notT (tst (isiE isLst (var 0)))) (orT (notT (tst (chainV dLe dLe (MM.pure (.int 1)) (callE dLen (consA (var 0) (MM.pure []))) (MM.pure (.int 8))))) (notT (tst (callE dAll (consA (MM.bind (iterA (var 0)) (compL [1] (setD 1) (MM.pure true) c_need_forms_1)) (MM.pure []))))))) (raiseS "BadMoulds") (MM.pure .nx)) (ifS (notT (tst (callE m_are_unlike (consA (var 0) (MM.pure []))))) (raiseS "BadMoulds") (MM.pure .nx)))
def m_need_forms : List D → Res D := runF 2 1 b_need_forms
theorem sc_need_forms : FnScope ["forms", "one"] ["forms"] (defScope (top 73)) := ⟨rfl, rfl, rfl, by decide +kernel, rfl, by decide +kernel, by decide +kernel⟩
theorem ok_need_forms (Y : Fx K mg) (Z : Zx Y base T) (hT : T.td = tdO P w) : FnOk P w K mg base (L2N.CX P w) 5 Y.d_need_forms.f Y.d_need_forms.fd ["forms"] (spF K T m_need_forms) :=
  have nd := sc_need_forms.nd
  fn_def Y.d_need_forms.F sc_need_forms fun cdv hcd A outer s H E c hr =>
    (ms_seq (ms_if (PW.pt (mw_or (mt_not (mt_val (me_isi kit_lst rfl Y.n_isinstance rfl Y.n_list bt_list (mv 0) bt_isinstance))) (mw_or (mt_not (mt_chain o_le o_le me_int (me_callB b_len rfl Y.n_len bt_len (ma_cons (mv 0) ma_nil)) me_int)) (mw_or1 (mt_not (mt_val (me_callB (b_all rfl) rfl Y.n_all bt_all (ma_cons (me_lc rfl nd (mi_all (mv 0)) (blk_of [("one", 1)] rfl) rfl (fun c s H C cl fp => (mgn 1 nd)) (fun c s H C cl fp => mts_nil) (fun c s H C cl fp => (me_call (ok_is_form Y Z hT) (hr.mono (by decide)) rfl Y.d_is_form.g Y.d_is_form.F.kp Y.d_is_form.b takes0 (ma_cons (mv 1) ma_nil)))) ma_nil)))))))) (ms_one (ms_raise rfl (L2N.takes_of rfl rfl rfl rfl) (Z.U.x "BadMoulds" (by decide +kernel)).o (Z.U.g "BadMoulds" (by decide +kernel)) rfl)) ms_nil) (ms_one (ms_if (mt_not (mt_val (me_call (ok_are_unlike Y Z hT) (hr.mono (by decide)) rfl Y.d_are_unlike.g Y.d_are_unlike.F.kp Y.d_are_unlike.b (L2N.takes_of rfl rfl rfl rfl) (ma_cons (mv 0) ma_nil)))) (ms_one (ms_raise rfl (L2N.takes_of rfl rfl rfl rfl) (Z.U.x "BadMoulds" (by decide +kernel)).o (Z.U.g "BadMoulds" (by decide +kernel)) rfl)) ms_nil)))
def b_apart : MM Fl := (seqS (exprS (callE m_need_forms (consA (var 0) (MM.pure [])))) stuck)
def m_apart : List D → Res D := runF 1 1 b_apart
theorem sc_apart : FnScope ["forms"] ["forms"] (defScope (top 77)) := ⟨rfl, rfl, rfl, by decide +kernel, rfl, by decide +kernel, by decide +kernel⟩
theorem ok_apart (Y : Fx K mg) (Z : Zx Y base T) (hT : T.td = tdO P w) : FnOk P w K mg base (L2N.CX P w) 6 Y.d_apart.f Y.d_apart.fd ["forms"] (spF K T m_apart) :=
  have nd := sc_apart.nd
  fn_def Y.d_apart.F sc_apart fun cdv hcd A outer s H E c hr =>
    (ms_seq (ms_expr (me_call (ok_need_forms Y Z hT) (hr.mono (by decide)) rfl Y.d_need_forms.g Y.d_need_forms.F.kp Y.d_need_forms.b (L2N.takes_of rfl rfl rfl rfl) (ma_cons (mv 0) ma_nil))) mss_never)
def b_Foundry_pour : MM Fl := (seqS (exprS (methE "Foundry" "need_new" m_Foundry_need_new (var 0) (consA (MM.pure (.str "casting")) (consA (var 1) (MM.pure []))))) (seqS (ifS (orT (notT (tst (isiE isStr (var 2)))) (opTM (inM true) (var 2) (attrE "Foundry" "pots" (var 0)))) (raiseS "NoName") (MM.pure .nx)) stuck))
def m_Foundry_pour : Sto → List D → SRes := runS 4 4 b_Foundry_pour
theorem sc_Foundry_pour : FnScope ["self", "name", "melt", "weight"] ["self", "name", "melt", "weight"] (defScope (inn (top 56) 6)) := ⟨rfl, rfl, rfl, by decide +kernel, rfl, by decide +kernel, by decide +kernel⟩
theorem ok_Foundry_pour (Y : Fx K mg) (Z : Zx Y base T) (hT : T.td = tdO P w) : FnOk P w K mg base (L2N.CX P w) 4 Y.d_Foundry_pour.f Y.d_Foundry_pour.fd ["self", "name", "melt", "weight"] (spS K T m_Foundry_pour) :=
  have nd := sc_Foundry_pour.nd
  fn_defS Y.d_Foundry_pour.F sc_Foundry_pour fun cdv hcd A outer s H E c hr =>
    (ms_seq (ms_expr (me_meth (mv 0) Y.k_Foundry Y.mt_Foundry_need_new (ok_Foundry_need_new Y Z hT) (hr.mono (by decide)) Y.d_Foundry_need_new.b (L2N.takes_of rfl rfl rfl rfl) (ma_cons me_str (ma_cons (mv 1) ma_nil)))) (ms_seq (ms_if (PW.pt (mw_or (mt_not (mt_val (me_isi kit_str rfl Y.n_isinstance rfl Y.n_str bt_str (mv 2) bt_isinstance))) (mw_or1 (mt_cmpM (o_notInM (hu9 hr) hT) (mv 2) (me_attr Y.k_Foundry Y.na_Foundry_pots (mv 0)) (by rfl))))) (ms_one (ms_raise rfl (L2N.takes_of rfl rfl rfl rfl) (Z.U.x "NoName" (by decide +kernel)).o (Z.U.g "NoName" (by decide +kernel)) rfl)) ms_nil) mss_never))
def b_Foundry_undo : MM Fl := (seqS (ifS (opTM (nilM false) (attrE "Foundry" "past" (var 0)) (MM.bind (MM.pure []) fun xs => lift (mkL xs))) (raiseS "Nothing") (MM.pure .nx)) stuck)
def m_Foundry_undo : Sto → List D → SRes := runS 1 1 b_Foundry_undo
theorem sc_Foundry_undo : FnScope ["self"] ["self"] (defScope (inn (top 56) 13)) := ⟨rfl, rfl, rfl, by decide +kernel, rfl, by decide +kernel, by decide +kernel⟩
theorem ok_Foundry_undo (Y : Fx K mg) (Z : Zx Y base T) (hT : T.td = tdO P w) : FnOk P w K mg base (L2N.CX P w) 1 Y.d_Foundry_undo.f Y.d_Foundry_undo.fd ["self"] (spS K T m_Foundry_undo) :=
  have nd := sc_Foundry_undo.nd
  fn_defS Y.d_Foundry_undo.F sc_Foundry_undo fun cdv hcd A outer s H E c hr =>
    (ms_seq (ms_if (mt_cmpM (o_eqNil hr.units) (me_attr Y.k_Foundry Y.na_Foundry_past (mv 0)) (me_lst ma_nil) (nomark _)) (ms_one (ms_raise rfl (L2N.takes_of rfl rfl rfl rfl) (Z.U.x "Nothing" (by decide +kernel)).o (Z.U.g "Nothing" (by decide +kernel)) rfl)) ms_nil) mss_never)
def c_need_castings_1 : MM D := (andV (callE m_is_tuple (consA (var 2) (consA (MM.pure (.int 2)) (MM.pure [])))) (callE m_is_whole (consA (op2 dIx (var 2) (MM.pure (.int 1))) (consA (MM.pure (.int 1)) (consA (MM.pure (.int 99)) (MM.pure []))))))
def b_need_castings : MM Fl := (seqS (ifS (notT (tst (callE m_is_whole (consA (var 0) (consA (MM.pure (.int 1)) (consA (MM.pure (.int 6)) (MM.pure []))))))) (raiseS "BadNumber") (MM.pure .nx)) (seqS (ifS (orT (notT (tst (isiE isLst (var 1)))) (opT dGt (callE dLen (consA (var 1) (MM.pure []))) (MM.pure (.int 12)))) (raiseS "BadMoulds") (MM.pure .nx)) (ifS (orT (notT (tst (callE dAll (consA (MM.bind (iterA (var 1)) (compL [2] (setD 2) (MM.pure true) c_need_castings_1)) (MM.pure []))))) (notT (tst (callE m_are_unlike (consA (var 1) (MM.pure [])))))) (raiseS "BadMoulds") (MM.pure .nx))))
def m_need_castings : List D → Res D := runF 3 2 b_need_castings
theorem sc_need_castings : FnScope ["flasks", "castings", "one"] ["flasks", "castings"] (defScope (top 67)) := ⟨rfl, rfl, rfl, by decide +kernel, rfl, by decide +kernel, by decide +kernel⟩
theorem ok_need_castings (Y : Fx K mg) (Z : Zx Y base T) (hT : T.td = tdO P w) : FnOk P w K mg base (L2N.CX P w) 3 Y.d_need_castings.f Y.d_need_castings.fd ["flasks", "castings"] (spF K T m_need_castings) :=
  have nd := sc_need_castings.nd
  fn_def Y.d_need_castings.F sc_need_castings fun cdv hcd A outer s H E c hr =>
    (ms_seq (ms_if (mt_not (mt_val (me_call (ok_is_whole Y Z hT) (hr.mono (by decide)) rfl Y.d_is_whole.g Y.d_is_whole.F.kp Y.d_is_whole.b (L2N.takes_of rfl rfl rfl rfl) (ma_cons (mv 0) (ma_cons me_int (ma_cons me_int ma_nil)))))) (ms_one (ms_raise rfl (L2N.takes_of rfl rfl rfl rfl) (Z.U.x "BadNumber" (by decide +kernel)).o (Z.U.g "BadNumber" (by decide +kernel)) rfl)) ms_nil) (ms_seq (ms_if (PW.pt (mw_or (mt_not (mt_val (me_isi kit_lst rfl Y.n_isinstance rfl Y.n_list bt_list (mv 1) bt_isinstance))) (mw_or1 (mt_cmp o_gt (me_callB b_len rfl Y.n_len bt_len (ma_cons (mv 1) ma_nil)) me_int (nomark _))))) (ms_one (ms_raise rfl (L2N.takes_of rfl rfl rfl rfl) (Z.U.x "BadMoulds" (by decide +kernel)).o (Z.U.g "BadMoulds" (by decide +kernel)) rfl)) ms_nil) (ms_one (ms_if (PW.pt (mw_or (mt_not (mt_val (me_callB (b_all rfl) rfl Y.n_all bt_all (ma_cons (me_lc rfl nd (mi_all (mv 1)) (blk_of [("one", 2)] rfl) rfl (fun c s H C cl fp => (mgn 2 nd)) (fun c s H C cl fp => mts_nil) (fun c s H C cl fp => (me_and (me_call (ok_is_tuple Y Z hT) (hr.mono (by decide)) rfl Y.d_is_tuple.g Y.d_is_tuple.F.kp Y.d_is_tuple.b takes0 (ma_cons (mv 2) (ma_cons me_int ma_nil))) (me_one (me_call (ok_is_whole Y Z hT) (hr.mono (by decide)) rfl Y.d_is_whole.g Y.d_is_whole.F.kp Y.d_is_whole.b takes0 (ma_cons (me_ix (hu_of hr) (mv 2) me_int (fun _ _ => rfl)) (ma_cons me_int (ma_cons me_int ma_nil)))))))) ma_nil)))) (mw_or1 (mt_not (mt_val (me_call (ok_are_unlike Y Z hT) (hr.mono (by decide)) rfl Y.d_are_unlike.g Y.d_are_unlike.F.kp Y.d_are_unlike.b (L2N.takes_of rfl rfl rfl rfl) (ma_cons (mv 1) ma_nil))))))) (ms_one (ms_raise rfl (L2N.takes_of rfl rfl rfl rfl) (Z.U.x "BadMoulds" (by decide +kernel)).o (Z.U.g "BadMoulds" (by decide +kernel)) rfl)) ms_nil))))
def b_best_end : MM Fl := (seqS (exprS (callE m_need_castings (consA (var 0) (consA (var 1) (MM.pure []))))) (seqS (ifS (opT dGt (callE dLen (consA (var 1) (MM.pure []))) (MM.pure (.int 9))) (raiseS "Full") (MM.pure .nx)) stuck))
def m_best_end : List D → Res D := runF 2 2 b_best_end
theorem sc_best_end : FnScope ["flasks", "castings"] ["flasks", "castings"] (defScope (top 70)) := ⟨rfl, rfl, rfl, by decide +kernel, rfl, by decide +kernel, by decide +kernel⟩
theorem ok_best_end (Y : Fx K mg) (Z : Zx Y base T) (hT : T.td = tdO P w) : FnOk P w K mg base (L2N.CX P w) 4 Y.d_best_end.f Y.d_best_end.fd ["flasks", "castings"] (spF K T m_best_end) :=
  have nd := sc_best_end.nd
  fn_def Y.d_best_end.F sc_best_end fun cdv hcd A outer s H E c hr =>
    (ms_seq (ms_expr (me_call (ok_need_castings Y Z hT) (hr.mono (by decide)) rfl Y.d_need_castings.g Y.d_need_castings.F.kp Y.d_need_castings.b (L2N.takes_of rfl rfl rfl rfl) (ma_cons (mv 0) (ma_cons (mv 1) ma_nil)))) (ms_seq (ms_if (mt_cmp o_gt (me_callB b_len rfl Y.n_len bt_len (ma_cons (mv 1) ma_nil)) me_int (nomark _)) (ms_one (ms_raise rfl (L2N.takes_of rfl rfl rfl rfl) (Z.U.x "Full" (by decide +kernel)).o (Z.U.g "Full" (by decide +kernel)) rfl)) ms_nil) mss_never))
def b_words_in : MM Fl := (seqS (ifS (notT (tst (isiE isStr (var 0)))) (raiseS "BadText") (MM.pure .nx)) (retS (ifE (opT dNe (var 0) (MM.pure (.str "-"))) (meth1 dSplit (var 0) (MM.pure (.str " "))) (MM.bind (MM.pure []) fun xs => lift (mkL xs)))))
def m_words_in : List D → Res D := runF 1 1 b_words_in
theorem sc_words_in : FnScope ["text"] ["text"] (defScope (top 82)) := ⟨rfl, rfl, rfl, by decide +kernel, rfl, by decide +kernel, by decide +kernel⟩
theorem ok_words_in (Y : Fx K mg) (Z : Zx Y base T) (hT : T.td = tdO P w) : FnOk P w K mg base (L2N.CX P w) 1 Y.d_words_in.f Y.d_words_in.fd ["text"] (spF K T m_words_in) :=
  have nd := sc_words_in.nd
  fn_def Y.d_words_in.F sc_words_in fun cdv hcd A outer s H E c hr =>
    (ms_seq (ms_if (mt_not (mt_val (me_isi kit_str rfl Y.n_isinstance rfl Y.n_str bt_str (mv 0) bt_isinstance))) (ms_one (ms_raise rfl (L2N.takes_of rfl rfl rfl rfl) (Z.U.x "BadText" (by decide +kernel)).o (Z.U.g "BadText" (by decide +kernel)) rfl)) ms_nil) (ms_one (ms_ret (me_if (mt_cmp (o_ne hr.units) (mv 0) me_str (nomark _)) (me_split (mv 0) me_str) (me_lst ma_nil)))))
def c_number_in_1 : MM D := (op2 dIn (var 2) (MM.pure (.str "0123456789")))
def b_number_in : MM Fl := (seqS (ifS (orT (notT (tst (chainV dLe dLe (MM.pure (.int 1)) (callE dLen (consA (var 0) (MM.pure []))) (var 1)))) (orT (notT (tst (callE dAll (consA (MM.bind (iterA (var 0)) (compL [2] (setD 2) (MM.pure true) c_number_in_1)) (MM.pure []))))) (opT dNe (callE dStr (consA (callE dIntS (consA (var 0) (MM.pure []))) (MM.pure []))) (var 0)))) (retS (MM.pure .none)) (MM.pure .nx)) (retS (callE dIntS (consA (var 0) (MM.pure [])))))
def m_number_in : List D → Res D := runF 3 2 b_number_in
theorem sc_number_in : FnScope ["text", "long", "sign"] ["text", "long"] (defScope (top 80)) := ⟨rfl, rfl, rfl, by decide +kernel, rfl, by decide +kernel, by decide +kernel⟩
theorem ok_number_in (Y : Fx K mg) (Z : Zx Y base T) (hT : T.td = tdO P w) : FnOk P w K mg base (L2N.CX P w) 1 Y.d_number_in.f Y.d_number_in.fd ["text", "long"] (spF K T m_number_in) :=
  have nd := sc_number_in.nd
  fn_def Y.d_number_in.F sc_number_in fun cdv hcd A outer s H E c hr =>
    (ms_seq (ms_if (PW.pt (mw_or (mt_not (mt_chain o_le o_le me_int (me_callB b_len rfl Y.n_len bt_len (ma_cons (mv 0) ma_nil)) (mv 1))) (mw_or (mt_not (mt_val (me_callB (b_all rfl) rfl Y.n_all bt_all (ma_cons (me_lc rfl nd (mi_all (mv 0)) (blk_of [("sign", 2)] rfl) rfl (fun c s H C cl fp => (mgn 2 nd)) (fun c s H C cl fp => mts_nil) (fun c s H C cl fp => (me_cmp (o_in (hu_of hr)) (mv 2) (me_gstr rfl Y.c_FIGURES) (by rfl)))) ma_nil)))) (mw_or1 (mt_cmp (o_ne hr.units) (me_callTy b_str rfl Y.n_str bt_str (ma_cons (me_callTy b_intS rfl Y.n_int bt_int (ma_cons (mv 0) ma_nil)) ma_nil)) (mv 0) (nomark _)))))) (ms_one (ms_ret me_non)) ms_nil) (ms_one (ms_ret (me_callTy b_intS rfl Y.n_int bt_int (ma_cons (mv 0) ma_nil)))))
def b_read_wish_1 : MM Fl := (seqS (asgS (meth1 dSplit (var 2) (MM.pure (.str ":"))) (setD 3)) (seqS (asgS (ifE (opT dEq (callE dLen (consA (var 3) (MM.pure []))) (MM.pure (.int 2))) (meth1 dSplit (op2 dIx (var 3) (MM.pure (.int 1))) (MM.pure (.str "-"))) (MM.bind (MM.pure []) fun xs => lift (mkL xs))) (setD 4)) (seqS (ifS (opT dNe (callE dLen (consA (var 4) (MM.pure []))) (MM.pure (.int 2))) (raiseS "BadText") (MM.pure .nx)) (appS 1 (MM.bind (consA (op2 dIx (var 3) (MM.pure (.int 0))) (consA (callE m_number_in (consA (op2 dIx (var 4) (MM.pure (.int 0))) (consA (MM.pure (.int 4)) (MM.pure [])))) (consA (callE m_number_in (consA (op2 dIx (var 4) (MM.pure (.int 1))) (consA (MM.pure (.int 4)) (MM.pure [])))) (MM.pure [])))) fun xs => lift (mkT xs))))))
def b_read_wish : MM Fl := (seqS (newO (MM.pure (.ol [])) 1) (seqS (MM.bind (iterA (callE m_words_in (consA (var 0) (MM.pure [])))) (forD (setD 2) b_read_wish_1)) stuck))
def m_read_wish : List D → Res D := runF 5 1 b_read_wish
theorem sc_read_wish : FnScope ["text", "found", "word", "parts", "bounds"] ["text"] (defScope (top 83)) := ⟨rfl, rfl, rfl, by decide +kernel, rfl, by decide +kernel, by decide +kernel⟩
theorem ok_read_wish (Y : Fx K mg) (Z : Zx Y base T) (hT : T.td = tdO P w) : FnOk P w K mg base (L2N.CX P w) 2 Y.d_read_wish.f Y.d_read_wish.fd ["text"] (spF K T m_read_wish) :=
  have nd := sc_read_wish.nd
  fn_def Y.d_read_wish.F sc_read_wish fun cdv hcd A outer s H E c hr =>
    (ms_seq (ms_newO (i := 1) nd rfl (by first | exact Or.inl rfl | exact Or.inr rfl) mo_newL) (ms_seq (ms_for (passes_of rfl) rfl (mi_all (me_call (ok_words_in Y Z hT) (hr.mono (by decide)) rfl Y.d_words_in.g Y.d_words_in.F.kp Y.d_words_in.b (L2N.takes_of rfl rfl rfl rfl) (ma_cons (mv 0) ma_nil))) (mgn 2 nd) (ms_seq (ms_set (i := 3) nd rfl (by first | exact Or.inl rfl | exact Or.inr rfl) (me_split (mv 2) me_str)) (ms_seq (ms_set (i := 4) nd rfl (by first | exact Or.inl rfl | exact Or.inr rfl) (me_if (mt_cmp (o_eq hr.units) (me_callB b_len rfl Y.n_len bt_len (ma_cons (mv 3) ma_nil)) me_int (nomark _)) (me_split (me_ix (hu_of hr) (mv 3) me_int (fun _ _ => rfl)) me_str) (me_lst ma_nil))) (ms_seq (ms_if (mt_cmp (o_ne hr.units) (me_callB b_len rfl Y.n_len bt_len (ma_cons (mv 4) ma_nil)) me_int (nomark _)) (ms_one (ms_raise rfl (L2N.takes_of rfl rfl rfl rfl) (Z.U.x "BadText" (by decide +kernel)).o (Z.U.g "BadText" (by decide +kernel)) rfl)) ms_nil) (ms_one (ms_append (i := 1) rfl (by first | exact Or.inl rfl | exact Or.inr (Or.inl rfl) | exact Or.inr (Or.inr rfl)) (me_tup (ma_cons (me_ix (hu_of hr) (mv 3) me_int (fun _ _ => rfl)) (ma_cons (me_call (ok_number_in Y Z hT) (hr.mono (by decide)) rfl Y.d_number_in.g Y.d_number_in.F.kp Y.d_number_in.b (L2N.takes_of rfl rfl rfl rfl) (ma_cons (me_ix (hu_of hr) (mv 4) me_int (fun _ _ => rfl)) (ma_cons me_int ma_nil))) (ma_cons (me_call (ok_number_in Y Z hT) (hr.mono (by decide)) rfl Y.d_number_in.g Y.d_number_in.F.kp Y.d_number_in.b (L2N.takes_of rfl rfl rfl rfl) (ma_cons (me_ix (hu_of hr) (mv 4) me_int (fun _ _ => rfl)) (ma_cons me_int ma_nil))) ma_nil)))))))))) mss_never))
def c__law_alone_1 : MM D := (op2 dEq (var 3) (var 1))
def b__law_alone : MM Fl := (seqS (asgS (MM.bind (consA (isxE "BadWord" (var 0)) (consA (isxE "BadStuff" (var 0)) (consA (isxE "BadWish" (var 0)) (MM.pure [])))) fun xs => lift (mkL xs)) (setD 2)) (seqS (asgS (op2 dAdd (var 2) (MM.bind (consA (isxE "BadLoad" (var 0)) (MM.pure [])) fun xs => lift (mkL xs))) (setD 2)) (seqS (asgS (op2 dAdd (var 2) (MM.bind (consA (isxE "BadNumber" (var 0)) (consA (isxE "BadLots" (var 0)) (consA (isxE "BadCharge" (var 0)) (MM.pure [])))) fun xs => lift (mkL xs))) (setD 2)) (seqS (asgS (op2 dAdd (var 2) (MM.bind (consA (isxE "BadPaper" (var 0)) (consA (isxE "BadMoulds" (var 0)) (consA (isxE "Taken" (var 0)) (MM.pure [])))) fun xs => lift (mkL xs))) (setD 2)) (seqS (asgS (op2 dAdd (var 2) (MM.bind (consA (isxE "NoName" (var 0)) (MM.pure [])) fun xs => lift (mkL xs))) (setD 2)) (seqS (asgS (op2 dAdd (var 2) (MM.bind (consA (isxE "TooMuch" (var 0)) (consA (isxE "Nothing" (var 0)) (consA (isxE "Full" (var 0)) (MM.pure [])))) fun xs => lift (mkL xs))) (setD 2)) (seqS (asgS (op2 dAdd (var 2) (MM.bind (consA (isxE "BadText" (var 0)) (MM.pure [])) fun xs => lift (mkL xs))) (setD 2)) (retS (andV (isvE (var 0)) (op2 dEq (var 2) (MM.bind (MM.bind (consA (MM.pure (.int 15)) (MM.pure [])) fun ds => lift (range1 ds)) (compL [3] (setD 3) (MM.pure true) c__law_alone_1))))))))))))
def m__law_alone : List D → Res D := runF 4 2 b__law_alone
theorem sc__law_alone : FnScope ["_law_e", "_law_own", "_law_some", "_law_at"] ["_law_e", "_law_own"] (defScope (top 90)) := ⟨rfl, rfl, rfl, by decide +kernel, rfl, by decide +kernel, by decide +kernel⟩
theorem ok__law_alone (Y : Fx K mg) (Z : Zx Y base T) (hT : T.td = tdO P w) : FnOk P w K mg base (L2N.CX P w) 1 Y.d__law_alone.f Y.d__law_alone.fd ["_law_e", "_law_own"] (spF K T m__law_alone) :=
  have nd := sc__law_alone.nd
  fn_def Y.d__law_alone.F sc__law_alone fun cdv hcd A outer s H E c hr =>
    (ms_seq (ms_set (i := 2) nd rfl (by first | exact Or.inl rfl | exact Or.inr rfl) (me_lst (ma_cons (me_isx Z.kp (mv 0) rfl Y.n_isinstance (by decide +kernel) rfl) (ma_cons (me_isx Z.kp (mv 0) rfl Y.n_isinstance (by decide +kernel) rfl) (ma_cons (me_isx Z.kp (mv 0) rfl Y.n_isinstance (by decide +kernel) rfl) ma_nil))))) (ms_seq (ms_set (i := 2) nd rfl (by first | exact Or.inl rfl | exact Or.inr rfl) (me_op o_add (mv 2) (me_lst (ma_cons (me_isx Z.kp (mv 0) rfl Y.n_isinstance (by decide +kernel) rfl) ma_nil)))) (ms_seq (ms_set (i := 2) nd rfl (by first | exact Or.inl rfl | exact Or.inr rfl) (me_op o_add (mv 2) (me_lst (ma_cons (me_isx Z.kp (mv 0) rfl Y.n_isinstance (by decide +kernel) rfl) (ma_cons (me_isx Z.kp (mv 0) rfl Y.n_isinstance (by decide +kernel) rfl) (ma_cons (me_isx Z.kp (mv 0) rfl Y.n_isinstance (by decide +kernel) rfl) ma_nil)))))) (ms_seq (ms_set (i := 2) nd rfl (by first | exact Or.inl rfl | exact Or.inr rfl) (me_op o_add (mv 2) (me_lst (ma_cons (me_isx Z.kp (mv 0) rfl Y.n_isinstance (by decide +kernel) rfl) (ma_cons (me_isx Z.kp (mv 0) rfl Y.n_isinstance (by decide +kernel) rfl) (ma_cons (me_isx Z.kp (mv 0) rfl Y.n_isinstance (by decide +kernel) rfl) ma_nil)))))) (ms_seq (ms_set (i := 2) nd rfl (by first | exact Or.inl rfl | exact Or.inr rfl) (me_op o_add (mv 2) (me_lst (ma_cons (me_isx Z.kp (mv 0) rfl Y.n_isinstance (by decide +kernel) rfl) ma_nil)))) (ms_seq (ms_set (i := 2) nd rfl (by first | exact Or.inl rfl | exact Or.inr rfl) (me_op o_add (mv 2) (me_lst (ma_cons (me_isx Z.kp (mv 0) rfl Y.n_isinstance (by decide +kernel) rfl) (ma_cons (me_isx Z.kp (mv 0) rfl Y.n_isinstance (by decide +kernel) rfl) (ma_cons (me_isx Z.kp (mv 0) rfl Y.n_isinstance (by decide +kernel) rfl) ma_nil)))))) (ms_seq (ms_set (i := 2) nd rfl (by first | exact Or.inl rfl | exact Or.inr rfl) (me_op o_add (mv 2) (me_lst (ma_cons (me_isx Z.kp (mv 0) rfl Y.n_isinstance (by decide +kernel) rfl) ma_nil)))) (ms_one (ms_ret (me_and (me_isv Z.kp (mv 0) rfl Y.n_isinstance rfl Y.n_ValueError) (me_one (me_cmp (o_eq hr.units) (mv 2) (me_lc rfl nd (mi_range1 rfl Y.n_range (ma_cons me_int ma_nil)) (blk_of [("_law_at", 3)] rfl) rfl (fun c s H C cl fp => (mgn 3 nd)) (fun c s H C cl fp => mts_nil) (fun c s H C cl fp => (me_cmp (o_eq hr.units) (mv 3) (mv 1) (nomark _)))) (nomark _)))))))))))))
def s_law_1 : MM Fl := (parL [2, 3] (consD (op2 dAdd (MM.pure (.int 1)) (callO m__law_roll 1 (consA (MM.pure (.int 9)) (MM.pure [])))) (consD (makeE "Foundry" m_Foundry___init__ (MM.pure [])) (MM.pure []))))
def s_law_2 : MM Fl := (exprS (methE "Foundry" "buy" m_Foundry_buy (var 3) (consA (MM.pure (.str "pig")) (consA (var 2) (consA (MM.bind (MM.pure []) fun xs => lift (mkT xs)) (consA (var 2) (MM.pure [])))))))
def s_law_3 : MM Fl := (asgS (dispE (consP (MM.pure (.str "pig")) (MM.bind (consA (var 2) (consA (MM.bind (MM.pure []) fun xs => lift (mkT xs)) (consA (var 2) (MM.pure [])))) fun xs => lift (mkT xs)) (MM.pure []))) (setD 4))
def s_law_4 : MM Fl := (newO (MM.bind (consA (metE nsX (methE "Foundry" "melt" m_Foundry_melt (var 3) (consA (op2 dMulS (MM.pure (.str "A")) (var 2)) (consA (MM.bind (MM.pure []) fun xs => lift (mkT xs)) (MM.pure []))))) (MM.pure [])) fun xs => lift (mkOL xs)) 5)
def s_law_5 : MM Fl := (appS 5 (metE nsX (callE m_stuff_text (consA (MM.bind (consA (MM.bind (consA (MM.pure (.str "al")) (consA (op2 dAdd (MM.pure (.int 1000)) (var 2)) (MM.pure []))) fun xs => lift (mkT xs)) (MM.pure [])) fun xs => lift (mkT xs)) (MM.pure [])))))
def s_law_6 : MM Fl := (appS 5 (metE nsX (callE m_meets (consA (MM.bind (consA (MM.bind (consA (MM.pure (.str "al")) (consA (op2 dAdd (MM.pure (.int 1)) (var 2)) (consA (var 2) (MM.pure [])))) fun xs => lift (mkT xs)) (MM.pure [])) fun xs => lift (mkT xs)) (consA (MM.bind (MM.pure []) fun xs => lift (mkT xs)) (MM.pure []))))))
def s_law_7 : MM Fl := (appS 5 (metE nsX (callE m_weight_of (consA (MM.bind (repO (consA (MM.bind (consA (MM.pure (.int 0)) (consA (MM.bind (MM.pure []) fun xs => lift (mkT xs)) (MM.pure []))) fun xs => lift (mkT xs)) (MM.pure [])) (var 2)) fun s => lift (asD s)) (MM.pure [])))))
def s_law_8 : MM Fl := (appS 5 (metE nsX (callE m_cheapest (consA (var 4) (consA (MM.bind (MM.pure []) fun xs => lift (mkT xs)) (consA (op2 dAdd (MM.pure (.int 60)) (var 2)) (MM.pure [])))))))
def s_law_9 : MM Fl := (appS 5 (metE nsX (callE m_price_of (consA (dispE (consP (MM.pure (.str "pig")) (MM.bind (consA (op2 dAdd (MM.pure (.int 60)) (var 2)) (consA (MM.bind (MM.pure []) fun xs => lift (mkT xs)) (consA (MM.pure (.int 0)) (MM.pure [])))) fun xs => lift (mkT xs)) (MM.pure []))) (consA (MM.bind (MM.pure []) fun xs => lift (mkT xs)) (MM.pure []))))))
def s_law_10 : MM Fl := (appS 5 (metE nsX (callE m_price_of (consA (var 4) (consA (MM.bind (consA (MM.bind (consA (MM.pure (.str "pig")) (consA (op2 dAdd (var 2) (MM.pure (.int 1))) (MM.pure []))) fun xs => lift (mkT xs)) (MM.pure [])) fun xs => lift (mkT xs)) (MM.pure []))))))
def s_law_11 : MM Fl := (appS 5 (metE nsX (callE m_bound (consA (var 4) (consA (MM.bind (MM.pure []) fun xs => lift (mkT xs)) (consA (MM.pure (.int 1)) (consA (MM.bind (consA (var 2) (consA (dispE (consP (MM.pure (.str "al")) (var 2) (MM.pure []))) (MM.pure []))) fun xs => lift (mkT xs)) (MM.pure []))))))))
def s_law_12 : MM Fl := (appS 5 (metE nsX (callE m_apart (consA (MM.bind (consA (MM.bind (consA (MM.pure (.str "ann")) (consA (op2 dAdd (MM.pure (.int 999)) (var 2)) (consA (MM.bind (MM.pure []) fun xs => lift (mkT xs)) (MM.pure [])))) fun xs => lift (mkT xs)) (MM.pure [])) fun xs => lift (mkL xs)) (MM.pure [])))))
def s_law_13 : MM Fl := (appS 5 (metE nsX (methE "Foundry" "buy" m_Foundry_buy (var 3) (consA (MM.pure (.str "pig")) (consA (var 2) (consA (MM.bind (MM.pure []) fun xs => lift (mkT xs)) (consA (var 2) (MM.pure []))))))))
def s_law_14 : MM Fl := (appS 5 (metE nsX (methE "Foundry" "pour" m_Foundry_pour (var 3) (consA (MM.pure (.str "ann")) (consA (op2 dMulS (MM.pure (.str "z")) (callE dMin (consA (MM.pure (.int 8)) (consA (var 2) (MM.pure []))))) (consA (var 2) (MM.pure [])))))))
def s_law_15 : MM Fl := (appS 5 (metE nsX (methE "Foundry" "melt" m_Foundry_melt (var 3) (consA (MM.pure (.str "one")) (consA (MM.bind (consA (MM.bind (consA (MM.pure (.str "pig")) (consA (op2 dMul (MM.pure (.int 2)) (var 2)) (MM.pure []))) fun xs => lift (mkT xs)) (MM.pure [])) fun xs => lift (mkT xs)) (MM.pure []))))))
def s_law_16 : MM Fl := (appS 5 (metE nsX (methE "Foundry" "undo" m_Foundry_undo (makeE "Foundry" m_Foundry___init__ (MM.pure [])) (MM.pure []))))
def c_law_1 : MM D := (MM.bind (consA (op2 dAdd (MM.pure (.str "c")) (var 6)) (consA (var 2) (MM.pure []))) fun xs => lift (mkT xs))
def s_law_17 : MM Fl := (appS 5 (metE nsX (callE m_best_end (consA (op2 dAdd (op2 dMod (var 2) (MM.pure (.int 6))) (MM.pure (.int 1))) (consA (MM.bind (iterA (MM.pure (.str "abcdefghij"))) (compL [6] (setD 6) (MM.pure true) c_law_1)) (MM.pure []))))))
def s_law_18 : MM Fl := (appS 5 (metE nsX (callE m_read_wish (consA (op2 dMulS (MM.pure (.str "al:")) (var 2)) (MM.pure [])))))
def c_law_2 : MM D := (callE m__law_alone (consA (var 8) (consA (var 7) (MM.pure []))))
def s_law_19 : MM Fl := (ifS (orT (notT (tst (callE dAll (consA (MM.bind (MM.bind (consA (var 5) (MM.pure [])) fun ds => lift (enumA ds)) (compL [7, 8] (setT [7, 8]) (MM.pure true) c_law_2)) (MM.pure []))))) (opT dNe (lackE (op2M ixM (var 5) (MM.pure (.int 11)))) (var 2))) (retS (MM.pure (.bool false))) (MM.pure .nx))
def b_law : MM Fl := (seqS s_law_1 (seqS s_law_2 (seqS s_law_3 (seqS s_law_4 (seqS s_law_5 (seqS s_law_6 (seqS s_law_7 (seqS s_law_8 (seqS s_law_9 (seqS s_law_10 (seqS s_law_11 (seqS s_law_12 (seqS s_law_13 (seqS s_law_14 (seqS s_law_15 (seqS s_law_16 (seqS s_law_17 (seqS s_law_18 (fun ρ => s_law_19 (frzS 5 ρ))))))))))))))))))))
theorem sc_law : FnScope ["_law_script", "_law_dice", "_law_more", "_law_foundry", "_law_lots", "_law_made", "_law_sign", "_law_at", "_law_e"] ["_law_script"] (defScope (top 91)) := ⟨rfl, rfl, rfl, by decide +kernel, rfl, by decide +kernel, by decide +kernel⟩
theorem ok_law (Y : Fx K mg) (Z : Zx Y base T) (hT : T.td = tdO P w) (hb : RoundOk 9 b_law) : FnOk P w K mg base (L2N.CX P w) 10 Y.d_law.f Y.d_law.fd ["_law_script"] (spLaw K T) :=
  have nd := sc_law.nd
  okN Y.d_law.F sc_law (fun vs H Q E ⟨a, ns, h, _⟩ => by rw [h]; rfl) fun cdv hcd A outer s H vs Q E hr h => ⟨_, pss_cons (ps_for (passes_of rfl) rfl (pi_seq (pe_callS (ok__law_rounds Y Z hT) (hr.mono (by decide)) rfl Y.d__law_rounds.g Y.d__law_rounds.F.kp Y.d__law_rounds.b (fun σ => L2N.passAt (L2N.takes_of rfl rfl rfl rfl) σ) (pa_cons (pv 0) (pa_cons pe_int pa_nil)))) (pg_name (i := 1) nd rfl (by first | exact Or.inl rfl | exact Or.inr rfl)) (pss_ex fun c =>
    (ms_seq (ms_unpk rfl nd (pnc 2 (pnc 3 PNs.nil)) (ml_dat (me_op o_add me_int (me_callO (i := 1) (ok__law_roll Y Z hT) (hr.mono (by decide)) rfl Y.d__law_roll.g Y.d__law_roll.F.kp Y.d__law_roll.b (L2N.takes_of rfl rfl rfl rfl) rfl (by first | exact Or.inl rfl | exact Or.inr (Or.inl rfl) | exact Or.inr (Or.inr rfl)) (ma_cons me_int ma_nil))) (ml_dat (me_make0 Y.mk_Foundry (ok_Foundry___init__ Y Z hT) (hr.mono (by decide)) rfl Y.g_Foundry Y.d_Foundry___init__.b) ml_nil))) (ms_seq (ms_expr (me_meth (mv 3) Y.k_Foundry Y.mt_Foundry_buy (ok_Foundry_buy Y Z hT) (hr.mono (by decide)) Y.d_Foundry_buy.b (L2N.takes_of rfl rfl rfl rfl) (ma_cons me_str (ma_cons (mv 2) (ma_cons (me_tup ma_nil) (ma_cons (mv 2) ma_nil)))))) (ms_seq (ms_set (i := 4) nd rfl (by first | exact Or.inl rfl | exact Or.inr rfl) (me_disp (mp_cons (fun c => me_str) (fun c => (me_tup (ma_cons (mv 2) (ma_cons (me_tup ma_nil) (ma_cons (mv 2) ma_nil))))) mp_nil) rfl rfl (by simp) (by simp))) (ms_seq (ms_newO (i := 5) nd rfl (by first | exact Or.inl rfl | exact Or.inr rfl) (mo_lst (ma_cons (me_met (k := 5) Z.U Z.kp.ct Y.d__law_met.F Y.d__law_met.g Y.d__law_met.b sc__law_met rfl rfl rfl (by first | exact Or.inl rfl | exact Or.inr (Or.inl rfl)) Z.mk_law hcd (hr.mono (by decide)) rfl rfl rfl (fun _ _ _ _ _ => rfl) (fun A outer s H E f c' hr => (me_meth (mv 3) Y.k_Foundry Y.mt_Foundry_melt (ok_Foundry_melt Y Z hT) (hr.mono (by decide)) Y.d_Foundry_melt.b (L2N.takes_of rfl rfl rfl rfl) (ma_cons (me_op o_mulS me_str (mv 2)) (ma_cons (me_tup ma_nil) ma_nil))))) ma_nil))) (ms_seq (ms_append (i := 5) rfl (by first | exact Or.inl rfl | exact Or.inr (Or.inl rfl) | exact Or.inr (Or.inr rfl)) (me_met (k := 5) Z.U Z.kp.ct Y.d__law_met.F Y.d__law_met.g Y.d__law_met.b sc__law_met rfl rfl rfl (by first | exact Or.inl rfl | exact Or.inr (Or.inl rfl)) Z.mk_law hcd (hr.mono (by decide)) rfl rfl rfl (fun _ _ _ _ _ => rfl) (fun A outer s H E f c' hr => (me_call (ok_stuff_text Y Z hT) (hr.mono (by decide)) rfl Y.d_stuff_text.g Y.d_stuff_text.F.kp Y.d_stuff_text.b (L2N.takes_of rfl rfl rfl rfl) (ma_cons (me_tup (ma_cons (me_tup (ma_cons me_str (ma_cons (me_op o_add me_int (mv 2)) ma_nil))) ma_nil)) ma_nil))))) (ms_seq (ms_append (i := 5) rfl (by first | exact Or.inl rfl | exact Or.inr (Or.inl rfl) | exact Or.inr (Or.inr rfl)) (me_met (k := 5) Z.U Z.kp.ct Y.d__law_met.F Y.d__law_met.g Y.d__law_met.b sc__law_met rfl rfl rfl (by first | exact Or.inl rfl | exact Or.inr (Or.inl rfl)) Z.mk_law hcd (hr.mono (by decide)) rfl rfl rfl (fun _ _ _ _ _ => rfl) (fun A outer s H E f c' hr => (me_call (ok_meets Y Z hT) (hr.mono (by decide)) rfl Y.d_meets.g Y.d_meets.F.kp Y.d_meets.b (L2N.takes_of rfl rfl rfl rfl) (ma_cons (me_tup (ma_cons (me_tup (ma_cons me_str (ma_cons (me_op o_add me_int (mv 2)) (ma_cons (mv 2) ma_nil)))) ma_nil)) (ma_cons (me_tup ma_nil) ma_nil)))))) (ms_seq (ms_append (i := 5) rfl (by first | exact Or.inl rfl | exact Or.inr (Or.inl rfl) | exact Or.inr (Or.inr rfl)) (me_met (k := 7) Z.U Z.kp.ct Y.d__law_met.F Y.d__law_met.g Y.d__law_met.b sc__law_met rfl rfl rfl (by first | exact Or.inl rfl | exact Or.inr (Or.inl rfl)) Z.mk_law hcd (hr.mono (by decide)) rfl rfl rfl (fun _ _ _ _ _ => rfl) (fun A outer s H E f c' hr => (me_call (ok_weight_of Y Z hT) (hr.mono (by decide)) rfl Y.d_weight_of.g Y.d_weight_of.F.kp Y.d_weight_of.b (L2N.takes_of rfl rfl rfl rfl) (ma_cons (me_asD (mo_rep (ma_cons (me_tup (ma_cons me_int (ma_cons (me_tup ma_nil) ma_nil))) ma_nil) (mv 2))) ma_nil))))) (ms_seq (ms_append (i := 5) rfl (by first | exact Or.inl rfl | exact Or.inr (Or.inl rfl) | exact Or.inr (Or.inr rfl)) (me_met (k := 7) Z.U Z.kp.ct Y.d__law_met.F Y.d__law_met.g Y.d__law_met.b sc__law_met rfl rfl rfl (by first | exact Or.inl rfl | exact Or.inr (Or.inl rfl)) Z.mk_law hcd (hr.mono (by decide)) rfl rfl rfl (fun _ _ _ _ _ => rfl) (fun A outer s H E f c' hr => (me_call (ok_cheapest Y Z hT) (hr.mono (by decide)) rfl Y.d_cheapest.g Y.d_cheapest.F.kp Y.d_cheapest.b (L2N.takes_of rfl rfl rfl rfl) (ma_cons (mv 4) (ma_cons (me_tup ma_nil) (ma_cons (me_op o_add me_int (mv 2)) ma_nil))))))) (ms_seq (ms_append (i := 5) rfl (by first | exact Or.inl rfl | exact Or.inr (Or.inl rfl) | exact Or.inr (Or.inr rfl)) (me_met (k := 7) Z.U Z.kp.ct Y.d__law_met.F Y.d__law_met.g Y.d__law_met.b sc__law_met rfl rfl rfl (by first | exact Or.inl rfl | exact Or.inr (Or.inl rfl)) Z.mk_law hcd (hr.mono (by decide)) rfl rfl rfl (fun _ _ _ _ _ => rfl) (fun A outer s H E f c' hr => (me_call (ok_price_of Y Z hT) (hr.mono (by decide)) rfl Y.d_price_of.g Y.d_price_of.F.kp Y.d_price_of.b (L2N.takes_of rfl rfl rfl rfl) (ma_cons (me_disp (mp_cons (fun c => me_str) (fun c => (me_tup (ma_cons (me_op o_add me_int (mv 2)) (ma_cons (me_tup ma_nil) (ma_cons me_int ma_nil))))) mp_nil) rfl rfl (by simp) (by simp)) (ma_cons (me_tup ma_nil) ma_nil)))))) (ms_seq (ms_append (i := 5) rfl (by first | exact Or.inl rfl | exact Or.inr (Or.inl rfl) | exact Or.inr (Or.inr rfl)) (me_met (k := 7) Z.U Z.kp.ct Y.d__law_met.F Y.d__law_met.g Y.d__law_met.b sc__law_met rfl rfl rfl (by first | exact Or.inl rfl | exact Or.inr (Or.inl rfl)) Z.mk_law hcd (hr.mono (by decide)) rfl rfl rfl (fun _ _ _ _ _ => rfl) (fun A outer s H E f c' hr => (me_call (ok_price_of Y Z hT) (hr.mono (by decide)) rfl Y.d_price_of.g Y.d_price_of.F.kp Y.d_price_of.b (L2N.takes_of rfl rfl rfl rfl) (ma_cons (mv 4) (ma_cons (me_tup (ma_cons (me_tup (ma_cons me_str (ma_cons (me_op o_add (mv 2) me_int) ma_nil))) ma_nil)) ma_nil)))))) (ms_seq (ms_append (i := 5) rfl (by first | exact Or.inl rfl | exact Or.inr (Or.inl rfl) | exact Or.inr (Or.inr rfl)) (me_met (k := 7) Z.U Z.kp.ct Y.d__law_met.F Y.d__law_met.g Y.d__law_met.b sc__law_met rfl rfl rfl (by first | exact Or.inl rfl | exact Or.inr (Or.inl rfl)) Z.mk_law hcd (hr.mono (by decide)) rfl rfl rfl (fun _ _ _ _ _ => rfl) (fun A outer s H E f c' hr => (me_call (ok_bound Y Z hT) (hr.mono (by decide)) rfl Y.d_bound.g Y.d_bound.F.kp Y.d_bound.b (L2N.takes_of rfl rfl rfl rfl) (ma_cons (mv 4) (ma_cons (me_tup ma_nil) (ma_cons me_int (ma_cons (me_tup (ma_cons (mv 2) (ma_cons (me_disp (mp_cons (fun c => me_str) (fun c => (mv 2)) mp_nil) rfl rfl (by simp) (by simp)) ma_nil))) ma_nil)))))))) (ms_seq (ms_append (i := 5) rfl (by first | exact Or.inl rfl | exact Or.inr (Or.inl rfl) | exact Or.inr (Or.inr rfl)) (me_met (k := 6) Z.U Z.kp.ct Y.d__law_met.F Y.d__law_met.g Y.d__law_met.b sc__law_met rfl rfl rfl (by first | exact Or.inl rfl | exact Or.inr (Or.inl rfl)) Z.mk_law hcd (hr.mono (by decide)) rfl rfl rfl (fun _ _ _ _ _ => rfl) (fun A outer s H E f c' hr => (me_call (ok_apart Y Z hT) (hr.mono (by decide)) rfl Y.d_apart.g Y.d_apart.F.kp Y.d_apart.b (L2N.takes_of rfl rfl rfl rfl) (ma_cons (me_lst (ma_cons (me_tup (ma_cons me_str (ma_cons (me_op o_add me_int (mv 2)) (ma_cons (me_tup ma_nil) ma_nil)))) ma_nil)) ma_nil))))) (ms_seq (ms_append (i := 5) rfl (by first | exact Or.inl rfl | exact Or.inr (Or.inl rfl) | exact Or.inr (Or.inr rfl)) (me_met (k := 5) Z.U Z.kp.ct Y.d__law_met.F Y.d__law_met.g Y.d__law_met.b sc__law_met rfl rfl rfl (by first | exact Or.inl rfl | exact Or.inr (Or.inl rfl)) Z.mk_law hcd (hr.mono (by decide)) rfl rfl rfl (fun _ _ _ _ _ => rfl) (fun A outer s H E f c' hr => (me_meth (mv 3) Y.k_Foundry Y.mt_Foundry_buy (ok_Foundry_buy Y Z hT) (hr.mono (by decide)) Y.d_Foundry_buy.b (L2N.takes_of rfl rfl rfl rfl) (ma_cons me_str (ma_cons (mv 2) (ma_cons (me_tup ma_nil) (ma_cons (mv 2) ma_nil)))))))) (ms_seq (ms_append (i := 5) rfl (by first | exact Or.inl rfl | exact Or.inr (Or.inl rfl) | exact Or.inr (Or.inr rfl)) (me_met (k := 4) Z.U Z.kp.ct Y.d__law_met.F Y.d__law_met.g Y.d__law_met.b sc__law_met rfl rfl rfl (by first | exact Or.inl rfl | exact Or.inr (Or.inl rfl)) Z.mk_law hcd (hr.mono (by decide)) rfl rfl rfl (fun _ _ _ _ _ => rfl) (fun A outer s H E f c' hr => (me_meth (mv 3) Y.k_Foundry Y.mt_Foundry_pour (ok_Foundry_pour Y Z hT) (hr.mono (by decide)) Y.d_Foundry_pour.b (L2N.takes_of rfl rfl rfl rfl) (ma_cons me_str (ma_cons (me_op o_mulS me_str (me_callB (b_min rfl) rfl Y.n_min bt_min (ma_cons me_int (ma_cons (mv 2) ma_nil)))) (ma_cons (mv 2) ma_nil))))))) (ms_seq (ms_append (i := 5) rfl (by first | exact Or.inl rfl | exact Or.inr (Or.inl rfl) | exact Or.inr (Or.inr rfl)) (me_met (k := 5) Z.U Z.kp.ct Y.d__law_met.F Y.d__law_met.g Y.d__law_met.b sc__law_met rfl rfl rfl (by first | exact Or.inl rfl | exact Or.inr (Or.inl rfl)) Z.mk_law hcd (hr.mono (by decide)) rfl rfl rfl (fun _ _ _ _ _ => rfl) (fun A outer s H E f c' hr => (me_meth (mv 3) Y.k_Foundry Y.mt_Foundry_melt (ok_Foundry_melt Y Z hT) (hr.mono (by decide)) Y.d_Foundry_melt.b (L2N.takes_of rfl rfl rfl rfl) (ma_cons me_str (ma_cons (me_tup (ma_cons (me_tup (ma_cons me_str (ma_cons (me_op o_mul me_int (mv 2)) ma_nil))) ma_nil)) ma_nil)))))) (ms_seq (ms_append (i := 5) rfl (by first | exact Or.inl rfl | exact Or.inr (Or.inl rfl) | exact Or.inr (Or.inr rfl)) (me_met (k := 2) Z.U Z.kp.ct Y.d__law_met.F Y.d__law_met.g Y.d__law_met.b sc__law_met rfl rfl rfl (by first | exact Or.inl rfl | exact Or.inr (Or.inl rfl)) Z.mk_law hcd (hr.mono (by decide)) rfl rfl rfl (fun _ _ _ _ _ => rfl) (fun A outer s H E f c' hr => (me_meth0 (me_make0 Y.mk_Foundry (ok_Foundry___init__ Y Z hT) (hr.mono (by decide)) rfl Y.g_Foundry Y.d_Foundry___init__.b) Y.k_Foundry Y.mt_Foundry_undo (ok_Foundry_undo Y Z hT) (hr.mono (by decide)) Y.d_Foundry_undo.b (L2N.takes_of rfl rfl rfl rfl))))) (ms_seq (ms_append (i := 5) rfl (by first | exact Or.inl rfl | exact Or.inr (Or.inl rfl) | exact Or.inr (Or.inr rfl)) (me_met (k := 4) Z.U Z.kp.ct Y.d__law_met.F Y.d__law_met.g Y.d__law_met.b sc__law_met rfl rfl rfl (by first | exact Or.inl rfl | exact Or.inr (Or.inl rfl)) Z.mk_law hcd (hr.mono (by decide)) rfl rfl rfl (fun _ _ _ _ _ => rfl) (fun A outer s H E f c' hr => (me_call (ok_best_end Y Z hT) (hr.mono (by decide)) rfl Y.d_best_end.g Y.d_best_end.F.kp Y.d_best_end.b (L2N.takes_of rfl rfl rfl rfl) (ma_cons (me_op o_add (me_op o_mod (mv 2) me_int) me_int) (ma_cons (me_lc rfl nd (mi_all me_str) (blk_of [("_law_sign", 6)] rfl) rfl (fun c s H C cl fp => (mgn 6 nd)) (fun c s H C cl fp => mts_nil) (fun c s H C cl fp => (me_tup (ma_cons (me_op o_add me_str (mv 6)) (ma_cons (mv 2) ma_nil))))) ma_nil)))))) (ms_seq (ms_append (i := 5) rfl (by first | exact Or.inl rfl | exact Or.inr (Or.inl rfl) | exact Or.inr (Or.inr rfl)) (me_met (k := 2) Z.U Z.kp.ct Y.d__law_met.F Y.d__law_met.g Y.d__law_met.b sc__law_met rfl rfl rfl (by first | exact Or.inl rfl | exact Or.inr (Or.inl rfl)) Z.mk_law hcd (hr.mono (by decide)) rfl rfl rfl (fun _ _ _ _ _ => rfl) (fun A outer s H E f c' hr => (me_call (ok_read_wish Y Z hT) (hr.mono (by decide)) rfl Y.d_read_wish.g Y.d_read_wish.F.kp Y.d_read_wish.b (L2N.takes_of rfl rfl rfl rfl) (ma_cons (me_op o_mulS me_str (mv 2)) ma_nil))))) (ms_freeze 5 (ms_one (ms_if (PW.pt (mw_or (mt_not (mt_val (me_callB (b_all rfl) rfl Y.n_all bt_all (ma_cons (me_lc rfl nd (mi_enumA rfl Y.n_enumerate (ma_cons (mv 5) ma_nil)) (blk_of [("_law_at", 7), ("_law_e", 8)] rfl) rfl (fun c s H C cl fp => (mg_tup rfl (mgc 7 nd (mgc 8 nd mgs_nil)))) (fun c s H C cl fp => mts_nil) (fun c s H C cl fp => (me_call (ok__law_alone Y Z hT) (hr.mono (by decide)) rfl Y.d__law_alone.g Y.d__law_alone.F.kp Y.d__law_alone.b takes0 (ma_cons (mv 8) (ma_cons (mv 7) ma_nil))))) ma_nil)))) (mw_or1 (mt_cmp (o_ne hr.units) (me_lacks Z.kp (me_ixM (hu9 hr) hT (mv 5) me_int (fun _ _ => rfl))) (mv 2) (nomark _))))) (ms_one (ms_ret me_bl)) ms_nil))))))))))))))))))))))) (pss_one (ps_ret pe_bl)), law_reads (r := 4) (by decide) (by decide) hb h⟩
end
end Mi
set_option Elab.async false
set_option linter.all false
set_option maxRecDepth 100000
set_option maxHeartbeats 0
namespace Mi
open PySem PySem.Spec PyProof.Rows L2
theorem facts {K : Fg} {w : World} {h : Heap} {mg : Str → Option Value} (X : K.In h) (G : h.Ns mainGlobals mg) (cx : He.SaysX fa fn [] tf ex w h K) : ∃ Y : Fx K mg, (∀ (s : Shared) (v : Value), BindsTo s Y.d_law.fd ⟨[v], []⟩ [("_law_script", v)]) ∧ ∀ base : Heap, (∀ p ∈ tf, LamX.TabB base mg (He.cT K p).1 (He.cT K p).2) → Zx Y base (Ts (tdO (PySem.Challenge.rw_castinghall_k27_refusals_apart).prog w) tf K) := by
  have c : He.SaysD fa fn K := cx.t.d
  have hex := cx.more
  unfold ex at hex
  obtain ⟨hexT, hex⟩ := Bool.and_eq_true_iff.mp hex
  obtain ⟨hexT, hexM⟩ := Bool.and_eq_true_iff.mp hexT
  rw [Bool.and_eq_true] at hex
  obtain ⟨fd0, F0⟩ := c.def_ 0 (d := e__law_cell) rfl
  obtain ⟨fd1, F1⟩ := c.def_ 1 (d := e__law_rounds) rfl
  obtain ⟨fd2, F2⟩ := c.def_ 2 (d := e_is_word) rfl
  obtain ⟨fd3, F3⟩ := c.def_ 3 (d := e_need_word) rfl
  obtain ⟨fd4, F4⟩ := c.def_ 4 (d := e_Foundry_need_new) rfl
  obtain ⟨fd5, F5⟩ := c.def_ 5 (d := e_rise) rfl
  obtain ⟨fd6, F6⟩ := c.def_ 6 (d := e_is_tuple) rfl
  obtain ⟨fd7, F7⟩ := c.def_ 7 (d := e_is_whole) rfl
  obtain ⟨fd8, F8⟩ := c.def_ 8 (d := e_is_stuff) rfl
  obtain ⟨fd9, F9⟩ := c.def_ 9 (d := e_need_stuff) rfl
  obtain ⟨fd10, F10⟩ := c.def_ 10 (d := e_Lot___init__) rfl
  obtain ⟨fd11, F11⟩ := c.def_ 11 (d := e_Lot_copy) rfl
  obtain ⟨fd12, F12⟩ := c.def_ 12 (d := e_Casting___init__) rfl
  obtain ⟨fd13, F13⟩ := c.def_ 13 (d := e_Foundry_remember) rfl
  obtain ⟨fd14, F14⟩ := c.def_ 14 (d := e_Foundry_buy) rfl
  obtain ⟨fd15, F15⟩ := c.def_ 15 (d := e_Foundry___init__) rfl
  obtain ⟨fd16, F16⟩ := c.def_ 16 (d := e__law_met) rfl
  obtain ⟨fd17, F17⟩ := c.def_ 17 (d := e__law_drawn) rfl
  obtain ⟨fd18, F18⟩ := c.def_ 18 (d := e__law_roll) rfl
  obtain ⟨fd19, F19⟩ := c.def_ 19 (d := e_need_left) rfl
  obtain ⟨fd20, F20⟩ := c.def_ 20 (d := e_Foundry_need_lots) rfl
  obtain ⟨fd21, F21⟩ := c.def_ 21 (d := e_is_charge) rfl
  obtain ⟨fd22, F22⟩ := c.def_ 22 (d := e_Foundry_melt) rfl
  obtain ⟨fd23, F23⟩ := c.def_ 23 (d := e_stuff_text) rfl
  obtain ⟨fd24, F24⟩ := c.def_ 24 (d := e_is_wish) rfl
  obtain ⟨fd25, F25⟩ := c.def_ 25 (d := e_need_wish) rfl
  obtain ⟨fd26, F26⟩ := c.def_ 26 (d := e_meets) rfl
  obtain ⟨fd27, F27⟩ := c.def_ 27 (d := e_is_weighed) rfl
  obtain ⟨fd28, F28⟩ := c.def_ 28 (d := e_is_load) rfl
  obtain ⟨fd29, F29⟩ := c.def_ 29 (d := e_need_load) rfl
  obtain ⟨fd30, F30⟩ := c.def_ 30 (d := e_weight_of) rfl
  obtain ⟨fd31, F31⟩ := c.def_ 31 (d := e_is_lot) rfl
  obtain ⟨fd32, F32⟩ := c.def_ 32 (d := e_is_lots) rfl
  obtain ⟨fd33, F33⟩ := c.def_ 33 (d := e_need_lots) rfl
  obtain ⟨fd34, F34⟩ := c.def_ 34 (d := e_need_weight) rfl
  obtain ⟨fd35, F35⟩ := c.def_ 35 (d := e_cheapest) rfl
  obtain ⟨fd36, F36⟩ := c.def_ 36 (d := e_need_charge) rfl
  obtain ⟨fd37, F37⟩ := c.def_ 37 (d := e_price_of) rfl
  obtain ⟨fd38, F38⟩ := c.def_ 38 (d := e_is_int) rfl
  obtain ⟨fd39, F39⟩ := c.def_ 39 (d := e_need_paper) rfl
  obtain ⟨fd40, F40⟩ := c.def_ 40 (d := e_bound) rfl
  obtain ⟨fd41, F41⟩ := c.def_ 41 (d := e_are_unlike) rfl
  obtain ⟨fd42, F42⟩ := c.def_ 42 (d := e_is_form) rfl
  obtain ⟨fd43, F43⟩ := c.def_ 43 (d := e_need_forms) rfl
  obtain ⟨fd44, F44⟩ := c.def_ 44 (d := e_apart) rfl
  obtain ⟨fd45, F45⟩ := c.def_ 45 (d := e_Foundry_pour) rfl
  obtain ⟨fd46, F46⟩ := c.def_ 46 (d := e_Foundry_undo) rfl
  obtain ⟨fd47, F47⟩ := c.def_ 47 (d := e_need_castings) rfl
  obtain ⟨fd48, F48⟩ := c.def_ 48 (d := e_best_end) rfl
  obtain ⟨fd49, F49⟩ := c.def_ 49 (d := e_words_in) rfl
  obtain ⟨fd50, F50⟩ := c.def_ 50 (d := e_number_in) rfl
  obtain ⟨fd51, F51⟩ := c.def_ 51 (d := e_read_wish) rfl
  obtain ⟨fd52, F52⟩ := c.def_ 52 (d := e__law_alone) rfl
  obtain ⟨fd53, F53⟩ := c.def_ 53 (d := e_law) rfl
  obtain ⟨fd54, F54⟩ := c.def_ 54 (d := e_TooMuch___init__) rfl
  have b := FunD.bindsA (ps := ["_law_script"]) F53 fun _ _ _ _ _ _ us hl => match us, hl with | [_], _ => rfl
  exact ⟨⟨⟨_, fd0, He5.fun_of F0, He.glo_ok X G (c.fact 0 (f := .glo "_law_cell") rfl), FunD.bindsN F0 fun _ _ _ _ _ _ us hl => match us, hl with | [_, _], _ => rfl⟩,
    ⟨_, fd1, He5.fun_of F1, He.glo_ok X G (c.fact 1 (f := .glo "_law_rounds") rfl), FunD.bindsN F1 fun _ _ _ _ _ _ us hl => match us, hl with | [_, _], _ => rfl⟩,
    ⟨_, fd2, He5.fun_of F2, He.glo_ok X G (c.fact 2 (f := .glo "is_word") rfl), FunD.bindsN F2 fun _ _ _ _ _ _ us hl => match us, hl with | [_], _ => rfl⟩,
    ⟨_, fd3, He5.fun_of F3, He.glo_ok X G (c.fact 3 (f := .glo "need_word") rfl), FunD.bindsN F3 fun _ _ _ _ _ _ us hl => match us, hl with | [_], _ => rfl⟩,
    ⟨_, fd4, He5.fun_of F4, rfl, FunD.bindsN F4 fun _ _ _ _ _ _ us hl => match us, hl with | [_, _, _], _ => rfl⟩,
    He.meth_ok (c.fact 49 (f := .meth "Foundry" "need_new") rfl),
    ⟨_, fd5, He5.fun_of F5, He.glo_ok X G (c.fact 4 (f := .glo "rise") rfl), FunD.bindsN F5 fun _ _ _ _ _ _ us hl => match us, hl with | [_], _ => rfl⟩,
    ⟨_, fd6, He5.fun_of F6, He.glo_ok X G (c.fact 5 (f := .glo "is_tuple") rfl), FunD.bindsN F6 fun _ _ _ _ _ _ us hl => match us, hl with | [_, _], _ => rfl⟩,
    ⟨_, fd7, He5.fun_of F7, He.glo_ok X G (c.fact 6 (f := .glo "is_whole") rfl), FunD.bindsN F7 fun _ _ _ _ _ _ us hl => match us, hl with | [_, _, _], _ => rfl⟩,
    ⟨_, fd8, He5.fun_of F8, He.glo_ok X G (c.fact 7 (f := .glo "is_stuff") rfl), FunD.bindsN F8 fun _ _ _ _ _ _ us hl => match us, hl with | [_], _ => rfl⟩,
    ⟨_, fd9, He5.fun_of F9, He.glo_ok X G (c.fact 8 (f := .glo "need_stuff") rfl), FunD.bindsN F9 fun _ _ _ _ _ _ us hl => match us, hl with | [_], _ => rfl⟩,
    ⟨_, fd10, He5.fun_of F10, rfl, FunD.bindsN F10 fun _ _ _ _ _ _ us hl => match us, hl with | [_, _, _, _, _, _], _ => rfl⟩,
    He.mkr_ok (c.fact 50 (f := .mkr "Lot") rfl),
    ⟨_, fd11, He5.fun_of F11, rfl, FunD.bindsN F11 fun _ _ _ _ _ _ us hl => match us, hl with | [_], _ => rfl⟩,
    He.meth_ok (c.fact 51 (f := .meth "Lot" "copy") rfl),
    ⟨_, fd12, He5.fun_of F12, rfl, FunD.bindsN F12 fun _ _ _ _ _ _ us hl => match us, hl with | [_, _, _, _], _ => rfl⟩,
    He.mkr_ok (c.fact 52 (f := .mkr "Casting") rfl),
    ⟨_, fd13, He5.fun_of F13, rfl, FunD.bindsN F13 fun _ _ _ _ _ _ us hl => match us, hl with | [_, _], _ => rfl⟩,
    He.meth_ok (c.fact 53 (f := .meth "Foundry" "remember") rfl),
    ⟨_, fd14, He5.fun_of F14, rfl, FunD.bindsN F14 fun _ _ _ _ _ _ us hl => match us, hl with | [_, _, _, _, _], _ => rfl⟩,
    He.meth_ok (c.fact 54 (f := .meth "Foundry" "buy") rfl),
    ⟨_, fd15, He5.fun_of F15, rfl, FunD.bindsN F15 fun _ _ _ _ _ _ us hl => match us, hl with | [_], _ => rfl⟩,
    He.mkr_ok (c.fact 55 (f := .mkr "Foundry") rfl),
    ⟨_, fd16, He5.fun_of F16, He.glo_ok X G (c.fact 9 (f := .glo "_law_met") rfl), FunD.bindsN F16 fun _ _ _ _ _ _ us hl => match us, hl with | [_], _ => rfl⟩,
    ⟨_, fd17, He5.fun_of F17, He.glo_ok X G (c.fact 10 (f := .glo "_law_drawn") rfl), FunD.bindsN F17 fun _ _ _ _ _ _ us hl => match us, hl with | [_, _], _ => rfl⟩,
    ⟨_, fd18, He5.fun_of F18, He.glo_ok X G (c.fact 11 (f := .glo "_law_roll") rfl), FunD.bindsN F18 fun _ _ _ _ _ _ us hl => match us, hl with | [_, _], _ => rfl⟩,
    ⟨_, fd19, He5.fun_of F19, He.glo_ok X G (c.fact 12 (f := .glo "need_left") rfl), FunD.bindsN F19 fun _ _ _ _ _ _ us hl => match us, hl with | [_, _], _ => rfl⟩,
    ⟨_, fd20, He5.fun_of F20, rfl, FunD.bindsN F20 fun _ _ _ _ _ _ us hl => match us, hl with | [_, _], _ => rfl⟩,
    He.meth_ok (c.fact 56 (f := .meth "Foundry" "need_lots") rfl),
    ⟨_, fd21, He5.fun_of F21, He.glo_ok X G (c.fact 13 (f := .glo "is_charge") rfl), FunD.bindsN F21 fun _ _ _ _ _ _ us hl => match us, hl with | [_], _ => rfl⟩,
    ⟨_, fd22, He5.fun_of F22, rfl, FunD.bindsN F22 fun _ _ _ _ _ _ us hl => match us, hl with | [_, _, _], _ => rfl⟩,
    He.meth_ok (c.fact 57 (f := .meth "Foundry" "melt") rfl),
    ⟨_, fd23, He5.fun_of F23, He.glo_ok X G (c.fact 14 (f := .glo "stuff_text") rfl), FunD.bindsN F23 fun _ _ _ _ _ _ us hl => match us, hl with | [_], _ => rfl⟩,
    ⟨_, fd24, He5.fun_of F24, He.glo_ok X G (c.fact 15 (f := .glo "is_wish") rfl), FunD.bindsN F24 fun _ _ _ _ _ _ us hl => match us, hl with | [_], _ => rfl⟩,
    ⟨_, fd25, He5.fun_of F25, He.glo_ok X G (c.fact 16 (f := .glo "need_wish") rfl), FunD.bindsN F25 fun _ _ _ _ _ _ us hl => match us, hl with | [_], _ => rfl⟩,
    ⟨_, fd26, He5.fun_of F26, He.glo_ok X G (c.fact 17 (f := .glo "meets") rfl), FunD.bindsN F26 fun _ _ _ _ _ _ us hl => match us, hl with | [_, _], _ => rfl⟩,
    ⟨_, fd27, He5.fun_of F27, He.glo_ok X G (c.fact 18 (f := .glo "is_weighed") rfl), FunD.bindsN F27 fun _ _ _ _ _ _ us hl => match us, hl with | [_], _ => rfl⟩,
    ⟨_, fd28, He5.fun_of F28, He.glo_ok X G (c.fact 19 (f := .glo "is_load") rfl), FunD.bindsN F28 fun _ _ _ _ _ _ us hl => match us, hl with | [_], _ => rfl⟩,
    ⟨_, fd29, He5.fun_of F29, He.glo_ok X G (c.fact 20 (f := .glo "need_load") rfl), FunD.bindsN F29 fun _ _ _ _ _ _ us hl => match us, hl with | [_], _ => rfl⟩,
    ⟨_, fd30, He5.fun_of F30, He.glo_ok X G (c.fact 21 (f := .glo "weight_of") rfl), FunD.bindsN F30 fun _ _ _ _ _ _ us hl => match us, hl with | [_], _ => rfl⟩,
    ⟨_, fd31, He5.fun_of F31, He.glo_ok X G (c.fact 22 (f := .glo "is_lot") rfl), FunD.bindsN F31 fun _ _ _ _ _ _ us hl => match us, hl with | [_], _ => rfl⟩,
    ⟨_, fd32, He5.fun_of F32, He.glo_ok X G (c.fact 23 (f := .glo "is_lots") rfl), FunD.bindsN F32 fun _ _ _ _ _ _ us hl => match us, hl with | [_], _ => rfl⟩,
    ⟨_, fd33, He5.fun_of F33, He.glo_ok X G (c.fact 24 (f := .glo "need_lots") rfl), FunD.bindsN F33 fun _ _ _ _ _ _ us hl => match us, hl with | [_], _ => rfl⟩,
    ⟨_, fd34, He5.fun_of F34, He.glo_ok X G (c.fact 25 (f := .glo "need_weight") rfl), FunD.bindsN F34 fun _ _ _ _ _ _ us hl => match us, hl with | [_], _ => rfl⟩,
    ⟨_, fd35, He5.fun_of F35, He.glo_ok X G (c.fact 26 (f := .glo "cheapest") rfl), FunD.bindsN F35 fun _ _ _ _ _ _ us hl => match us, hl with | [_, _, _], _ => rfl⟩,
    ⟨_, fd36, He5.fun_of F36, He.glo_ok X G (c.fact 27 (f := .glo "need_charge") rfl), FunD.bindsN F36 fun _ _ _ _ _ _ us hl => match us, hl with | [_, _], _ => rfl⟩,
    ⟨_, fd37, He5.fun_of F37, He.glo_ok X G (c.fact 28 (f := .glo "price_of") rfl), FunD.bindsN F37 fun _ _ _ _ _ _ us hl => match us, hl with | [_, _], _ => rfl⟩,
    ⟨_, fd38, He5.fun_of F38, He.glo_ok X G (c.fact 29 (f := .glo "is_int") rfl), FunD.bindsN F38 fun _ _ _ _ _ _ us hl => match us, hl with | [_], _ => rfl⟩,
    ⟨_, fd39, He5.fun_of F39, He.glo_ok X G (c.fact 30 (f := .glo "need_paper") rfl), FunD.bindsN F39 fun _ _ _ _ _ _ us hl => match us, hl with | [_, _], _ => rfl⟩,
    ⟨_, fd40, He5.fun_of F40, He.glo_ok X G (c.fact 31 (f := .glo "bound") rfl), FunD.bindsN F40 fun _ _ _ _ _ _ us hl => match us, hl with | [_, _, _, _], _ => rfl⟩,
    ⟨_, fd41, He5.fun_of F41, He.glo_ok X G (c.fact 32 (f := .glo "are_unlike") rfl), FunD.bindsN F41 fun _ _ _ _ _ _ us hl => match us, hl with | [_], _ => rfl⟩,
    ⟨_, fd42, He5.fun_of F42, He.glo_ok X G (c.fact 33 (f := .glo "is_form") rfl), FunD.bindsN F42 fun _ _ _ _ _ _ us hl => match us, hl with | [_], _ => rfl⟩,
    ⟨_, fd43, He5.fun_of F43, He.glo_ok X G (c.fact 34 (f := .glo "need_forms") rfl), FunD.bindsN F43 fun _ _ _ _ _ _ us hl => match us, hl with | [_], _ => rfl⟩,
    ⟨_, fd44, He5.fun_of F44, He.glo_ok X G (c.fact 35 (f := .glo "apart") rfl), FunD.bindsN F44 fun _ _ _ _ _ _ us hl => match us, hl with | [_], _ => rfl⟩,
    ⟨_, fd45, He5.fun_of F45, rfl, FunD.bindsN F45 fun _ _ _ _ _ _ us hl => match us, hl with | [_, _, _, _], _ => rfl⟩,
    He.meth_ok (c.fact 58 (f := .meth "Foundry" "pour") rfl),
    ⟨_, fd46, He5.fun_of F46, rfl, FunD.bindsN F46 fun _ _ _ _ _ _ us hl => match us, hl with | [_], _ => rfl⟩,
    He.meth_ok (c.fact 59 (f := .meth "Foundry" "undo") rfl),
    ⟨_, fd47, He5.fun_of F47, He.glo_ok X G (c.fact 36 (f := .glo "need_castings") rfl), FunD.bindsN F47 fun _ _ _ _ _ _ us hl => match us, hl with | [_, _], _ => rfl⟩,
    ⟨_, fd48, He5.fun_of F48, He.glo_ok X G (c.fact 37 (f := .glo "best_end") rfl), FunD.bindsN F48 fun _ _ _ _ _ _ us hl => match us, hl with | [_, _], _ => rfl⟩,
    ⟨_, fd49, He5.fun_of F49, He.glo_ok X G (c.fact 38 (f := .glo "words_in") rfl), FunD.bindsN F49 fun _ _ _ _ _ _ us hl => match us, hl with | [_], _ => rfl⟩,
    ⟨_, fd50, He5.fun_of F50, He.glo_ok X G (c.fact 39 (f := .glo "number_in") rfl), FunD.bindsN F50 fun _ _ _ _ _ _ us hl => match us, hl with | [_, _], _ => rfl⟩,
    ⟨_, fd51, He5.fun_of F51, He.glo_ok X G (c.fact 40 (f := .glo "read_wish") rfl), FunD.bindsN F51 fun _ _ _ _ _ _ us hl => match us, hl with | [_], _ => rfl⟩,
    ⟨_, fd52, He5.fun_of F52, He.glo_ok X G (c.fact 41 (f := .glo "_law_alone") rfl), FunD.bindsN F52 fun _ _ _ _ _ _ us hl => match us, hl with | [_, _], _ => rfl⟩,
    ⟨_, fd53, He5.fun_of F53, He.glo_ok X G (c.fact 42 (f := .glo "law") rfl), FunD.bindsN F53 fun _ _ _ _ _ _ us hl => match us, hl with | [_], _ => rfl⟩,
    ⟨_, fd54, He5.fun_of F54, rfl, FunD.bindsN F54 fun _ _ _ _ _ _ us hl => match us, hl with | [_, _], _ => rfl⟩,
    He.cls_ok (c.fact 43 (f := .cls "Foundry") rfl),
    He.glo_ok X G (c.fact 44 (f := .glo "Foundry") rfl),
    He.cls_ok (c.fact 45 (f := .cls "Lot") rfl),
    He.glo_ok X G (c.fact 46 (f := .glo "Lot") rfl),
    He.cls_ok (c.fact 47 (f := .cls "Casting") rfl),
    He.glo_ok X G (c.fact 48 (f := .glo "Casting") rfl),
    He.noat_ok (c.fact 60 (f := .noat "Foundry" "named") rfl),
    He.noat_ok (c.fact 61 (f := .noat "Lot" "weight") rfl),
    He.noat_ok (c.fact 62 (f := .noat "Lot" "left") rfl),
    He.noat_ok (c.fact 63 (f := .noat "Lot" "stuff") rfl),
    He.noat_ok (c.fact 64 (f := .noat "Lot" "price") rfl),
    He.noat_ok (c.fact 65 (f := .noat "Lot" "origin") rfl),
    He.noat_ok (c.fact 66 (f := .noat "Lot" "ways") rfl),
    He.noat_ok (c.fact 67 (f := .noat "Casting" "pot") rfl),
    He.noat_ok (c.fact 68 (f := .noat "Casting" "weight") rfl),
    He.noat_ok (c.fact 69 (f := .noat "Casting" "standing") rfl),
    He.noat_ok (c.fact 70 (f := .noat "Foundry" "deeds") rfl),
    He.noat_ok (c.fact 71 (f := .noat "Foundry" "store") rfl),
    He.noat_ok (c.fact 72 (f := .noat "Foundry" "pots") rfl),
    He.noat_ok (c.fact 73 (f := .noat "Foundry" "cast") rfl),
    He.noat_ok (c.fact 74 (f := .noat "Foundry" "past") rfl),
    He.free_ok X G (c.fact 75 (f := .free "len") rfl),
    He.free_ok X G (c.fact 76 (f := .free "range") rfl),
    He.free_ok X G (c.fact 77 (f := .free "max") rfl),
    He.free_ok X G (c.fact 78 (f := .free "min") rfl),
    He.free_ok X G (c.fact 79 (f := .free "isinstance") rfl),
    He.free_ok X G (c.fact 80 (f := .free "str") rfl),
    He.free_ok X G (c.fact 81 (f := .free "all") rfl),
    He.free_ok X G (c.fact 82 (f := .free "zip") rfl),
    He.free_ok X G (c.fact 83 (f := .free "tuple") rfl),
    He.free_ok X G (c.fact 84 (f := .free "int") rfl),
    He.free_ok X G (c.fact 85 (f := .free "bool") rfl),
    He.free_ok X G (c.fact 86 (f := .free "sum") rfl),
    He.free_ok X G (c.fact 87 (f := .free "dict") rfl),
    He.free_ok X G (c.fact 88 (f := .free "list") rfl),
    He.free_ok X G (c.fact 89 (f := .free "set") rfl),
    He.free_ok X G (c.fact 90 (f := .free "ValueError") rfl),
    He.free_ok X G (c.fact 91 (f := .free "enumerate") rfl),
    He.str_ok X G (c.fact 92 (f := .str "SMALL" "abcdefghijklmnopqrstuvwxyz") rfl),
    He.int_ok X G (c.fact 93 (f := .int "HEAVIEST" 9999) rfl),
    He.int_ok X G (c.fact 94 (f := .int "MOST_WEIGHT" 60) rfl),
    He.str_ok X G (c.fact 95 (f := .str "FIGURES" "0123456789") rfl)⟩, fun s v => b s [v] rfl, fun base TB => ⟨toldF_of X G hex.1, tmF_of hexT, kepF_of (toldF_of X G hex.1) (tmF_of hexT) (by decide +kernel) (of_decide_eq_true hexM), mkr_of (st := top 91) (He5.fun_of F53) (by decide +kernel) hex.2 TB⟩⟩
theorem cx_none {P : Program} {w : World} {H : Hp} {s : Shared} {e : Value} {s1 : Shared} (h : L2N.CX P w [] H s (fun _ _ _ => False) e s1) : False := by
  obtain ⟨a, B, H1, cls, d, _, _, _, _, _, _, _, z⟩ := h
  exact z
end Mi
open PySem PySem.W PySem.Calls PyProof.Rows
theorem Mi.holds_of (hb : Mi.RoundOk 9 Mi.b_law) : PySem.Challenge.rw_castinghall_k27_refusals_apart.Holds := by
  w_on; o_law
  refine HandSHeadRun.head_any (r := OpenLaw.row PySem.Challenge.rw_castinghall_k27_refusals_apart) (q := view (OpenLaw.row PySem.Challenge.rw_castinghall_k27_refusals_apart).prog [91]) (H := Mi.hk) (ob := Mi.ob) (M := 20000) (loose := Mi.loose) (d := HandSHeadRun.topDef (OpenLaw.row PySem.Challenge.rw_castinghall_k27_refusals_apart).prog 91) (kwd := []) Mi.ob_eq
    (by kernel_rfl) (fun s => by kernel_rfl) Mi.run (by kernel_rfl) (by kernel_rfl) (by kernel_rfl) (by rfl) (by first | assumption | decide +kernel) (by decide +kernel) ⟨rfl, rfl, rfl, rfl, rfl, by decide +kernel⟩ ?hw ?hc
  case hw => w_witness2
  case hc =>
    refine LamX.walk_ofTsE (l := PySem.Challenge.rw_castinghall_k27_refusals_apart) (n := 63) (k := 10) (x := "_law_script") (CX := fun w => L2N.CX (PySem.Challenge.rw_castinghall_k27_refusals_apart).prog w) rfl (by decide) (by kernel_rfl) ⟨rfl, by decide, by decide⟩ ?F (fun _ _ _ _ _ z => Mi.cx_none z)
    intro w mg fa h Y G hmg0
    obtain ⟨K, KX, c⟩ := Y
    have hmg : mg ("law" : PySem.Str) = some (.ref fa) := by
      have e : (HandSHeadRun.topDef (OpenLaw.row PySem.Challenge.rw_castinghall_k27_refusals_apart).prog 91).name = ("law" : PySem.Str) := by kernel_rfl
      rw [← e]
      exact hmg0
    obtain ⟨Y, hbd, hZ⟩ := Mi.facts KX G c
    have e := hmg.symm.trans Y.d_law.g
    cases e
    exact ⟨K, KX, Y.d_law.fd, Mi.tf.map (He.cT K), Mi.spLaw K (Mi.Ts (Mi.tdO (PySem.Challenge.rw_castinghall_k27_refusals_apart).prog w) Mi.tf K), (fun p hp => by obtain ⟨p', hp', rfl⟩ := List.mem_map.mp hp; exact c.empty p' hp'), (fun p hp => by obtain ⟨p', hp', rfl⟩ := List.mem_map.mp hp; exact c.out p' hp'), (fun p hp => by obtain ⟨p', hp', rfl⟩ := List.mem_map.mp hp; exact PySem.W.codeHd_of_K KX (c.hd p' hp')), hbd, fun H a ns hl _ hT hS => ⟨a, ns, rfl, hS, by omega, Mi.tabs_of hT, fun _ => rfl⟩, fun base _ _ TB => Mi.ok_law Y (hZ base fun p hp => TB _ (List.mem_map.mpr ⟨p, hp, rfl⟩)) rfl hb⟩
set_option Elab.async false
set_option linter.all false
set_option maxRecDepth 100000
set_option maxHeartbeats 4000000
namespace Mi
open PySem L2
theorem log2_lt_of {n k : Nat} (h : n < 2 ^ k) (hk : 0 < k) : n.log2 < k := by
  by_cases z : n = 0
  · subst z; simpa using hk
  · exact (Nat.log2_lt z).mpr h
theorem mulOk_r {i j : Int} (h : -(2 ^ 64) < j) (h2 : j < 2 ^ 64) : mulOk i j = true := by
  unfold mulOk
  have a : decide (-(2 ^ 64) < j) = true := decide_eq_true h
  have b : decide (j < 2 ^ 64) = true := decide_eq_true h2
  rw [a, b]
  simp
theorem mulOk_w {i j : Int} (h : i.natAbs < 2 ^ 400) (h2 : j.natAbs < 2 ^ 400) : mulOk i j = true := by
  have a := log2_lt_of h (by decide)
  have b := log2_lt_of h2 (by decide)
  unfold mulOk
  have c : decide (i.natAbs.log2 + j.natAbs.log2 < 1000000) = true := decide_eq_true (by omega)
  rw [c]
  simp
theorem mulOk_n {i j : Int} (h0 : 0 ≤ i) (h : i < 2 ^ 300) (h1 : 0 ≤ j) (h2 : j < 2 ^ 300) : mulOk i j = true :=
  mulOk_w (by have : (2 : Int) ^ 300 < 2 ^ 400 := by decide
              have e : ((i.natAbs : Nat) : Int) = i := Int.natAbs_of_nonneg h0
              have : ((i.natAbs : Nat) : Int) < ((2 ^ 400 : Nat) : Int) := by rw [e]; exact Int.lt_trans h this
              exact Int.ofNat_lt.mp this)
    (by have : (2 : Int) ^ 300 < 2 ^ 400 := by decide
        have e : ((j.natAbs : Nat) : Int) = j := Int.natAbs_of_nonneg h1
        have : ((j.natAbs : Nat) : Int) < ((2 ^ 400 : Nat) : Int) := by rw [e]; exact Int.lt_trans h2 this
        exact Int.ofNat_lt.mp this)
theorem drawn_ok (x y : Int) : ∃ r : Int, m__law_drawn [.int x, .int y] = .ok (.int r) := by
  unfold m__law_drawn b__law_drawn
  have h1 : ∀ i, mulOk i 6364136223846793005 = true := fun i => mulOk_r (by decide) (by decide)
  have h2 : ∀ i, mulOk i 1442695040888963407 = true := fun i => mulOk_r (by decide) (by decide)
  have lg : Nat.log2 18446744073709551557 < 9000 := log2_lt_of (Nat.lt_trans (by decide : 18446744073709551557 < 2 ^ 64) (by decide)) (by decide)
  simp [h1, h2, lg]
  generalize ha : (x * 6364136223846793005 + (y + 1) * 1442695040888963407) % 340282366920938463463374607431768211507 = a
  have a0 : 0 ≤ a := by rw [← ha]; exact Int.emod_nonneg _ (by decide)
  have a1 : a < 340282366920938463463374607431768211507 := by rw [← ha]; exact Int.emod_lt_of_pos _ (by decide)
  have m1 : mulOk a a = true := mulOk_n a0 (Int.lt_trans a1 (by decide)) a0 (Int.lt_trans a1 (by decide))
  rw [if_pos m1]
  generalize hc : a * a % 340282366920938463463374607431768211297 = c
  have c0 : 0 ≤ c := by rw [← hc]; exact Int.emod_nonneg _ (by decide)
  have c1 : c < 340282366920938463463374607431768211297 := by rw [← hc]; exact Int.emod_lt_of_pos _ (by decide)
  generalize hr : c % 18446744073709551557 = r
  have r0 : 0 ≤ r := by rw [← hr]; exact Int.emod_nonneg _ (by decide)
  have r1 : r < 18446744073709551557 := by rw [← hr]; exact Int.emod_lt_of_pos _ (by decide)
  generalize hq : c / 18446744073709551557 = q
  have q0 : 0 ≤ q := by rw [← hq]; exact Int.ediv_nonneg c0 (by decide)
  have q1 : q < 36893488147419103232 := by rw [← hq]; exact Int.ediv_lt_of_lt_mul (by decide) (Int.lt_trans c1 (by decide))
  have m2 : mulOk (r + 1) (q + 1) = true := mulOk_n (by omega) (Int.lt_trans (show r + 1 < 18446744073709551559 by omega) (by decide)) (by omega) (Int.lt_trans (show q + 1 < 36893488147419103233 by omega) (by decide))
  rw [if_pos m2]
  have p0 : 0 ≤ (r + 1) * (q + 1) := Int.mul_nonneg (by omega) (by omega)
  have p1 : (r + 1) * (q + 1) ≤ 18446744073709551558 * 36893488147419103232 := Int.mul_le_mul (by omega) (by omega) (by omega) (by decide)
  have m3 : mulOk ((r + 1) * (q + 1)) c = true := mulOk_n p0 (Int.lt_of_le_of_lt p1 (by decide)) c0 (Int.lt_trans c1 (by decide))
  rw [if_pos m3]
  exact ⟨_, rfl⟩
theorem roll_ok (x y m : Int) (h0 : 0 < m) (h1 : m < 2 ^ 20) : ∃ r x' y' : Int, 0 ≤ r ∧ r < m ∧ m__law_roll [.int x, .int y] [.int m] = .ok (.int r, [.int x', .int y']) := by
  have lg : m.natAbs.log2 < 9000 := log2_lt_of (k := 9000) (Nat.lt_of_lt_of_le (show m.natAbs < 2 ^ 20 by omega) (Nat.pow_le_pow_right (by decide) (by decide))) (by decide)
  have lg8 : Nat.log2 8 < 9000 := Nat.lt_trans (log2_lt_of (n := 8) (k := 4) (by decide) (by decide)) (by decide)
  unfold m__law_roll b__law_roll
  obtain ⟨d, hd⟩ := drawn_ok x (y + 1)
  by_cases hx : 1000000000000000000 ≤ x
  · refine ⟨x % m, x / m, y, Int.emod_nonneg _ (by omega), Int.emod_lt_of_pos _ h0, ?_⟩
    simp [hx, h0, lg]
  · refine ⟨d / 8 % m, x, y + 1, Int.emod_nonneg _ (by omega), Int.emod_lt_of_pos _ h0, ?_⟩
    simp [hx, h0, hd, lg8]
end Mi
set_option Elab.async false
set_option linter.all false
set_option maxRecDepth 100000
set_option maxHeartbeats 0
namespace Mi
open PySem L2
def stM (x y : Int) (n f : Option S) (μ : Sto) : MSt := [none, some (.dc [.int x, .int y]), n, f, none, none, none, none, none, some (.sto true μ)]
def okNx (o : Out Fl) : Bool := match o with
  | .ok .nx ρ => isDc ρ[1]? && decide (ρ.length = 10)
  | _ => false
/-- the new foundry -/
def new0 : Sto := match m_Foundry___init__ [.obj "Foundry" []] [.loc 0] with
  | .ok _ μ => μ
  | _ => []
/-- all of a round but its dice -/
def b_rest : MM Fl := (seqS s_law_2 (seqS s_law_3 (seqS s_law_4 (seqS s_law_5 (seqS s_law_6 (seqS s_law_7 (seqS s_law_8 (seqS s_law_9 (seqS s_law_10 (seqS s_law_11 (seqS s_law_12 (seqS s_law_13 (seqS s_law_14 (seqS s_law_15 (seqS s_law_16 (seqS s_law_17 (seqS s_law_18 (fun ρ => s_law_19 (frzS 5 ρ)))))))))))))))))))
theorem rest_1 {x y : Int} : okNx (b_rest (stM x y (some (.d (.int 1))) (some (.d (.loc 0))) new0)) = true := by kernel_rfl
theorem rest_2 {x y : Int} : okNx (b_rest (stM x y (some (.d (.int 2))) (some (.d (.loc 0))) new0)) = true := by kernel_rfl
theorem rest_3 {x y : Int} : okNx (b_rest (stM x y (some (.d (.int 3))) (some (.d (.loc 0))) new0)) = true := by kernel_rfl
theorem rest_4 {x y : Int} : okNx (b_rest (stM x y (some (.d (.int 4))) (some (.d (.loc 0))) new0)) = true := by kernel_rfl
theorem rest_5 {x y : Int} : okNx (b_rest (stM x y (some (.d (.int 5))) (some (.d (.loc 0))) new0)) = true := by kernel_rfl
theorem rest_6 {x y : Int} : okNx (b_rest (stM x y (some (.d (.int 6))) (some (.d (.loc 0))) new0)) = true := by kernel_rfl
theorem rest_7 {x y : Int} : okNx (b_rest (stM x y (some (.d (.int 7))) (some (.d (.loc 0))) new0)) = true := by kernel_rfl
theorem rest_8 {x y : Int} : okNx (b_rest (stM x y (some (.d (.int 8))) (some (.d (.loc 0))) new0)) = true := by kernel_rfl
theorem rest_9 {x y : Int} : okNx (b_rest (stM x y (some (.d (.int 9))) (some (.d (.loc 0))) new0)) = true := by kernel_rfl
theorem okNx_ex {o : Out Fl} (h : okNx o = true) : ∃ ρ', o = .ok .nx ρ' ∧ isDc ρ'[1]? = true ∧ ρ'.length = 10 := by
  unfold okNx at h
  split at h
  · rename_i ρ'
    rw [Bool.and_eq_true, decide_eq_true_eq] at h
    exact ⟨ρ', rfl, h.1, h.2⟩
  · cases h
theorem rest_ok {x y n : Int} (h1 : 1 ≤ n) (h2 : n ≤ 9) : ∃ ρ', b_rest (stM x y (some (.d (.int n))) (some (.d (.loc 0))) new0) = .ok .nx ρ' ∧ isDc ρ'[1]? = true ∧ ρ'.length = 10 := by
  have : n = 1 ∨ n = 2 ∨ n = 3 ∨ n = 4 ∨ n = 5 ∨ n = 6 ∨ n = 7 ∨ n = 8 ∨ n = 9 := by omega
  rcases this with rfl | rfl | rfl | rfl | rfl | rfl | rfl | rfl | rfl
  · exact okNx_ex rest_1
  · exact okNx_ex rest_2
  · exact okNx_ex rest_3
  · exact okNx_ex rest_4
  · exact okNx_ex rest_5
  · exact okNx_ex rest_6
  · exact okNx_ex rest_7
  · exact okNx_ex rest_8
  · exact okNx_ex rest_9
end Mi
set_option Elab.async false
set_option linter.all false
set_option maxRecDepth 100000
set_option maxHeartbeats 2000000
namespace Mi
open PySem L2
theorem make_0 {x y : Int} {n : Option S} : makeE "Foundry" m_Foundry___init__ (MM.pure []) (stM x y none none []) = .ok (.loc 0) (stM x y none none new0) := by kernel_rfl
theorem law_1 (x y : Int) : ∃ x' y' n, 1 ≤ n ∧ n ≤ 9 ∧ s_law_1 (roundSt 9 x y) = .ok .nx (stM x' y' (some (.d (.int n))) (some (.d (.loc 0))) new0) := by
  obtain ⟨r, x1, y1, r0, r1, h1⟩ := roll_ok x y 9 (by decide) (by decide)
  refine ⟨x1, y1, 1 + r, by omega, by omega, ?_⟩
  have a := make_0 (x := x1) (y := y1) (n := none)
  have b : (op2 dAdd (MM.pure (.int 1)) (callO m__law_roll 1 (consA (MM.pure (.int 9)) (MM.pure [])))) (stM x y none none []) = .ok (.int (1 + r)) (stM x1 y1 none none []) := by
    simp [stM, h1]
  show s_law_1 (stM x y none none []) = _
  unfold s_law_1
  generalize hm : makeE "Foundry" m_Foundry___init__ (MM.pure []) = M at *
  generalize ho : (op2 dAdd (MM.pure (.int 1)) (callO m__law_roll 1 (consA (MM.pure (.int 9)) (MM.pure [])))) = N at *
  generalize new0 = ν at *
  simp [a, b]
  simp [stM]
theorem round_ok : RoundOk 9 b_law := by
  intro x y
  obtain ⟨x', y', n, h1, h2, e⟩ := law_1 x y
  obtain ⟨ρ, e2, h3, h4⟩ := rest_ok (x := x') (y := y') h1 h2
  refine ⟨ρ, .inl ?_, h3, h4⟩
  show seqS s_law_1 b_rest _ = _
  rw [seqS_ap, e]
  exact e2
end Mi
theorem PySem.Challenge.cw_castinghall_k27_refusals_apart_holds : PySem.Challenge.rw_castinghall_k27_refusals_apart.Holds := by
  exact Mi.holds_of Mi.round_ok
